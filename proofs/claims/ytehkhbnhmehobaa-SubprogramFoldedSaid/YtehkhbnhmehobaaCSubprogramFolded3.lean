/- A part of the proof of SubprogramFolded. -/
import Derived.Deep.Slices
import Derived.ChangeArms
import Derived.WalkKit
import Derived.ProofKit
import Derived.WideShapes
import Derived.Test.YtehkhbnhmehobaaCSubprogramFolded1
import Derived.Test.YtehkhbnhmehobaaCSubprogramFolded2
namespace Go.Proofs.Ytehkhbnhmehobaa.P
open Go.RowKit Go.Proofs.YtehkhbnhmehobaaW.PrintWords Go.Proofs.YtehkhbnhmehobaaW.PrintLast Go.Proofs.YtehkhbnhmehobaaW.PrintMore
set_option linter.unusedVariables false
set_option linter.unusedSimpArgs false
theorem sumL_mono (k : Nat) (dp sz : Int → Int) : ∀ (l : List S32) (d s : Int), LeO (sumL k dp sz l d s) (sumL (k + 1) dp sz l d s)
  | [], d, s => LeO.refl _
  | b :: l, d, s => by
    unfold sumL
    refine LeO.bind (callF_mono k b) (fun r => ?_)
    refine LeO.ite (LeO.ite (sumL_mono k dp sz l _ _) (LeO.none _)) (sumL_mono k dp sz l _ _)
theorem measL_mono {r1 r2 : Int → St3 → Option (Bool × St3)} (h : ∀ n S, LeO (r1 n S) (r2 n S)) (k : Nat) : ∀ (l : List S32) (S : St3), LeO (measL r1 k l S) (measL r2 (k + 1) l S)
  | [], S => LeO.refl _
  | b :: l, S => by
    unfold measL
    refine LeO.bind (callF_mono k b) (fun r => ?_)
    refine LeO.ite (LeO.ite (LeO.bind (h _ _) (fun m => LeO.ite (measL_mono h k l _) (LeO.refl _))) (LeO.none _)) (measL_mono h k l _)
theorem measF_mono (subs : Int → List S32) (kc : Nat) : ∀ (k : Nat) (n : Int) (S : St3), LeO (measF subs kc k n S) (measF subs (kc + 1) (k + 1) n S)
  | 0, n, S => by unfold measF; exact LeO.none _
  | k + 1, n, S => by
    rw [measF, measF]
    refine LeO.ite (LeO.refl _) (LeO.ite (LeO.refl _) (LeO.bind (measL_mono (measF_mono subs kc k) kc _ _) (fun m => LeO.ite (LeO.bind (sumL_mono kc _ _ _ _ _) (fun s => LeO.refl _)) (LeO.refl _))))
theorem measAll_mono (subs : Int → List S32) (k : Nat) : ∀ (l : List S81) (S : St3), LeO (measAll subs k l S) (measAll subs (k + 1) l S)
  | [], S => LeO.refl _
  | x :: l, S => by
    unfold measAll
    exact LeO.ite (LeO.bind (measF_mono subs k k _ _) (fun m => LeO.ite (measAll_mono subs k l _) (LeO.refl _))) (LeO.none _)
theorem expL_mono {r1 r2 : List S32 → Done → Option (List S32 × Done)} (h : ∀ l D, LeO (r1 l D) (r2 l D)) (k : Nat) (subs : Int → List S32) : ∀ (l out : List S32) (D : Done), LeO (expL k r1 subs l out D) (expL (k + 1) r2 subs l out D)
  | [], out, D => LeO.refl _
  | b :: l, out, D => by
    unfold expL
    refine LeO.bind (callF_mono k b) (fun r => LeO.ite (LeO.ite (LeO.ite (LeO.bind ?_ (fun q => LeO.ite (expL_mono h k subs l _ _) (LeO.ite (expL_mono h k subs l _ _) (LeO.none _)))) (LeO.none _)) (LeO.none _)) (LeO.ite (expL_mono h k subs l _ _) (LeO.none _)))
    cases D r.1 with
    | some x => exact LeO.refl _
    | none =>
      intro q hq
      obtain ⟨y, hy, rfl⟩ := Option.map_eq_some_iff.mp hq
      exact Option.map_eq_some_iff.mpr ⟨y, h _ _ y hy, rfl⟩
theorem expF_mono (kc : Nat) (subs : Int → List S32) : ∀ (k : Nat) (l : List S32) (D : Done), LeO (expF kc subs k l D) (expF (kc + 1) subs (k + 1) l D)
  | 0, l, D => by unfold expF; exact LeO.none _
  | k + 1, l, D => by
    rw [expF, expF]
    exact expL_mono (expF_mono kc subs k) kc subs l [] D
abbrev SubsO := Int → Option (List S32)
def checkedF (k : Nat) (l0 : List S32) (l1 : List S81) : Option (Int × SubsO × St3 × Int) :=
  (newF k l0 l1).bind fun q => if q.1 = 0 then (sumL k q.2.2.2.1 q.2.2.2.2 l0 0 0).bind fun s => if s.1 > 8 then some (3, q.2.1, q.2.2, 0) else if s.2 > 20000 then some (3, q.2.1, q.2.2, 0) else some (0, q.2.1, q.2.2, s.2) else some (q.1, q.2.1, q.2.2, 0)
def subprogram_Size.f (k : Nat) (l0_0 : List (S32)) (l0_1 : List (S81)) : Option (Int × Int) := (checkedF k l0_0 l0_1).bind fun q => some (q.2.2.2, q.1)
def subprogram_Expand.f (k : Nat) (l0_0 : List (S32)) (l0_1 : List (S81)) : Option ((List (S32)) × Int) :=
  (checkedF k l0_0 l0_1).bind fun q => if q.1 = 0 then (expF k (fun y => (q.2.1 y).getD []) k l0_0 (fun _ => none)).bind fun r => if (decide (r.1.length < 1000000) && r.1.all (fun x => decide (x.f1.length < 1000000))) = true then some (r.1, 0) else none else some ([], q.1)
def CheckPost (w : World) (er size : Int) (M : SubsO) (S : St3) (e : Ending) (w' : World) : Prop := ∃ pp : Option Addr, e = .returned (.tuple #[.pointer pp, .int .i64 size, .int .i64 er]) ∧ Below w.heap.size w w' ∧ (er = 0 → ∃ gx g0 g1 g2 g3 g4, pp = some ⟨gx, 0, none⟩ ∧ ExpW w w' gx g0 g1 g2 g3 g4 (fun y => (M y).getD []) S)
theorem CheckPost.of {w w' : World} {er size : Int} {M : SubsO} {S : St3} (pp : Option Addr) (h1 : Below w.heap.size w w') (h2 : er = 0 → ∃ gx g0 g1 g2 g3 g4, pp = some ⟨gx, 0, none⟩ ∧ ExpW w w' gx g0 g1 g2 g3 g4 (fun y => (M y).getD []) S) : CheckPost w er size M S (.returned (.tuple #[.pointer pp, .int .i64 size, .int .i64 er])) w' := ⟨pp, rfl, h1, h2⟩
theorem ExpW.from {w w1 W : World} {gx g0 g1 g2 g3 g4 : Nat} {subs : Int → List S32} {S : St3} (h : ExpW w1 W gx g0 g1 g2 g3 g4 subs S) (hb : Below w.heap.size w w1) (hs : SubMap w W g0 subs) : ExpW w W gx g0 g1 g2 g3 g4 subs S := by
  have := hb.size
  have h1 := h.ge1
  have h2 := h.ge2
  have h3 := h.ge3
  have h4 := h.ge4
  exact { h with below := below_then hb hb.size h.below, sub := hs, ge1 := by omega, ge2 := by omega, ge3 := by omega, ge4 := by omega }
def CheckPost' (w : World) (er size : Int) (M : SubsO) (S : St3) (e : Ending) (w' : World) : Prop := ∃ pp : Option Addr, e = .returned (.tuple #[.pointer pp, .int .i64 size, .int .i64 er]) ∧ Below w.heap.size w w' ∧ (er = 0 → ∃ wg gx g0 g1 g2 g3 g4, Below w.heap.size w wg ∧ pp = some ⟨gx, 0, none⟩ ∧ ExpW wg w' gx g0 g1 g2 g3 g4 (fun y => (M y).getD []) S)
theorem CheckPost'.of {w w' : World} {er size : Int} {M : SubsO} {S : St3} (pp : Option Addr) (h1 : Below w.heap.size w w') (h2 : er = 0 → ∃ wg gx g0 g1 g2 g3 g4, Below w.heap.size w wg ∧ pp = some ⟨gx, 0, none⟩ ∧ ExpW wg w' gx g0 g1 g2 g3 g4 (fun y => (M y).getD []) S) : CheckPost' w er size M S (.returned (.tuple #[.pointer pp, .int .i64 size, .int .i64 er])) w' := ⟨pp, rfl, h1, h2⟩
set_option maxHeartbeats 4000000 in
set_option maxRecDepth 100000 in
theorem checked_calls (k : Nat) (A0 : Option Addr) (c0 : Nat) (l0 : List S32) (A1 : Option Addr) (c1 : Nat) (l1 : List S81) (er size : Int) (M : SubsO) (S : St3) (w : World) (hr0_0 : Kd.C k32 w A0 l0.length l0) (hc0_0 : l0.length ≤ c0) (hr0_1 : Kd.C k81 w A1 l1.length l1) (hc0_1 : l1.length ≤ c1) (h : checkedF k l0 l1 = some (er, M, S, size)) :
    Calls Try.prog 63 #[.agg #[.slice A0 l0.length c0, .slice A1 l1.length c1]] w (CheckPost' w er size M S) := by
  have hu54 := Try.underlying54
  unfold checkedF at h
  obtain ⟨⟨e0, M0, S0⟩, hn, h2⟩ := Option.bind_eq_some_iff.mp h
  have HR0 := Aside0.mk hr0_0
  have HC0 := Aside0.mk hc0_0
  have HR1 := Aside0.mk hr0_1
  have HC1 := Aside0.mk hc0_1
  have HN := Aside0.mk hn
  have H := Aside0.mk h2
  clear hr0_0 hc0_0 hr0_1 hc0_1 h hn h2
  by_cases he : e0 = 0
  · subst he
    have H2 := H.out
    simp only [if_true] at H2
    obtain ⟨⟨d, s⟩, hs, H3⟩ := Option.bind_eq_some_iff.mp H2
    have HS := Aside0.mk hs
    have HT := Aside0.mk H3
    clear H2 hs H3 H
    by_cases hd : d > 8
    · have H4 := HT.out
      simp only [if_pos hd, Option.some.injEq, Prod.mk.injEq] at H4
      obtain ⟨rfl, rfl, rfl, rfl⟩ := H4
      clear HT
      go_enter Try.func63, Try.ntmps63
      go_wp2_with (first | ((with_reducible refine gate_dst (N := 1) rfl ?_); refine yX 1 #[.slice A0 l0.length c0, .slice A1 l1.length c1] 54 ?_; intro gp hgp w1 hbox hb; have BP1 := Aside0.mk hbox; have HB1 := Aside0.mk hb; clear hgp hbox hb; have hz0_1 : w1.cell? ⟨gp, 0, none⟩ = some (.slice A0 l0.length c0) := (blk_cell BP1.out 0).trans rfl; have hz1_1 : w1.cell? ⟨gp, 1, none⟩ = some (.slice A1 l1.length c1) := (blk_cell BP1.out 1).trans rfl) | (go_at_call 94; (with_reducible refine (newExpander_calls k A0 c0 l0 A1 c1 l1 0 _ _ _ (Kd.C_below HR0.out HB1.out) HC0.out (Kd.C_below HR1.out HB1.out) HC1.out HN.out).mono ?_); rintro e2 w2 hpost; obtain ⟨pp, rfl, hb2, himp⟩ := hpost; have HB2 := Aside0.mk (below_then HB1.out HB1.out.size hb2); have BP2 := Aside0.mk (blk_below BP1.out hb2); obtain ⟨gx, g0, g1, g2, g3, g4, rfl, hew⟩ := himp rfl; have HE2 := Aside0.mk hew; clear himp hew hb2 hz0_1 hz1_1; have hz0_2 : w2.cell? ⟨gp, 0, none⟩ = some (.slice A0 l0.length c0) := (blk_cell BP2.out 0).trans rfl) | (go_at_call 95; (with_reducible refine (sum_calls k gx g0 g1 g2 g3 g4 _ _ A0 c0 l0 d s _ HE2.out.exp HE2.out.m2 HE2.out.m3 (Kd.C_below HR0.out HB2.out) HC0.out HS.out).mono ?_); rintro e3 w3 ⟨rfl, hb3⟩; have HB3 := Aside0.mk (below_then HB2.out HB2.out.size hb3); have HE3 := Aside0.mk (HE2.out.step hb3); clear hb3))
      refine bodyPost_ret (results_list (rs := [.tmp 2, .tmp 3, .tmp 4]) rfl (by simp) (.tmp (.tmp (.tmp .nil)))) rfl ?_
      exact CheckPost'.of none HB3.out (fun h => absurd h (by decide))
    by_cases hs2 : s > 20000
    · have H4 := HT.out
      simp only [if_neg hd, if_pos hs2, Option.some.injEq, Prod.mk.injEq] at H4
      obtain ⟨rfl, rfl, rfl, rfl⟩ := H4
      clear HT
      go_enter Try.func63, Try.ntmps63
      go_wp2_with (first | ((with_reducible refine gate_dst (N := 1) rfl ?_); refine yX 1 #[.slice A0 l0.length c0, .slice A1 l1.length c1] 54 ?_; intro gp hgp w1 hbox hb; have BP1 := Aside0.mk hbox; have HB1 := Aside0.mk hb; clear hgp hbox hb; have hz0_1 : w1.cell? ⟨gp, 0, none⟩ = some (.slice A0 l0.length c0) := (blk_cell BP1.out 0).trans rfl; have hz1_1 : w1.cell? ⟨gp, 1, none⟩ = some (.slice A1 l1.length c1) := (blk_cell BP1.out 1).trans rfl) | (go_at_call 94; (with_reducible refine (newExpander_calls k A0 c0 l0 A1 c1 l1 0 _ _ _ (Kd.C_below HR0.out HB1.out) HC0.out (Kd.C_below HR1.out HB1.out) HC1.out HN.out).mono ?_); rintro e2 w2 hpost; obtain ⟨pp, rfl, hb2, himp⟩ := hpost; have HB2 := Aside0.mk (below_then HB1.out HB1.out.size hb2); have BP2 := Aside0.mk (blk_below BP1.out hb2); obtain ⟨gx, g0, g1, g2, g3, g4, rfl, hew⟩ := himp rfl; have HE2 := Aside0.mk hew; clear himp hew hb2 hz0_1 hz1_1; have hz0_2 : w2.cell? ⟨gp, 0, none⟩ = some (.slice A0 l0.length c0) := (blk_cell BP2.out 0).trans rfl) | (go_at_call 95; (with_reducible refine (sum_calls k gx g0 g1 g2 g3 g4 _ _ A0 c0 l0 d s _ HE2.out.exp HE2.out.m2 HE2.out.m3 (Kd.C_below HR0.out HB2.out) HC0.out HS.out).mono ?_); rintro e3 w3 ⟨rfl, hb3⟩; have HB3 := Aside0.mk (below_then HB2.out HB2.out.size hb3); have HE3 := Aside0.mk (HE2.out.step hb3); clear hb3))
      refine bodyPost_ret (results_list (rs := [.tmp 2, .tmp 3, .tmp 4]) rfl (by simp) (.tmp (.tmp (.tmp .nil)))) rfl ?_
      exact CheckPost'.of none HB3.out (fun h => absurd h (by decide))
    have H4 := HT.out
    simp only [if_neg hd, if_neg hs2, Option.some.injEq, Prod.mk.injEq] at H4
    obtain ⟨rfl, rfl, rfl, rfl⟩ := H4
    clear HT
    go_enter Try.func63, Try.ntmps63
    go_wp2_with (first | ((with_reducible refine gate_dst (N := 1) rfl ?_); refine yX 1 #[.slice A0 l0.length c0, .slice A1 l1.length c1] 54 ?_; intro gp hgp w1 hbox hb; have BP1 := Aside0.mk hbox; have HB1 := Aside0.mk hb; clear hgp hbox hb; have hz0_1 : w1.cell? ⟨gp, 0, none⟩ = some (.slice A0 l0.length c0) := (blk_cell BP1.out 0).trans rfl; have hz1_1 : w1.cell? ⟨gp, 1, none⟩ = some (.slice A1 l1.length c1) := (blk_cell BP1.out 1).trans rfl) | (go_at_call 94; (with_reducible refine (newExpander_calls k A0 c0 l0 A1 c1 l1 0 _ _ _ (Kd.C_below HR0.out HB1.out) HC0.out (Kd.C_below HR1.out HB1.out) HC1.out HN.out).mono ?_); rintro e2 w2 hpost; obtain ⟨pp, rfl, hb2, himp⟩ := hpost; have HB2 := Aside0.mk (below_then HB1.out HB1.out.size hb2); have BP2 := Aside0.mk (blk_below BP1.out hb2); obtain ⟨gx, g0, g1, g2, g3, g4, rfl, hew⟩ := himp rfl; have HE2 := Aside0.mk hew; clear himp hew hb2 hz0_1 hz1_1; have hz0_2 : w2.cell? ⟨gp, 0, none⟩ = some (.slice A0 l0.length c0) := (blk_cell BP2.out 0).trans rfl) | (go_at_call 95; (with_reducible refine (sum_calls k gx g0 g1 g2 g3 g4 _ _ A0 c0 l0 d s _ HE2.out.exp HE2.out.m2 HE2.out.m3 (Kd.C_below HR0.out HB2.out) HC0.out HS.out).mono ?_); rintro e3 w3 ⟨rfl, hb3⟩; have HB3 := Aside0.mk (below_then HB2.out HB2.out.size hb3); have HE3 := Aside0.mk (HE2.out.step hb3); clear hb3))
    refine bodyPost_ret (results_list (rs := [.tmp 2, .tmp 3, .tmp 4]) rfl (by simp) (.tmp (.tmp (.tmp .nil)))) rfl ?_
    exact CheckPost'.of (some ⟨gx, 0, none⟩) HB3.out (fun _ => ⟨w1, gx, g0, g1, g2, g3, g4, HB1.out, rfl, HE3.out⟩)
  have H4 := H.out
  simp only [if_neg he, Option.some.injEq, Prod.mk.injEq] at H4
  obtain ⟨rfl, rfl, rfl, rfl⟩ := H4
  have hne : (e0 == 0) = false := beq_eq_false_iff_ne.mpr he
  have hne2 : (e0 != 0) = true := bne_iff_ne.mpr he
  have HE0 := Aside0.mk he
  clear H he
  go_enter Try.func63, Try.ntmps63
  go_wp2_with (first | ((with_reducible refine gate_dst (N := 1) rfl ?_); refine yX 1 #[.slice A0 l0.length c0, .slice A1 l1.length c1] 54 ?_; intro gp hgp w1 hbox hb; have BP1 := Aside0.mk hbox; have HB1 := Aside0.mk hb; clear hgp hbox hb; have hz0_1 : w1.cell? ⟨gp, 0, none⟩ = some (.slice A0 l0.length c0) := (blk_cell BP1.out 0).trans rfl; have hz1_1 : w1.cell? ⟨gp, 1, none⟩ = some (.slice A1 l1.length c1) := (blk_cell BP1.out 1).trans rfl) | (go_at_call 94; (with_reducible refine (newExpander_calls k A0 c0 l0 A1 c1 l1 e0 _ _ _ (Kd.C_below HR0.out HB1.out) HC0.out (Kd.C_below HR1.out HB1.out) HC1.out HN.out).mono ?_); rintro e2 w2 hpost; obtain ⟨pp, rfl, hb2, himp⟩ := hpost; have HB2 := Aside0.mk (below_then HB1.out HB1.out.size hb2); have BP2 := Aside0.mk (blk_below BP1.out hb2); clear himp hb2))
  refine bodyPost_ret (results_list (rs := [.tmp 2, .tmp 3, .tmp 4]) rfl (by simp) (.tmp (.tmp (.tmp .nil)))) rfl ?_
  exact CheckPost'.of none HB2.out (fun h => absurd h HE0.out)
theorem ExpW.expD {w W : World} {gx g0 g1 g2 g3 g4 : Nat} {subs : Int → List S32} {S : St3} (h : ExpW w W gx g0 g1 g2 g3 g4 subs S) : ExpD w W gx g0 g1 g2 g3 g4 subs (fun k => k < w.heap.size) (fun _ => none) := by
  have h4 := h.ge4
  refine { below := h.below, exp := h.exp, sub := ?_, done := ⟨_, h.m4, fun y => ⟨rfl, none, 0, rfl, Kd.V_nil _ _ _ _ _⟩⟩, n04 := h.n04, ge4 := h.ge4, lt4 := h.m4.lt, ok0 := fun _ hk => hk, ok4 := fun hk => by omega }
  obtain ⟨F, hm, hf⟩ := h.sub
  refine ⟨F, hm, fun y => ?_⟩
  obtain ⟨A, c, h1, h2, h3⟩ := hf y
  exact ⟨A, c, h1, Kd.V_mk h2 (Kd.C_F k32_heap h3)⟩
set_option maxHeartbeats 8000000 in
set_option maxRecDepth 100000 in
theorem subprogram_Expand.calls (k : Nat) (A0 : Option Addr) (c0 : Nat) (l0 : List S32) (A1 : Option Addr) (c1 : Nat) (l1 : List S81) (r1 : List (S32)) (r2 : Int) (w : World) (hr0_0 : Kd.C k32 w A0 l0.length l0) (hc0_0 : l0.length ≤ c0) (hr0_1 : Kd.C k81 w A1 l1.length l1) (hc0_1 : l1.length ≤ c1) (h : subprogram_Expand.f k l0 l1 = some (r1, r2)) :
    Calls Try.prog 28 #[.agg #[.slice A0 l0.length c0, .slice A1 l1.length c1]] w fun e w' => ∃ v0_ : Value, e = .returned (.tuple #[v0_, .int .i64 r2]) ∧ Kd.S k32 32 w' w.heap.size (fun _ => True) v0_ r1 ∧ Below w.heap.size w w' := by
  have hu54 := Try.underlying54
  have hu32 := Try.underlying32
  unfold subprogram_Expand.f at h
  obtain ⟨⟨e0, M0, S0, z0⟩, hn, h2⟩ := Option.bind_eq_some_iff.mp h
  have HR0 := Aside0.mk hr0_0
  have HC0 := Aside0.mk hc0_0
  have HR1 := Aside0.mk hr0_1
  have HC1 := Aside0.mk hc0_1
  have HQ := Aside0.mk hn
  have H := Aside0.mk h2
  clear hr0_0 hc0_0 hr0_1 hc0_1 h hn h2
  by_cases he : e0 = 0
  · subst he
    have H2 := H.out
    simp only [if_true] at H2
    obtain ⟨⟨rr, D1⟩, hx, H3⟩ := Option.bind_eq_some_iff.mp H2
    have HX := Aside0.mk hx
    by_cases hgd : (decide (rr.length < 1000000) && rr.all (fun x => decide (x.f1.length < 1000000))) = true
    rotate_left
    · simp only [if_neg hgd] at H3; cases H3
    simp only [if_pos hgd, Option.some.injEq, Prod.mk.injEq] at H3
    obtain ⟨rfl, rfl⟩ := H3
    rw [Bool.and_eq_true] at hgd
    have HLN := Aside0.mk (of_decide_eq_true hgd.1)
    have HWL := Aside0.mk (show ∀ x ∈ rr, x.f1.length < 1000000 from fun x hx => of_decide_eq_true (List.all_eq_true.mp hgd.2 x hx))
    clear H2 hx hgd H
    go_enter Try.func28, Try.ntmps28
    go_wp2_with (first | ((with_reducible refine gate_dst (N := 1) rfl ?_); refine yX 1 #[.slice A0 l0.length c0, .slice A1 l1.length c1] 54 ?_; intro gp hgp w1 hbox hb; have BP1 := Aside0.mk hbox; have HB1 := Aside0.mk hb; clear hgp hbox hb; have hz0_1 : w1.cell? ⟨gp, 0, none⟩ = some (.slice A0 l0.length c0) := (blk_cell BP1.out 0).trans rfl; have hz1_1 : w1.cell? ⟨gp, 1, none⟩ = some (.slice A1 l1.length c1) := (blk_cell BP1.out 1).trans rfl) | (go_at_call 63; (with_reducible refine (checked_calls k A0 c0 l0 A1 c1 l1 0 z0 M0 S0 _ (Kd.C_below HR0.out HB1.out) HC0.out (Kd.C_below HR1.out HB1.out) HC1.out HQ.out).mono ?_); rintro e2 w2 hpost; obtain ⟨pp, rfl, hb2, himp⟩ := hpost; have HB2 := Aside0.mk (below_then HB1.out HB1.out.size hb2); have BP2 := Aside0.mk (blk_below BP1.out hb2); obtain ⟨wg, gx, g0, g1, g2, g3, g4, hbg, rfl, hew⟩ := himp rfl; have HBG := Aside0.mk (below_then HB1.out HB1.out.size hbg); have HED := Aside0.mk (show ExpD wg w2 gx g0 g1 g2 g3 g4 (fun y => (M0 y).getD []) (fun k => k < wg.heap.size) (fun _ => none) from hew.expD); clear himp hew hb2 hbg hz0_1 hz1_1; have hz0_2 : w2.cell? ⟨gp, 0, none⟩ = some (.slice A0 l0.length c0) := (blk_cell BP2.out 0).trans rfl) | (go_at_call 64; (with_reducible refine (expanded_calls k wg gx g0 g1 g2 g3 g4 (fun y => (M0 y).getD []) k l0 A0 c0 (fun k => k < wg.heap.size) (fun _ => none) D1 rr _ HED.out (Kd.V_mk HC0.out (Kd.C_F k32_heap (Kd.C_below HR0.out HBG.out))) HX.out).mono ?_); rintro e3 w3 ⟨v3, rfl, hn3, _, he3, _⟩; obtain ⟨A3, c3, rfl⟩ := Kd.N_slice hn3; have HB3 := Aside0.mk (below_then HBG.out HBG.out.size he3.below); have HC3 := Aside0.mk (Kd.N_reads' hn3).2.2; clear hn3 he3))
    clear HED BP1 BP2 hz0_2
    go_loopw [24, 7] (fun i v w' => ∃ (j : Nat), i = .int .i64 j ∧ Aside0 (j ≤ rr.length) ∧ Aside0 (Kd.S k32 32 w' w3.heap.size (fun _ => True) v (rr.take j)) ∧ Aside0 (Below w3.heap.size w3 w')) (fun i _ _ => rr.length - (intOf i).toNat)
    case atStart => exact ⟨0, rfl, ⟨Nat.zero_le _⟩, ⟨by simpa using Kd.S_nil _ _ _ _ _⟩, ⟨Below.refl _ _⟩⟩
    case round =>
      obtain ⟨j, rfl, HJ, HO, HB⟩ := hrel
      by_cases hlt : j < rr.length
      · obtain ⟨ad, A4, c4, e, hx0, hx1, hx2, hl4, hk4⟩ := at_T32 (Kd.C_below HC3.out HB.out) (j : Int) (by omega) (by omega)
        cases e
        have hrd : rd_T32 rr (j : Int) = rr[j] := by simp [rd_T32, hlt]
        rw [hrd] at hx0 hx1 hx2 hl4 hk4
        have TK := Aside0.mk (List.take_succ_eq_append_getElem hlt)
        have HWX := HWL.out rr[j] (List.getElem_mem hlt)
        have HL4 := Aside0.mk hl4
        have HK4 := Aside0.mk hk4
        clear hrd hl4 hk4
        generalize rr[j] = x at *
        have HCW := Aside0.mk (show Clone_Word.f x.f1 = some x.f1 from by unfold Clone_Word.f; rw [if_pos (by omega)])
        clear HWX
        simp only [Int.toNat_natCast] at hx0 hx1 hx2
        have hlt' : decide ((j : Int) < (rr.length : Int)) = true := by simp; omega
        go_wp2_with (first | (go_at_call 65; (with_reducible refine (Clone_Word.calls A4 c4 x.f1 x.f1 _ (Kd.C_alloc HK4.out _) HL4.out HCW.out).mono ?_); rintro e5 w5 ⟨v5, rfl, hr5, hb5⟩; obtain ⟨A5, c5, rfl⟩ := Kd.R_slice hr5; have HB5a := Aside0.mk (below_then (below_alloc (Below.refl _ _) _) (below_alloc (Below.refl _ _) _).size hb5); have BK5 := Aside0.mk (blk_below (alloc_at _ _) hb5); have HB5 := Aside0.mk (below_then HB.out HB.out.size HB5a.out); have HW5 := Aside0.mk hr5; have HO5 := Aside0.mk (Kd.S_below (Kd.S_bound HO.out) HB5a.out); have LTO := Aside0.mk (Kd.S_lt HO.out); have GEW := Aside0.mk (show ∀ k, (Value.slice A5 x.f1.length c5).ownBlock = some k → wr.heap.size < k from fun k hk => Nat.lt_of_lt_of_le (below_alloc_lt wr _) (Kd.R_base hr5 k hk)); clear hr5 hb5; have hz0 : w5.cell? ⟨wr.heap.size, 0, none⟩ = some (.bool x.f0) := (blk_cell BK5.out 0).trans rfl; have hz1 : w5.cell? ⟨wr.heap.size, 1, none⟩ = some (.slice A4 x.f1.length c4) := (blk_cell BK5.out 1).trans rfl; have hz2 : w5.cell? ⟨wr.heap.size, 2, none⟩ = some (.string x.f2) := (blk_cell BK5.out 2).trans rfl; have hfr : w5.frozen? ⟨wr.heap.size, 1, none⟩ = false := blk_frozen BK5.out 1) | ((with_reducible refine gate_store (p := 31) rfl ?_); refine store_event (t := 30) (p := 31) (v := ?vo) (w1 := (w5.setCell ⟨wr.heap.size, 1, none⟩ (.slice A5 x.f1.length c5))) ?hg ?ho ?hn ?hr ?_; (case ho => rfl); (case hg => rfl); (case hn => rfl); (case hr => first | (go_simp; done) | (go_simp; rfl)); intro w6 e6; have BK6 := Aside0.mk (show w6.heap[wr.heap.size]? = some (.cells #[.bool x.f0, .slice A5 x.f1.length c5, .string x.f2] 32 (0, 0)) from by rw [e6]; exact blk_put BK5.out 1 _ rfl); have HB6 := Aside0.mk (show Below w3.heap.size w3 w6 from by rw [e6]; exact below_set HB5.out (HB.out.size)); have HW6 := Aside0.mk (show Kd.R k78 78 w6 w3.heap.size (fun k => some k = (Value.slice A5 x.f1.length c5).ownBlock) (.slice A5 x.f1.length c5) x.f1 from by rw [e6]; exact Kd.R_far (p := ⟨wr.heap.size, 1, none⟩) (Kd.R_tight rfl (Kd.R_lower HW5.out (Nat.le_trans HB.out.size (Nat.le_of_lt (below_alloc_lt wr _))))) (fun k hk e => by have := GEW.out k hk.symm; simp only at e; omega) _); have HO6 := Aside0.mk (show Kd.S k32 32 w6 w3.heap.size (fun k => True ∧ ¬ some k = (Value.slice A5 x.f1.length c5).ownBlock) u7 (rr.take j) from by rw [e6]; exact Kd.S_mono (Kd.S_far (p := ⟨wr.heap.size, 1, none⟩) HO5.out (fun k hk e => by have := hk.2.2.1; simp only at e; omega) _) (fun k hk => ⟨trivial, fun e => by have := GEW.out k e.symm; have := hk.2.2.1; omega⟩)); clear e6 hz0 hz1 hz2 hfr; have hz0 : w6.cell? ⟨wr.heap.size, 0, none⟩ = some (.bool x.f0) := (blk_cell BK6.out 0).trans rfl; have hz1 : w6.cell? ⟨wr.heap.size, 1, none⟩ = some (.slice A5 x.f1.length c5) := (blk_cell BK6.out 1).trans rfl; have hz2 : w6.cell? ⟨wr.heap.size, 2, none⟩ = some (.string x.f2) := (blk_cell BK6.out 2).trans rfl) | ((with_reducible refine gate_builtin (b := .append) (xs := #[.tmp 32, .tmp 34]) rfl ?_); (try (refine gate_guard (by rfl) ?_; dsimp only)); at_builtin; refine Kd.S_append k32 (w0 := w3) w3.heap.size rfl (.tmp 32) (.tmp 34) 35 32 (.agg #[(.bool false), (.slice none 0 0), (.string ⟨#[]⟩)]) 48 rfl Try.underlying35 info32 rfl (by decide) (by omega) u7 (rr.take j) x [.bool x.f0, .slice A5 x.f1.length c5, .string x.f2] (fun _ => True) (fun k => some k = (Value.slice A5 x.f1.length c5).ownBlock) rfl rfl ?aP (fun k hk => ⟨trivial, fun e => by have h1 := LTO.out k e.symm; have h2 := GEW.out k hk.symm; omega⟩) (fun _ _ => trivial) HO6.out HB6.out HB6.out.size ?aL ?_; (case aP => exact k32_mkM _ _ _ x HW6.out); (case aL => have := HLN.out; simp only [List.length_take]; omega); intro v7 w7 ho hb hg hat; have HO7 := Aside0.mk (show Kd.S k32 32 w7 w3.heap.size (fun _ => True) v7 (rr.take (j + 1)) from by rw [TK.out]; exact ho); have HB7 := Aside0.mk hb; clear ho hb hg hat))
        go_roundw
        case rel => exact ⟨j + 1, by rw [wrap_succ hlt (by have := HLN.out; omega)], ⟨by omega⟩, ⟨HO7.out⟩, ⟨HB7.out⟩⟩
        case measure => rw [wrap_succ hlt (by have := HLN.out; omega)]; simp only [intOf, Int.toNat_natCast]; omega
      have hlt' : decide ((j : Int) < (rr.length : Int)) = false := by simp; omega
      have HOx := Aside0.mk (show Kd.S k32 32 wr w3.heap.size (fun _ => True) u7 rr from by have h_ := HO.out; rw [List.take_of_length_le (by omega)] at h_; exact h_)
      clear HO
      go_wp2
      go_ret2
      exact ⟨_, rfl, Kd.S_lower HOx.out HB3.out.size, below_then HB3.out HB3.out.size HB.out⟩
  have H4 := H.out
  simp only [if_neg he, Option.some.injEq, Prod.mk.injEq] at H4
  obtain ⟨rfl, rfl⟩ := H4
  have hne : (e0 == 0) = false := beq_eq_false_iff_ne.mpr he
  have hne2 : (e0 != 0) = true := bne_iff_ne.mpr he
  clear H he
  go_enter Try.func28, Try.ntmps28
  go_wp2_with (first | ((with_reducible refine gate_dst (N := 1) rfl ?_); refine yX 1 #[.slice A0 l0.length c0, .slice A1 l1.length c1] 54 ?_; intro gp hgp w1 hbox hb; have BP1 := Aside0.mk hbox; have HB1 := Aside0.mk hb; clear hgp hbox hb; have hz0_1 : w1.cell? ⟨gp, 0, none⟩ = some (.slice A0 l0.length c0) := (blk_cell BP1.out 0).trans rfl; have hz1_1 : w1.cell? ⟨gp, 1, none⟩ = some (.slice A1 l1.length c1) := (blk_cell BP1.out 1).trans rfl) | (go_at_call 63; (with_reducible refine (checked_calls k A0 c0 l0 A1 c1 l1 e0 z0 M0 S0 _ (Kd.C_below HR0.out HB1.out) HC0.out (Kd.C_below HR1.out HB1.out) HC1.out HQ.out).mono ?_); rintro e2 w2 hpost; obtain ⟨pp, rfl, hb2, himp⟩ := hpost; have HB2 := Aside0.mk (below_then HB1.out HB1.out.size hb2); have BP2 := Aside0.mk (blk_below BP1.out hb2); clear himp hb2))
  go_ret2
  exact ⟨_, rfl, Kd.S_nil _ _ _ _ _, HB2.out⟩
end Go.Proofs.Ytehkhbnhmehobaa.P
namespace Go.Proofs.Ytehkhbnhmehobaa.P
open Go.RowKit Go.Proofs.YtehkhbnhmehobaaW.PrintWords Go.Proofs.YtehkhbnhmehobaaW.PrintLast Go.Proofs.YtehkhbnhmehobaaW.PrintMore
attribute [local go_sem] max2_int min2_int max_two min_two max_three min_three max_four min_four
set_option linter.unusedVariables false
set_option linter.unusedSimpArgs false
theorem eqA25 (d : Nat) (w : World) (x0 y0 : Int) (x1 y1 : Int) (x2 y2 : Int) (x3 y3 : Int) (x4 y4 : Int) (x5 y5 : Int) (x6 y6 : Int) (x7 y7 : Int) :
    (Op.equalIn (d + 2) 25 (.agg #[.int .i64 x0, .int .i64 x1, .int .i64 x2, .int .i64 x3, .int .i64 x4, .int .i64 x5, .int .i64 x6, .int .i64 x7]) (.agg #[.int .i64 y0, .int .i64 y1, .int .i64 y2, .int .i64 y3, .int .i64 y4, .int .i64 y5, .int .i64 y6, .int .i64 y7])).run Try.prog w = .ok (x0 == y0 && (x1 == y1 && (x2 == y2 && (x3 == y3 && (x4 == y4 && (x5 == y5 && (x6 == y6 && (x7 == y7)))))))) w := by
  refine eqA_of Try.underlying25 (by kernel_rfl) ?_
  refine eqf_cons (by rfl) (by go_simp; rfl) (by go_simp; rfl) (by go_simp) ?_
  refine eqf_cons (by rfl) (by go_simp; rfl) (by go_simp; rfl) (by go_simp) ?_
  refine eqf_cons (by rfl) (by go_simp; rfl) (by go_simp; rfl) (by go_simp) ?_
  refine eqf_cons (by rfl) (by go_simp; rfl) (by go_simp; rfl) (by go_simp) ?_
  refine eqf_cons (by rfl) (by go_simp; rfl) (by go_simp; rfl) (by go_simp) ?_
  refine eqf_cons (by rfl) (by go_simp; rfl) (by go_simp; rfl) (by go_simp) ?_
  refine eqf_cons (by rfl) (by go_simp; rfl) (by go_simp; rfl) (by go_simp) ?_
  exact eqf_last (by rfl) (by go_simp; rfl) (by go_simp; rfl) (by go_simp)
theorem eqA78 (d : Nat) (w : World) (x0 y0 : Int) (x1 y1 : Int) :
    (Op.equalIn (d + 2) 78 (.agg #[.int .u8 x0, .int .i64 x1]) (.agg #[.int .u8 y0, .int .i64 y1])).run Try.prog w = .ok (x0 == y0 && (x1 == y1)) w := by
  refine eqA_of Try.underlying78 (by kernel_rfl) ?_
  refine eqf_cons (by rfl) (by go_simp; rfl) (by go_simp; rfl) (by go_simp) ?_
  exact eqf_last (by rfl) (by go_simp; rfl) (by go_simp; rfl) (by go_simp)
end Go.Proofs.Ytehkhbnhmehobaa.P
namespace Go.Proofs.Ytehkhbnhmehobaa.P
open Go.RowKit Go.Proofs.YtehkhbnhmehobaaW.PrintWords Go.Proofs.YtehkhbnhmehobaaW.PrintLast Go.Proofs.YtehkhbnhmehobaaW.PrintMore
attribute [local go_sem] max2_int min2_int max_two min_two max_three min_three max_four min_four
set_option linter.unusedVariables false
set_option linter.unusedSimpArgs false
attribute [local go_sem high] eqA25 eqA78
mutual
def swarfref41_Equal.j0 : Nat → Bool → Bool → List (S78) → ByteArray → Bool → List (S78) → ByteArray → Option (Bool)
 | 0, _, _, _, _, _, _, _ => none
 | k + 1, x26, x103000, x103001, x103002, x104000, x104001, x104002 => if x26 = true then (some false) else (swarfref41_Equal.l0 k 0 x103000 x103001 x103002 x104000 x104001 x104002)
def swarfref41_Equal.l0 : Nat → Int → Bool → List (S78) → ByteArray → Bool → List (S78) → ByteArray → Option (Bool)
 | 0, _, _, _, _, _, _, _ => none
 | k + 1, x5, x103000, x103001, x103002, x104000, x104001, x104002 => if x5 < (x103001.length : Int) then (if 0 ≤ x5 then (if x5 < (x104001.length : Int) then (if (!(((rd_T78 x103001 x5).f0) == ((rd_T78 x104001 x5).f0)) || (!(((rd_T78 x103001 x5).f1) == ((rd_T78 x104001 x5).f1)))) = true then (some false) else (swarfref41_Equal.l0 k (wrap64 (x5 + 1)) x103000 x103001 x103002 x104000 x104001 x104002)) else (none)) else (none)) else (some true)
end
def swarfref41_Equal.f (k : Nat) (a0_0 : Bool) (l0_1 : List (S78)) (a0_2 : ByteArray) (a1_0 : Bool) (l1_1 : List (S78)) (a1_2 : ByteArray) : Option (Bool) := if (a0_0 != a1_0) = true then (swarfref41_Equal.j0 k true a0_0 l0_1 a0_2 a1_0 l1_1 a1_2) else (if a0_2.toList = a1_2.toList then (swarfref41_Equal.j0 k ((l0_1.length : Int) != (l1_1.length : Int)) a0_0 l0_1 a0_2 a1_0 l1_1 a1_2) else (swarfref41_Equal.j0 k true a0_0 l0_1 a0_2 a1_0 l1_1 a1_2))
set_option maxHeartbeats 8000000 in
set_option maxRecDepth 100000 in
theorem swarfref41_Equal.calls (k : Nat) (a0_0 : Bool) (A0_1 : Option Addr) (c0_1 : Nat) (l0_1 : List (S78)) (a0_2 : ByteArray) (a1_0 : Bool) (A1_1 : Option Addr) (c1_1 : Nat) (l1_1 : List (S78)) (a1_2 : ByteArray) (r : Bool) (w : World) (hr0_1 : Kd.C k78 w A0_1 l0_1.length l0_1) (hc0_1 : l0_1.length ≤ c0_1) (hr1_1 : Kd.C k78 w A1_1 l1_1.length l1_1) (hc1_1 : l1_1.length ≤ c1_1) (h : swarfref41_Equal.f k a0_0 l0_1 a0_2 a1_0 l1_1 a1_2 = some r) :
  Calls Try.prog 53 #[.agg #[.bool a0_0, .slice A0_1 l0_1.length c0_1, .string a0_2], .agg #[.bool a1_0, .slice A1_1 l1_1.length c1_1, .string a1_2]] w fun e w' => e = .returned (.bool r) ∧ Below w.heap.size w w' := by
 have hu32 := Try.underlying32
 have hu78 := Try.underlying78
 have HR0_1 := Aside0.mk hr0_1
 have HC0_1 := Aside0.mk hc0_1
 clear hr0_1 hc0_1
 have HR1_1 := Aside0.mk hr1_1
 have HC1_1 := Aside0.mk hc1_1
 clear hr1_1 hc1_1
 have HB := Aside0.mk (Below.refl w.heap.size w)
 have H : (if (a0_0 != a1_0) = true then (swarfref41_Equal.j0 k true a0_0 l0_1 a0_2 a1_0 l1_1 a1_2) else (if a0_2.toList = a1_2.toList then (swarfref41_Equal.j0 k ((l0_1.length : Int) != (l1_1.length : Int)) a0_0 l0_1 a0_2 a1_0 l1_1 a1_2) else (swarfref41_Equal.j0 k true a0_0 l0_1 a0_2 a1_0 l1_1 a1_2))) = some r := h
 clear h
 have HC3 := Aside0.mk H
 clear H
 go_enter Try.func53, Try.ntmps53
 go_upto_region 1 with (first | ((with_reducible refine gate_dst (N := 2) rfl ?_); (try (refine gate_guard (by rfl) ?_; dsimp only)); refine yX 2 #[.bool a0_0, .slice A0_1 l0_1.length c0_1, .string a0_2] 32 ?_; intro gb102 hg w4 hbox hb; have BK102 := Aside0.mk (hbox); have GW102 := Aside0.mk ((yG hg : w.heap.size ≤ gb102)); have GE102 := Aside0.mk ((yG hg : w.heap.size ≤ gb102)); replace HB := Aside0.mk (below_step yB hb); clear hb hbox hg) | ((with_reducible refine gate_dst (N := 3) rfl ?_); (try (refine gate_guard (by rfl) ?_; dsimp only)); refine yX 3 #[.bool a1_0, .slice A1_1 l1_1.length c1_1, .string a1_2] 32 ?_; intro gb103 hg w5 hbox hb; have BK103 := Aside0.mk (hbox); have GW103 := Aside0.mk ((yG hg : w.heap.size ≤ gb103)); have GE103 := Aside0.mk ((yG hg : w.heap.size ≤ gb103)); replace HB := Aside0.mk (below_step yB hb); have NB102_103 := Aside0.mk ((yJ hg yK : gb102 ≠ gb103)); have NB103_102 := Aside0.mk ((yI hg yK : gb103 ≠ gb102)); replace BK102 := Aside0.mk (blk_below (g := gb102) yK hb); clear hb hbox hg))
 repeat (go_quiet (first | ((with_reducible refine gate_dst (N := 2) rfl ?_); (try (refine gate_guard (by rfl) ?_; dsimp only)); refine yX 2 #[.bool a0_0, .slice A0_1 l0_1.length c0_1, .string a0_2] 32 ?_; intro gb102 hg w4 hbox hb; have BK102 := Aside0.mk (hbox); have GW102 := Aside0.mk ((yG hg : w.heap.size ≤ gb102)); have GE102 := Aside0.mk ((yG hg : w.heap.size ≤ gb102)); replace HB := Aside0.mk (below_step yB hb); clear hb hbox hg) | ((with_reducible refine gate_dst (N := 3) rfl ?_); (try (refine gate_guard (by rfl) ?_; dsimp only)); refine yX 3 #[.bool a1_0, .slice A1_1 l1_1.length c1_1, .string a1_2] 32 ?_; intro gb103 hg w5 hbox hb; have BK103 := Aside0.mk (hbox); have GW103 := Aside0.mk ((yG hg : w.heap.size ≤ gb103)); have GE103 := Aside0.mk ((yG hg : w.heap.size ≤ gb103)); replace HB := Aside0.mk (below_step yB hb); have NB102_103 := Aside0.mk ((yJ hg yK : gb102 ≠ gb103)); have NB103_102 := Aside0.mk ((yI hg yK : gb103 ≠ gb102)); replace BK102 := Aside0.mk (blk_below (g := gb102) yK hb); clear hb hbox hg)); go_upto_region 1 with (first | ((with_reducible refine gate_dst (N := 2) rfl ?_); (try (refine gate_guard (by rfl) ?_; dsimp only)); refine yX 2 #[.bool a0_0, .slice A0_1 l0_1.length c0_1, .string a0_2] 32 ?_; intro gb102 hg w4 hbox hb; have BK102 := Aside0.mk (hbox); have GW102 := Aside0.mk ((yG hg : w.heap.size ≤ gb102)); have GE102 := Aside0.mk ((yG hg : w.heap.size ≤ gb102)); replace HB := Aside0.mk (below_step yB hb); clear hb hbox hg) | ((with_reducible refine gate_dst (N := 3) rfl ?_); (try (refine gate_guard (by rfl) ?_; dsimp only)); refine yX 3 #[.bool a1_0, .slice A1_1 l1_1.length c1_1, .string a1_2] 32 ?_; intro gb103 hg w5 hbox hb; have BK103 := Aside0.mk (hbox); have GW103 := Aside0.mk ((yG hg : w.heap.size ≤ gb103)); have GE103 := Aside0.mk ((yG hg : w.heap.size ≤ gb103)); replace HB := Aside0.mk (below_step yB hb); have NB102_103 := Aside0.mk ((yJ hg yK : gb102 ≠ gb103)); have NB103_102 := Aside0.mk ((yI hg yK : gb103 ≠ gb102)); replace BK102 := Aside0.mk (blk_below (g := gb102) yK hb); clear hb hbox hg)))
 (try simp only [Act.put, List.setIfInBounds_toArray, List.set_cons_zero, List.set_cons_succ])
 go_cut [26] (fun v26 wc => ∃ (kq : Nat) (x26_2 : Bool), v26 = .bool x26_2 ∧ Aside0 (swarfref41_Equal.j0 kq x26_2 a0_0 l0_1 a0_2 a1_0 l1_1 a1_2 = some r) ∧ Aside0 (kq ≤ k) ∧ Aside0 (wc.heap[gb102]? = some (.cells #[.bool a0_0, (.slice A0_1 l0_1.length c0_1), .string a0_2] 32 (0, 0))) ∧ Aside0 (wc.heap[gb103]? = some (.cells #[.bool a1_0, (.slice A1_1 l1_1.length c1_1), .string a1_2] 32 (0, 0))) ∧ Aside0 (Below w.heap.size w wc))
 case first =>
  have H := HC3.out
  clear HC3
  by_cases c6 : (a0_0 != a1_0) = true
  ·rw [if_pos c6] at H
   have c6b0 : (a0_0 != a1_0) = true := c6
   (try (have c6b1 : decide (a0_0 = a1_0) = false := by simpa using c6))
   (try (have c6b2 : (a0_0 == a1_0) = false := by simpa using c6))
   (try (have c6b3 : ¬ (a0_0 = a1_0) := by simpa using c6))
   clear c6
   (first | rw [c6b0] | (simp only [i64_w, i32_w]; rw [c6b0]) | skip)
   have H' := Aside0.mk H
   clear H
   have hnb7 := NB102_103.out
   have hnc7 := NB103_102.out
   have hcz8_0 := yZ0 BK102.out
   have hcz8_1 := yZ1 BK102.out
   have hcz8_2 := yZ2 BK102.out
   have hfz8_0 := blk_frozen BK102.out 0
   have hfz8_1 := blk_frozen BK102.out 1
   have hfz8_2 := blk_frozen BK102.out 2
   have hcz9_0 := yZ0 BK103.out
   have hcz9_1 := yZ1 BK103.out
   have hcz9_2 := yZ2 BK103.out
   have hfz9_0 := blk_frozen BK103.out 0
   have hfz9_1 := blk_frozen BK103.out 1
   have hfz9_2 := blk_frozen BK103.out 2
   go_wp2
   repeat (go_quiet (fail); try go_wp2)
   go_meet
   case rel => exact ⟨_, (true), yS, H', ⟨by first | omega | exact Nat.le_refl _⟩, ⟨by refine yH ?_; exact BK102.out⟩, ⟨by refine yH ?_; exact BK103.out⟩, ⟨yB⟩⟩
  rw [if_neg c6] at H
  have c6b0 : (a0_0 != a1_0) = false := by simpa using c6
  (try (have c6b1 : decide (a0_0 = a1_0) = true := by simpa using c6))
  (try (have c6b2 : (a0_0 == a1_0) = true := by simpa using c6))
  clear c6
  (first | rw [c6b0] | (simp only [i64_w, i32_w]; rw [c6b0]) | skip)
  by_cases c10 : a0_2.toList = a1_2.toList
  ·rw [if_pos c10] at H
   have c10b0 : (a0_2.toList == a1_2.toList) = true := beq_iff_eq.mpr c10
   have c10b1 : (a0_2.toList != a1_2.toList) = false := bne_eq_false_iff_eq.mpr c10
   clear c10
   have H' := Aside0.mk H
   clear H
   have hnb11 := NB102_103.out
   have hnc11 := NB103_102.out
   have hcz12_0 := yZ0 BK102.out
   have hcz12_1 := yZ1 BK102.out
   have hcz12_2 := yZ2 BK102.out
   have hfz12_0 := blk_frozen BK102.out 0
   have hfz12_1 := blk_frozen BK102.out 1
   have hfz12_2 := blk_frozen BK102.out 2
   have hcz13_0 := yZ0 BK103.out
   have hcz13_1 := yZ1 BK103.out
   have hcz13_2 := yZ2 BK103.out
   have hfz13_0 := blk_frozen BK103.out 0
   have hfz13_1 := blk_frozen BK103.out 1
   have hfz13_2 := blk_frozen BK103.out 2
   go_wp2
   repeat (go_quiet (fail); try go_wp2)
   go_meet
   case rel => exact ⟨_, (((l0_1.length : Int) != (l1_1.length : Int))), yS, H', ⟨by first | omega | exact Nat.le_refl _⟩, ⟨by refine yH ?_; exact BK102.out⟩, ⟨by refine yH ?_; exact BK103.out⟩, ⟨yB⟩⟩
  rw [if_neg c10] at H
  have c10b0 : (a0_2.toList == a1_2.toList) = false := beq_eq_false_iff_ne.mpr c10
  have c10b1 : (a0_2.toList != a1_2.toList) = true := bne_iff_ne.mpr c10
  have H' := Aside0.mk H
  clear H
  have hnb14 := NB102_103.out
  have hnc14 := NB103_102.out
  have hcz15_0 := yZ0 BK102.out
  have hcz15_1 := yZ1 BK102.out
  have hcz15_2 := yZ2 BK102.out
  have hfz15_0 := blk_frozen BK102.out 0
  have hfz15_1 := blk_frozen BK102.out 1
  have hfz15_2 := blk_frozen BK102.out 2
  have hcz16_0 := yZ0 BK103.out
  have hcz16_1 := yZ1 BK103.out
  have hcz16_2 := yZ2 BK103.out
  have hfz16_0 := blk_frozen BK103.out 0
  have hfz16_1 := blk_frozen BK103.out 1
  have hfz16_2 := blk_frozen BK103.out 2
  go_wp2
  repeat (go_quiet (fail); try go_wp2)
  go_meet
  case rel => exact ⟨_, (true), yS, H', ⟨by first | omega | exact Nat.le_refl _⟩, ⟨by refine yH ?_; exact BK102.out⟩, ⟨by refine yH ?_; exact BK103.out⟩, ⟨yB⟩⟩
 case rest =>
  clear HC3
  try clear c1
  try clear p2
  try clear c5
  try clear c6
  try clear c6b0
  try clear c6b1
  try clear c6b2
  try clear c7
  try clear c10
  try clear c10b0
  try clear c10b1
  try clear c11
  try clear c14
  try clear hcz12_0
  try clear hcz12_1
  try clear hcz12_2
  try clear hcz13_0
  try clear hcz13_1
  try clear hcz13_2
  try clear hcz15_0
  try clear hcz15_1
  try clear hcz15_2
  try clear hcz16_0
  try clear hcz16_1
  try clear hcz16_2
  try clear hcz8_0
  try clear hcz8_1
  try clear hcz8_2
  try clear hcz9_0
  try clear hcz9_1
  try clear hcz9_2
  try clear hfz12_0
  try clear hfz12_1
  try clear hfz12_2
  try clear hfz13_0
  try clear hfz13_1
  try clear hfz13_2
  try clear hfz15_0
  try clear hfz15_1
  try clear hfz15_2
  try clear hfz16_0
  try clear hfz16_1
  try clear hfz16_2
  try clear hfz8_0
  try clear hfz8_1
  try clear hfz8_2
  try clear hfz9_0
  try clear hfz9_1
  try clear hfz9_2
  obtain ⟨kq, x26_2, rfl, HA, HJ2, BK102, BK103, HB⟩ := hcut
  cases kq with
  | zero => exact absurd HA.out (by simp [swarfref41_Equal.j0])
  | succ kj2 =>
   have H := HA.out
   clear HA
   simp only [swarfref41_Equal.j0] at H
   by_cases c17 : x26_2 = true
   ·subst c17
    rw [if_pos rfl] at H
    obtain rfl := Option.some.inj H
    go_wp2
    repeat (go_quiet (fail); try go_wp2)
    go_ret
    exact ⟨yE, yB⟩
   replace c17 := Bool.eq_false_iff.mpr c17
   subst c17
   replace H : (swarfref41_Equal.l0 kj2 0 a0_0 l0_1 a0_2 a1_0 l1_1 a1_2) = some r := by rw [if_neg (show ¬ (false = true) by decide)] at H; exact H
   have H' := Aside0.mk H
   clear H
   go_wp2
   repeat (go_quiet (fail); try go_wp2)
   go_loopg [5] kj2 (fun kq v5 w' => ∃ (x5_2 : Int), v5 = .int .i64 x5_2 ∧ Aside0 (swarfref41_Equal.l0 kq x5_2 a0_0 l0_1 a0_2 a1_0 l1_1 a1_2 = some r) ∧ Aside0 (kq ≤ kj2) ∧ Aside0 (w'.heap[gb102]? = some (.cells #[.bool a0_0, (.slice A0_1 l0_1.length c0_1), .string a0_2] 32 (0, 0))) ∧ Aside0 (w'.heap[gb103]? = some (.cells #[.bool a1_0, (.slice A1_1 l1_1.length c1_1), .string a1_2] 32 (0, 0))) ∧ Aside0 (Below w.heap.size w w'))
   case atStart => exact ⟨(0), yS, H', ⟨Nat.le_refl _⟩, ⟨by refine yH ?_; exact BK102.out⟩, ⟨by refine yH ?_; exact BK103.out⟩, ⟨yB⟩⟩
   case round =>
    clear H'
    try clear c1
    try clear p2
    try clear c5
    try clear c6
    try clear c6b0
    try clear c6b1
    try clear c6b2
    try clear c7
    try clear c10
    try clear c10b0
    try clear c10b1
    try clear c11
    try clear c14
    try clear c17
    try clear hcz12_0
    try clear hcz12_1
    try clear hcz12_2
    try clear hcz13_0
    try clear hcz13_1
    try clear hcz13_2
    try clear hcz15_0
    try clear hcz15_1
    try clear hcz15_2
    try clear hcz16_0
    try clear hcz16_1
    try clear hcz16_2
    try clear hcz8_0
    try clear hcz8_1
    try clear hcz8_2
    try clear hcz9_0
    try clear hcz9_1
    try clear hcz9_2
    try clear hfz12_0
    try clear hfz12_1
    try clear hfz12_2
    try clear hfz13_0
    try clear hfz13_1
    try clear hfz13_2
    try clear hfz15_0
    try clear hfz15_1
    try clear hfz15_2
    try clear hfz16_0
    try clear hfz16_1
    try clear hfz16_2
    try clear hfz8_0
    try clear hfz8_1
    try clear hfz8_2
    try clear hfz9_0
    try clear hfz9_1
    try clear hfz9_2
    try clear p2
    obtain ⟨x5_2, rfl, HA, HK2, BK102, BK103, HB⟩ := hrel
    cases gk with
    | zero => exact absurd HA.out (by simp [swarfref41_Equal.l0])
    | succ k2 =>
     have H := HA.out
     clear HA
     simp only [swarfref41_Equal.l0] at H
     by_cases c18 : x5_2 < (l0_1.length : Int)
     ·rw [if_pos c18] at H
      have c18b0 := decide_eq_true c18
      clear c18
      by_cases c19 : 0 ≤ x5_2
      ·rw [if_pos c19] at H
       have c19b0 := decide_eq_true c19
       clear c19
       by_cases c20 : x5_2 < (l1_1.length : Int)
       ·rw [if_pos c20] at H
        have c20b0 := decide_eq_true c20
        clear c20
        by_cases c21 : (!(((rd_T78 l0_1 x5_2).f0) == ((rd_T78 l1_1 x5_2).f0)) || (!(((rd_T78 l0_1 x5_2).f1) == ((rd_T78 l1_1 x5_2).f1)))) = true
        ·rw [if_pos c21] at H
         have c21b0 : (!(((rd_T78 l0_1 x5_2).f0) == ((rd_T78 l1_1 x5_2).f0)) || (!(((rd_T78 l0_1 x5_2).f1) == ((rd_T78 l1_1 x5_2).f1)))) = true := c21
         clear c21
         obtain rfl := Option.some.inj H
         have hnb22 := NB102_103.out
         have hnc22 := NB103_102.out
         have hcz23_0 := yZ0 BK102.out
         have hcz23_1 := yZ1 BK102.out
         have hcz23_2 := yZ2 BK102.out
         have hfz23_0 := blk_frozen BK102.out 0
         have hfz23_1 := blk_frozen BK102.out 1
         have hfz23_2 := blk_frozen BK102.out 2
         have p104 : 0 ≤ (x5_2 : Int) := yD
         have q104 : x5_2 < (l0_1.length : Int) := yD
         obtain ⟨ad104, e104, hx104_0, hx104_1⟩ := at_T78 HR0_1.out x5_2 p104 q104
         cases e104
         replace hx104_0 := yM HB.out hx104_0
         replace hx104_1 := yM HB.out hx104_1
         replace p104 := eq_true p104
         replace q104 := eq_true q104
         have hcz24_0 := yZ0 BK103.out
         have hcz24_1 := yZ1 BK103.out
         have hcz24_2 := yZ2 BK103.out
         have hfz24_0 := blk_frozen BK103.out 0
         have hfz24_1 := blk_frozen BK103.out 1
         have hfz24_2 := blk_frozen BK103.out 2
         have p105 : 0 ≤ (x5_2 : Int) := yD
         have q105 : x5_2 < (l1_1.length : Int) := yD
         obtain ⟨ad105, e105, hx105_0, hx105_1⟩ := at_T78 HR1_1.out x5_2 p105 q105
         cases e105
         replace hx105_0 := yM HB.out hx105_0
         replace hx105_1 := yM HB.out hx105_1
         replace p105 := eq_true p105
         replace q105 := eq_true q105
         go_wp2
         repeat (go_quiet (fail); try go_wp2)
         go_ret
         exact ⟨yE, yB⟩
        rw [if_neg c21] at H
        have c21b0 : (!(((rd_T78 l0_1 x5_2).f0) == ((rd_T78 l1_1 x5_2).f0)) || (!(((rd_T78 l0_1 x5_2).f1) == ((rd_T78 l1_1 x5_2).f1)))) = false := by simpa using c21
        clear c21
        have H' := Aside0.mk H
        clear H
        have hnb25 := NB102_103.out
        have hnc25 := NB103_102.out
        have hcz26_0 := yZ0 BK102.out
        have hcz26_1 := yZ1 BK102.out
        have hcz26_2 := yZ2 BK102.out
        have hfz26_0 := blk_frozen BK102.out 0
        have hfz26_1 := blk_frozen BK102.out 1
        have hfz26_2 := blk_frozen BK102.out 2
        have p104 : 0 ≤ (x5_2 : Int) := yD
        have q104 : x5_2 < (l0_1.length : Int) := yD
        obtain ⟨ad104, e104, hx104_0, hx104_1⟩ := at_T78 HR0_1.out x5_2 p104 q104
        cases e104
        replace hx104_0 := yM HB.out hx104_0
        replace hx104_1 := yM HB.out hx104_1
        replace p104 := eq_true p104
        replace q104 := eq_true q104
        have hcz27_0 := yZ0 BK103.out
        have hcz27_1 := yZ1 BK103.out
        have hcz27_2 := yZ2 BK103.out
        have hfz27_0 := blk_frozen BK103.out 0
        have hfz27_1 := blk_frozen BK103.out 1
        have hfz27_2 := blk_frozen BK103.out 2
        have p105 : 0 ≤ (x5_2 : Int) := yD
        have q105 : x5_2 < (l1_1.length : Int) := yD
        obtain ⟨ad105, e105, hx105_0, hx105_1⟩ := at_T78 HR1_1.out x5_2 p105 q105
        cases e105
        replace hx105_0 := yM HB.out hx105_0
        replace hx105_1 := yM HB.out hx105_1
        replace p105 := eq_true p105
        replace q105 := eq_true q105
        go_wp2
        repeat (go_quiet (fail); try go_wp2)
        go_roundg k2
        case measure => have := HJ2.out; have := HK2.out; omega
        case rel => exact ⟨(wrap64 (x5_2 + 1)), yS, H', ⟨by have := HJ2.out; have := HK2.out; omega⟩, ⟨by refine yH ?_; exact BK102.out⟩, ⟨by refine yH ?_; exact BK103.out⟩, ⟨yB⟩⟩
       rw [if_neg c20] at H
       exact absurd H (by simp)
      rw [if_neg c19] at H
      exact absurd H (by simp)
     rw [if_neg c18] at H
     have c18b0 := decide_eq_false c18
     clear c18
     obtain rfl := Option.some.inj H
     have hnb28 := NB102_103.out
     have hnc28 := NB103_102.out
     have hcz29_0 := yZ0 BK102.out
     have hcz29_1 := yZ1 BK102.out
     have hcz29_2 := yZ2 BK102.out
     have hfz29_0 := blk_frozen BK102.out 0
     have hfz29_1 := blk_frozen BK102.out 1
     have hfz29_2 := blk_frozen BK102.out 2
     go_wp2
     repeat (go_quiet (fail); try go_wp2)
     go_ret
     exact ⟨yE, yB⟩
end Go.Proofs.Ytehkhbnhmehobaa.P
namespace Go.Proofs.Ytehkhbnhmehobaa.P
open Go.RowKit Go.Proofs.YtehkhbnhmehobaaW.PrintWords Go.Proofs.YtehkhbnhmehobaaW.PrintLast Go.Proofs.YtehkhbnhmehobaaW.PrintMore
attribute [local go_sem] max2_int min2_int max_two min_two max_three min_three max_four min_four
set_option linter.unusedVariables false
set_option linter.unusedSimpArgs false
def swarfref41_Same.l0 : Nat → List (S32) → List (S32) → Int → Option (Bool)
 | 0, _, _, _ => none
 | k + 1, x0, x1, x5 => if x5 < (x0.length : Int) then (if 0 ≤ x5 then (if x5 < (x1.length : Int) then ((swarfref41_Equal.f k ((rd_T32 x0 x5).f0) ((rd_T32 x0 x5).f1) ((rd_T32 x0 x5).f2) ((rd_T32 x1 x5).f0) ((rd_T32 x1 x5).f1) ((rd_T32 x1 x5).f2)).bind fun t108 => (if t108 = true then (swarfref41_Same.l0 k x0 x1 (wrap64 (x5 + 1))) else (some false))) else (none)) else (none)) else (some true)
def swarfref41_Same.f (k : Nat) (l0 : List (S32)) (l1 : List (S32)) : Option (Bool) := if (l0.length : Int) = (l1.length : Int) then (swarfref41_Same.l0 k l0 l1 0) else (some false)
def swarfref41_Same.T6 : Bool × List (List Nat × List Nat) := (true, [([], []), ([], []), ([0, 1], [0, 1]), ([2], [2]), ([], []), ([], []), ([4, 5], [4, 5]), ([6], [6]), ([3, 7], [3, 7]), ([8], [8])])
def swarfref41_Same.B6 : List Nat := [0, 0, 3, 7, 0, 0, 48, 112, 255, 511]
theorem swarfref41_Same.tab6 : rtab .any (opsOf Try.f19 6) = swarfref41_Same.T6 := by kernel_rfl
theorem swarfref41_Same.bits6 : waitsOk swarfref41_Same.T6.2 swarfref41_Same.B6 = true := by kernel_rfl
set_option maxHeartbeats 8000000 in
set_option maxRecDepth 100000 in
theorem swarfref41_Same.calls (k : Nat) (A0 : Option Addr) (c0 : Nat) (l0 : List (S32)) (A1 : Option Addr) (c1 : Nat) (l1 : List (S32)) (r : Bool) (w : World) (hr0 : Kd.C k32 w A0 l0.length l0) (hc0 : l0.length ≤ c0) (hr1 : Kd.C k32 w A1 l1.length l1) (hc1 : l1.length ≤ c1) (h : swarfref41_Same.f k l0 l1 = some r) :
  Calls Try.prog 19 #[.slice A0 l0.length c0, .slice A1 l1.length c1] w fun e w' => e = .returned (.bool r) ∧ Below w.heap.size w w' := by
 have hu32 := Try.underlying32
 have HR0 := Aside0.mk hr0
 have HC0 := Aside0.mk hc0
 clear hr0 hc0
 have HR1 := Aside0.mk hr1
 have HC1 := Aside0.mk hc1
 clear hr1 hc1
 have HB := Aside0.mk (Below.refl w.heap.size w)
 have H : (if (l0.length : Int) = (l1.length : Int) then (swarfref41_Same.l0 k l0 l1 0) else (some false)) = some r := h
 clear h
 by_cases c3 : (l0.length : Int) = (l1.length : Int)
 ·rw [if_pos c3] at H
  have c3b0 : ((l0.length : Int) == (l1.length : Int)) = true := beq_iff_eq.mpr c3
  have c3b1 : ((l0.length : Int) != (l1.length : Int)) = false := bne_eq_false_iff_eq.mpr c3
  have c3b2 : (l0.length == l1.length) = true := by first | simpa using c3 | (simp at c3 ⊢; omega)
  clear c3
  have H' := Aside0.mk H
  clear H
  go_enter Try.func19, Try.ntmps19
  go_wp2
  go_loopg [5] k (fun kq v5 w' => ∃ (x5_1 : Int), v5 = .int .i64 x5_1 ∧ Aside0 (swarfref41_Same.l0 kq l0 l1 x5_1 = some r) ∧ Aside0 (kq ≤ k) ∧ Aside0 (Below w.heap.size w w'))
  case atStart => exact ⟨(0), yS, H', ⟨Nat.le_refl _⟩, ⟨yB⟩⟩
  case round =>
   clear H'
   try clear c1
   try clear p2
   try clear c3
   try clear c3b0
   try clear c3b1
   try clear c3b2
   obtain ⟨x5_1, rfl, HA, HK1, HB⟩ := hrel
   cases gk with
   | zero => exact absurd HA.out (by simp [swarfref41_Same.l0])
   | succ k1 =>
    have H := HA.out
    clear HA
    simp only [swarfref41_Same.l0] at H
    by_cases c4 : x5_1 < (l0.length : Int)
    ·rw [if_pos c4] at H
     have c4b0 := decide_eq_true c4
     clear c4
     by_cases c5 : 0 ≤ x5_1
     ·rw [if_pos c5] at H
      have c5b0 := decide_eq_true c5
      clear c5
      by_cases c6 : x5_1 < (l1.length : Int)
      ·rw [if_pos c6] at H
       have c6b0 := decide_eq_true c6
       clear c6
       replace H := Option.bind_eq_some_iff.mp H
       obtain ⟨t108, A70, H⟩ := H
       have A7 := Aside0.mk A70
       clear A70
       by_cases c8 : t108 = true
       ·subst c8
        rw [if_pos rfl] at H
        have H' := Aside0.mk H
        clear H
        try go_wp2
        replace HB := Aside0.mk (below_drew1 HB.out)
        have p106 : 0 ≤ (x5_1 : Int) := yD
        have q106 : x5_1 < (l0.length : Int) := yD
        obtain ⟨ad106, A106_1, c106_1, e106, hx106_0, hx106_1, hx106_2, hl106_1, hi106_1⟩ := at_T32 HR0.out x5_1 p106 q106
        have hw106_2 := hx106_2
        have hw106_1 := hx106_1
        have hw106_0 := hx106_0
        cases e106
        replace hx106_0 := yM HB.out hx106_0
        replace hx106_1 := yM HB.out hx106_1
        replace hx106_2 := yM HB.out hx106_2
        have HR106_1 := Aside0.mk hi106_1
        have HC106_1 := Aside0.mk hl106_1
        clear hi106_1 hl106_1
        replace p106 := eq_true p106
        replace q106 := eq_true q106
        have p107 : 0 ≤ (x5_1 : Int) := yD
        have q107 : x5_1 < (l1.length : Int) := yD
        obtain ⟨ad107, A107_1, c107_1, e107, hx107_0, hx107_1, hx107_2, hl107_1, hi107_1⟩ := at_T32 HR1.out x5_1 p107 q107
        have hw107_2 := hx107_2
        have hw107_1 := hx107_1
        have hw107_0 := hx107_0
        cases e107
        replace hx107_0 := yM HB.out hx107_0
        replace hx107_1 := yM HB.out hx107_1
        replace hx107_2 := yM HB.out hx107_2
        have HR107_1 := Aside0.mk hi107_1
        have HC107_1 := Aside0.mk hl107_1
        clear hi107_1 hl107_1
        replace p107 := eq_true p107
        replace q107 := eq_true q107
        refine start_ (n := 10) (S := fun w' => w'.cell? (ad106.add ((x5_1).toNat * 3)) = some (.bool ((rd_T32 l0 x5_1).f0)) ∧ w'.cell? ⟨(ad106.add ((x5_1).toNat * 3)).block, (ad106.add ((x5_1).toNat * 3)).off + 1, none⟩ = some (.slice A106_1 ((rd_T32 l0 x5_1).f1).length c106_1) ∧ w'.cell? ⟨(ad106.add ((x5_1).toNat * 3)).block, (ad106.add ((x5_1).toNat * 3)).off + 2, none⟩ = some (.string ((rd_T32 l0 x5_1).f2)) ∧ w'.cell? (ad107.add ((x5_1).toNat * 3)) = some (.bool ((rd_T32 l1 x5_1).f0)) ∧ w'.cell? ⟨(ad107.add ((x5_1).toNat * 3)).block, (ad107.add ((x5_1).toNat * 3)).off + 1, none⟩ = some (.slice A107_1 ((rd_T32 l1 x5_1).f1).length c107_1) ∧ w'.cell? ⟨(ad107.add ((x5_1).toNat * 3)).block, (ad107.add ((x5_1).toNat * 3)).off + 2, none⟩ = some (.string ((rd_T32 l1 x5_1).f2))) (ds := []) #[false, false, false, false, false, false, false, false, false, false] (by kernel_rfl) rfl rfl ⟨(yM HB.out hw106_0), (yM HB.out hw106_1), (yM HB.out hw106_2), (yM HB.out hw107_0), (yM HB.out hw107_1), (yM HB.out hw107_2)⟩ (fun hHeld => ?_); refine with_tabW swarfref41_Same.tab6 swarfref41_Same.bits6 (fun HT_ HW_ => ?_)
        generalize wr.drew = w9 at HB HR106_1 HR107_1 hx106_0 hx106_1 hx106_2 hx107_0 hx107_1 hx107_2 hHeld ⊢
        refine yp 0 17 ?_
        refine yp 1 18 ?_
        refine yp 2 19 ?_
        refine yp 4 21 ?_
        refine yp 5 22 ?_
        refine yp 6 23 ?_
        refine yt 3 20 hHeld ?_
        refine yt 7 24 hHeld ?_
        refine yo 8 (some 25) (fun K hK => ?_)
        refine goes_ Try.func53 (by kernel_rfl) rfl #[.agg #[.bool ((rd_T32 l0 x5_1).f0), .slice A106_1 ((rd_T32 l0 x5_1).f1).length c106_1, .string ((rd_T32 l0 x5_1).f2)], .agg #[.bool ((rd_T32 l1 x5_1).f0), .slice A107_1 ((rd_T32 l1 x5_1).f1).length c107_1, .string ((rd_T32 l1 x5_1).f2)]] (by rfl) rfl rfl yQ ?_
        with_reducible refine (swarfref41_Equal.calls k1 ((rd_T32 l0 x5_1).f0) _ _ ((rd_T32 l0 x5_1).f1) ((rd_T32 l0 x5_1).f2) ((rd_T32 l1 x5_1).f0) _ _ ((rd_T32 l1 x5_1).f1) ((rd_T32 l1 x5_1).f2) true _ ?side1 ?side2 ?side3 ?side4 A7.out).mono ?_
        (case side1 => exact yC HR106_1.out)
        (case side2 => exact HC106_1.out)
        (case side3 => exact yC HR107_1.out)
        (case side4 => exact HC107_1.out)
        rintro e w10 ⟨rfl, hb⟩
        refine ⟨_, rfl, ?_⟩
        replace HB := Aside0.mk (below_step yB hb)
        (try clear hb)
        refine hK.out _ _ ⟨(yM HB.out hw106_0), (yM HB.out hw106_1), (yM HB.out hw106_2), (yM HB.out hw107_0), (yM HB.out hw107_1), (yM HB.out hw107_2)⟩ (fun hHeld => ?_)
        clear hK K
        refine yn 25 ?_
        refine yp 9 26 ?_
        refine done_ (done_of HT_.out (by kernel_rfl)) ?_
        try go_wp2
        go_roundg k1
        case measure => have := HK1.out; omega
        case rel => exact ⟨(wrap64 (x5_1 + 1)), yS, H', ⟨by have := HK1.out; omega⟩, ⟨yB⟩⟩
       replace c8 := Bool.eq_false_iff.mpr c8
       subst c8
       replace H : (some false) = some r := by rw [if_neg (show ¬ (false = true) by decide)] at H; exact H
       obtain rfl := Option.some.inj H
       try go_wp2
       replace HB := Aside0.mk (below_drew1 HB.out)
       have p106 : 0 ≤ (x5_1 : Int) := yD
       have q106 : x5_1 < (l0.length : Int) := yD
       obtain ⟨ad106, A106_1, c106_1, e106, hx106_0, hx106_1, hx106_2, hl106_1, hi106_1⟩ := at_T32 HR0.out x5_1 p106 q106
       have hw106_2 := hx106_2
       have hw106_1 := hx106_1
       have hw106_0 := hx106_0
       cases e106
       replace hx106_0 := yM HB.out hx106_0
       replace hx106_1 := yM HB.out hx106_1
       replace hx106_2 := yM HB.out hx106_2
       have HR106_1 := Aside0.mk hi106_1
       have HC106_1 := Aside0.mk hl106_1
       clear hi106_1 hl106_1
       replace p106 := eq_true p106
       replace q106 := eq_true q106
       have p107 : 0 ≤ (x5_1 : Int) := yD
       have q107 : x5_1 < (l1.length : Int) := yD
       obtain ⟨ad107, A107_1, c107_1, e107, hx107_0, hx107_1, hx107_2, hl107_1, hi107_1⟩ := at_T32 HR1.out x5_1 p107 q107
       have hw107_2 := hx107_2
       have hw107_1 := hx107_1
       have hw107_0 := hx107_0
       cases e107
       replace hx107_0 := yM HB.out hx107_0
       replace hx107_1 := yM HB.out hx107_1
       replace hx107_2 := yM HB.out hx107_2
       have HR107_1 := Aside0.mk hi107_1
       have HC107_1 := Aside0.mk hl107_1
       clear hi107_1 hl107_1
       replace p107 := eq_true p107
       replace q107 := eq_true q107
       refine start_ (n := 10) (S := fun w' => w'.cell? (ad106.add ((x5_1).toNat * 3)) = some (.bool ((rd_T32 l0 x5_1).f0)) ∧ w'.cell? ⟨(ad106.add ((x5_1).toNat * 3)).block, (ad106.add ((x5_1).toNat * 3)).off + 1, none⟩ = some (.slice A106_1 ((rd_T32 l0 x5_1).f1).length c106_1) ∧ w'.cell? ⟨(ad106.add ((x5_1).toNat * 3)).block, (ad106.add ((x5_1).toNat * 3)).off + 2, none⟩ = some (.string ((rd_T32 l0 x5_1).f2)) ∧ w'.cell? (ad107.add ((x5_1).toNat * 3)) = some (.bool ((rd_T32 l1 x5_1).f0)) ∧ w'.cell? ⟨(ad107.add ((x5_1).toNat * 3)).block, (ad107.add ((x5_1).toNat * 3)).off + 1, none⟩ = some (.slice A107_1 ((rd_T32 l1 x5_1).f1).length c107_1) ∧ w'.cell? ⟨(ad107.add ((x5_1).toNat * 3)).block, (ad107.add ((x5_1).toNat * 3)).off + 2, none⟩ = some (.string ((rd_T32 l1 x5_1).f2))) (ds := []) #[false, false, false, false, false, false, false, false, false, false] (by kernel_rfl) rfl rfl ⟨(yM HB.out hw106_0), (yM HB.out hw106_1), (yM HB.out hw106_2), (yM HB.out hw107_0), (yM HB.out hw107_1), (yM HB.out hw107_2)⟩ (fun hHeld => ?_); refine with_tabW swarfref41_Same.tab6 swarfref41_Same.bits6 (fun HT_ HW_ => ?_)
       generalize wr.drew = w11 at HB HR106_1 HR107_1 hx106_0 hx106_1 hx106_2 hx107_0 hx107_1 hx107_2 hHeld ⊢
       refine yp 0 17 ?_
       refine yp 1 18 ?_
       refine yp 2 19 ?_
       refine yp 4 21 ?_
       refine yp 5 22 ?_
       refine yp 6 23 ?_
       refine yt 3 20 hHeld ?_
       refine yt 7 24 hHeld ?_
       refine yo 8 (some 25) (fun K hK => ?_)
       refine goes_ Try.func53 (by kernel_rfl) rfl #[.agg #[.bool ((rd_T32 l0 x5_1).f0), .slice A106_1 ((rd_T32 l0 x5_1).f1).length c106_1, .string ((rd_T32 l0 x5_1).f2)], .agg #[.bool ((rd_T32 l1 x5_1).f0), .slice A107_1 ((rd_T32 l1 x5_1).f1).length c107_1, .string ((rd_T32 l1 x5_1).f2)]] (by rfl) rfl rfl yQ ?_
       with_reducible refine (swarfref41_Equal.calls k1 ((rd_T32 l0 x5_1).f0) _ _ ((rd_T32 l0 x5_1).f1) ((rd_T32 l0 x5_1).f2) ((rd_T32 l1 x5_1).f0) _ _ ((rd_T32 l1 x5_1).f1) ((rd_T32 l1 x5_1).f2) false _ ?side1 ?side2 ?side3 ?side4 A7.out).mono ?_
       (case side1 => exact yC HR106_1.out)
       (case side2 => exact HC106_1.out)
       (case side3 => exact yC HR107_1.out)
       (case side4 => exact HC107_1.out)
       rintro e w12 ⟨rfl, hb⟩
       refine ⟨_, rfl, ?_⟩
       replace HB := Aside0.mk (below_step yB hb)
       (try clear hb)
       refine hK.out _ _ ⟨(yM HB.out hw106_0), (yM HB.out hw106_1), (yM HB.out hw106_2), (yM HB.out hw107_0), (yM HB.out hw107_1), (yM HB.out hw107_2)⟩ (fun hHeld => ?_)
       clear hK K
       refine yn 25 ?_
       refine yp 9 26 ?_
       refine done_ (done_of HT_.out (by kernel_rfl)) ?_
       try go_wp2
       go_ret
       exact ⟨yE, yB⟩
      rw [if_neg c6] at H
      exact absurd H (by simp)
     rw [if_neg c5] at H
     exact absurd H (by simp)
    rw [if_neg c4] at H
    have c4b0 := decide_eq_false c4
    clear c4
    obtain rfl := Option.some.inj H
    go_wp2
    go_ret
    exact ⟨yE, yB⟩
 rw [if_neg c3] at H
 have c3b0 : ((l0.length : Int) == (l1.length : Int)) = false := beq_eq_false_iff_ne.mpr c3
 have c3b1 : ((l0.length : Int) != (l1.length : Int)) = true := bne_iff_ne.mpr c3
 have c3b2 : (l0.length == l1.length) = false := by first | simpa using c3 | (simp at c3 ⊢; omega)
 obtain rfl := Option.some.inj H
 go_enter Try.func19, Try.ntmps19
 go_wp2
 go_ret
 exact ⟨yE, yB⟩
end Go.Proofs.Ytehkhbnhmehobaa.P
namespace Go.Proofs.Ytehkhbnhmehobaa.P
open Go.RowKit Go.Proofs.YtehkhbnhmehobaaW.PrintWords Go.Proofs.YtehkhbnhmehobaaW.PrintLast Go.Proofs.YtehkhbnhmehobaaW.PrintMore
set_option linter.unusedVariables false
def Ev {α : Type} (g : Nat → Option α) (v : α) : Prop := ∃ k0, ∀ k, k0 ≤ k → g k = some v
theorem Ev.get {α : Type} {g : Nat → Option α} {v : α} (h : Ev g v) : ∃ k, g k = some v := by
  obtain ⟨k0, h⟩ := h
  exact ⟨k0, h k0 (Nat.le_refl _)⟩
theorem Ev.some {α : Type} {v : α} : Ev (fun _ => Option.some v) v := ⟨0, fun _ _ => rfl⟩
theorem Ev.of {α : Type} {g : Nat → Option α} {v : α} (h : ∀ k, g k = Option.some v) : Ev g v := ⟨0, fun k _ => h k⟩
theorem Ev.congr {α : Type} {g h : Nat → Option α} {v : α} (e : ∀ k, g k = h k) (hh : Ev h v) : Ev g v := by
  obtain ⟨k0, hh⟩ := hh
  exact ⟨k0, fun k hk => (e k).trans (hh k hk)⟩
theorem Ev.step {α : Type} {F B : Nat → Option α} {v : α} (h : ∀ k, F (k + 1) = B k) (hb : Ev B v) : Ev F v := by
  obtain ⟨k0, hb⟩ := hb
  refine ⟨k0 + 1, fun k hk => ?_⟩
  obtain ⟨k', rfl⟩ : ∃ k', k = k' + 1 := ⟨k - 1, by omega⟩
  rw [h k']
  exact hb k' (by omega)
theorem Ev.bind {α β : Type} {g : Nat → Option α} {h : Nat → α → Option β} {v : α} {u : β} (hg : Ev g v) (hh : Ev (fun k => h k v) u) : Ev (fun k => (g k).bind (h k)) u := by
  obtain ⟨k1, h1⟩ := hg
  obtain ⟨k2, h2⟩ := hh
  refine ⟨max k1 k2, fun k hk => ?_⟩
  show (g k).bind (h k) = _
  rw [h1 k (by omega), Option.bind_some]
  exact h2 k (by omega)
theorem Ev.pos {α : Type} {c : Prop} [Decidable c] {g h : Nat → Option α} {v : α} (hc : c) (hg : Ev g v) : Ev (fun k => if c then g k else h k) v := hg.congr (fun k => if_pos hc)
theorem Ev.neg {α : Type} {c : Prop} [Decidable c] {g h : Nat → Option α} {v : α} (hc : ¬ c) (hg : Ev h v) : Ev (fun k => if c then g k else h k) v := hg.congr (fun k => if_neg hc)
theorem Ev.mono {α : Type} {g : Nat → Option α} (h : ∀ k, LeO (g k) (g (k + 1))) {k0 : Nat} {v : α} (h0 : g k0 = Option.some v) : Ev g v := by
  refine ⟨k0, fun k hk => ?_⟩
  obtain ⟨d, rfl⟩ : ∃ d, k = k0 + d := ⟨k - k0, by omega⟩
  clear hk
  induction d with
  | zero => exact h0
  | succ d ih => exact h _ _ ih
theorem wrapI {j : Nat} (h : j < 9223372036854775807) : wrap64 ((j : Int) + 1) = ((j + 1 : Nat) : Int) := by unfold wrap64; omega
theorem rd_T78_at {l : List S78} {j : Nat} (h : j < l.length) : rd_T78 l (j : Int) = l[j] := by simp [rd_T78, h]
theorem rd_T32_at {l : List S32} {j : Nat} (h : j < l.length) : rd_T32 l (j : Int) = l[j] := by simp [rd_T32, h]
theorem rd_at {l : List Int} {j : Nat} (h : j < l.length) : rd l (j : Int) = l[j] := by simp [rd, h]
instance : DecidableEq S78 := fun a b => if h0 : a.f0 = b.f0 then if h1 : a.f1 = b.f1 then isTrue (by cases a; cases b; simp_all) else isFalse (fun h => h1 (by rw [h])) else isFalse (fun h => h0 (by rw [h]))
instance : DecidableEq S32 := fun a b => if h0 : a.f0 = b.f0 then if h1 : a.f1 = b.f1 then if h2 : a.f2 = b.f2 then isTrue (by cases a; cases b; simp_all) else isFalse (fun h => h2 (by rw [h])) else isFalse (fun h => h1 (by rw [h])) else isFalse (fun h => h0 (by rw [h]))
theorem dropW_eq {α : Type} {l m : List α} {j : Nat} (h : j < l.length) (h' : j < m.length) : (l.drop j = m.drop j) ↔ (l[j] = m[j] ∧ l.drop (j + 1) = m.drop (j + 1)) := by
  rw [List.drop_eq_getElem_cons h, List.drop_eq_getElem_cons h']
  exact ⟨fun e => by injection e with a b; exact ⟨a, b⟩, fun ⟨a, b⟩ => by rw [a, b]⟩
theorem Equal_l0 (s t : Bool) (c d : ByteArray) (l m : List S78) (hl : l.length = m.length) (hm : l.length ≤ 9223372036854775807) : ∀ (n j : Nat), j + n = l.length → Ev (fun k => swarfref41_Equal.l0 k (j : Int) s l c t m d) (decide (l.drop j = m.drop j)) := by
  intro n
  induction n with
  | zero =>
    intro j hj
    refine Ev.step (fun k => by rw [swarfref41_Equal.l0]) ?_
    refine Ev.neg (by omega) ?_
    rw [List.drop_eq_nil_of_le (by omega), List.drop_eq_nil_of_le (by omega)]
    exact Ev.some
  | succ n ih =>
    intro j hj
    refine Ev.step (fun k => by rw [swarfref41_Equal.l0]) ?_
    refine Ev.pos (by omega) (Ev.pos (by omega) (Ev.pos (by omega) ?_))
    rw [rd_T78_at (show j < l.length by omega), rd_T78_at (show j < m.length by omega)]
    have hd := dropW_eq (show j < l.length by omega) (show j < m.length by omega)
    have h2 := ih (j + 1) (by omega)
    by_cases he : l[j]'(by omega) = m[j]'(by omega)
    · refine Ev.neg (by simp [he]) ?_
      rw [wrapI (by omega)]
      rw [decide_eq_decide.mpr (hd.trans ⟨fun h => h.2, fun h => ⟨he, h⟩⟩)]
      exact h2
    refine Ev.pos ?_ ?_
    · simp only [Bool.or_eq_true, Bool.not_eq_true', beq_eq_false_iff_ne]
      by_cases h0 : (l[j]'(by omega)).f0 = (m[j]'(by omega)).f0
      · right; intro h1; exact he (by cases h : l[j]'(by omega); cases h' : m[j]'(by omega); simp_all)
      exact .inl h0
    rw [decide_eq_false (fun h => he (hd.mp h).1)]
    exact Ev.some
theorem data_eq {a b : ByteArray} : a.toList = b.toList ↔ a = b := by
  constructor
  · intro h
    have := congrArg (fun l : List UInt8 => (⟨l.toArray⟩ : ByteArray)) h
    exact ByteArray.ext (by simpa [ByteArray.toList_eq] using this)
  intro h; rw [h]
theorem Equal_f (a b : S32) (hm : a.f1.length ≤ 9223372036854775807) : Ev (fun k => swarfref41_Equal.f k a.f0 a.f1 a.f2 b.f0 b.f1 b.f2) (decide (a = b)) := by
  unfold swarfref41_Equal.f
  have hj : ∀ c, c = true → ¬ a = b → Ev (fun k => swarfref41_Equal.j0 k c a.f0 a.f1 a.f2 b.f0 b.f1 b.f2) (decide (a = b)) := by
    intro c hc hne
    refine Ev.step (fun k => by rw [swarfref41_Equal.j0]) ?_
    refine Ev.pos hc ?_
    rw [decide_eq_false hne]
    exact Ev.some
  by_cases h0 : a.f0 = b.f0
  · refine Ev.neg (by simp [h0]) ?_
    by_cases h2 : a.f2 = b.f2
    · refine Ev.pos (by rw [h2]) ?_
      by_cases hl : a.f1.length = b.f1.length
      · refine Ev.step (fun k => by rw [swarfref41_Equal.j0]) ?_
        refine Ev.neg (by simp [hl]) ?_
        have := Equal_l0 a.f0 b.f0 a.f2 b.f2 a.f1 b.f1 hl hm a.f1.length 0 (by omega)
        rw [List.drop_zero, List.drop_zero] at this
        have he : decide (a = b) = decide (a.f1 = b.f1) := decide_eq_decide.mpr ⟨fun h => by rw [h], fun h => by cases a; cases b; simp_all⟩
        rw [he]
        exact this
      exact hj _ (by simp; omega) (fun h => hl (by rw [h]))
    exact Ev.neg (fun h => h2 (data_eq.mp h)) (hj _ rfl (fun h => h2 (by rw [h])))
  exact Ev.pos (by simpa using h0) (hj _ rfl (fun h => h0 (by rw [h])))
theorem Same_l0 (l m : List S32) (hl : l.length = m.length) (hm : l.length ≤ 9223372036854775807) (hw : ∀ b ∈ l, b.f1.length ≤ 9223372036854775807) : ∀ (n j : Nat), j + n = l.length → Ev (fun k => swarfref41_Same.l0 k l m (j : Int)) (decide (l.drop j = m.drop j)) := by
  intro n
  induction n with
  | zero =>
    intro j hj
    refine Ev.step (fun k => by rw [swarfref41_Same.l0]) ?_
    refine Ev.neg (by omega) ?_
    rw [List.drop_eq_nil_of_le (by omega), List.drop_eq_nil_of_le (by omega)]
    exact Ev.some
  | succ n ih =>
    intro j hj
    refine Ev.step (fun k => by rw [swarfref41_Same.l0]) ?_
    refine Ev.pos (by omega) (Ev.pos (by omega) (Ev.pos (by omega) ?_))
    rw [rd_T32_at (show j < l.length by omega), rd_T32_at (show j < m.length by omega)]
    have hd := dropW_eq (show j < l.length by omega) (show j < m.length by omega)
    refine Ev.bind (Equal_f _ _ (hw _ (List.getElem_mem _))) ?_
    by_cases he : l[j]'(by omega) = m[j]'(by omega)
    · refine Ev.pos (by simp [he]) ?_
      rw [wrapI (by omega), decide_eq_decide.mpr (hd.trans ⟨fun h => h.2, fun h => ⟨he, h⟩⟩)]
      exact ih (j + 1) (by omega)
    refine Ev.neg (by simp [he]) ?_
    rw [decide_eq_false (fun h => he (hd.mp h).1)]
    exact Ev.some
theorem Same_f (l m : List S32) (hm : l.length ≤ 9223372036854775807) (hw : ∀ b ∈ l, b.f1.length ≤ 9223372036854775807) : Ev (fun k => swarfref41_Same.f k l m) (decide (l = m)) := by
  unfold swarfref41_Same.f
  by_cases hl : l.length = m.length
  · refine Ev.pos (by omega) ?_
    have := Same_l0 l m hl hm hw l.length 0 (by omega)
    rw [List.drop_zero, List.drop_zero] at this
    exact this
  refine Ev.neg (by omega) ?_
  rw [decide_eq_false (fun h => hl (by rw [h]))]
  exact Ev.some
end Go.Proofs.Ytehkhbnhmehobaa.P
namespace Go.Proofs.Ytehkhbnhmehobaa.P
open Go.RowKit Go.ChangeShapes Go.WideShapes Go.Deep Go.Proofs.YtehkhbnhmehobaaW.PrintWords Go.Proofs.YtehkhbnhmehobaaW.PrintLast Go.Proofs.YtehkhbnhmehobaaW.PrintMore
set_option linter.unusedVariables false
structure Opens (P : Program) (t : TypeId) {α : Type} (d : Kd α) (wf : α → Prop) : Prop where
  of : ∀ {H : Type} {enc : TypeId × Value → H} {w : World} {base : Nat} {spare : Nat → Bool} {held : Bool} {fuel : Nat} {cs : List Value} {x : DataW H × List MemPlace}, DataW.trod enc P w base spare held fuel t cs = some x → ∃ y, d.K w y cs ∧ wf y
section
variable {P : Program} {t e : TypeId}
theorem opens_int {k : IntKind} (ht : P.underlying t = some (.int k)) : Opens P t (Kd.int k) (fun n => k.min ≤ n ∧ n ≤ k.max) :=
  ⟨fun h => by obtain ⟨n, rfl, _, hw⟩ := DataW.trod_int ht h; exact ⟨n, rfl, by simpa [Lit.wf] using hw⟩⟩
theorem opens_bool (ht : P.underlying t = some .bool) : Opens P t Kd.bool (fun _ => True) :=
  ⟨fun h => by obtain ⟨n, rfl, _⟩ := DataW.trod_bool ht h; exact ⟨n, rfl, trivial⟩⟩
theorem opens_string (ht : P.underlying t = some .string) : Opens P t Kd.string (fun s => s.size ≤ maxLen) :=
  ⟨fun h => by obtain ⟨n, rfl, _, hw⟩ := DataW.trod_string ht h; exact ⟨n, rfl, hw⟩⟩
theorem opens_slice {α : Type} {d : Kd α} {wf : α → Prop} (q : Nat) (ht : P.underlying t = some (.slice e)) (hc : P.cellsOf e = d.sz) (he : Opens P e d wf) : Opens P t (Kd.slice q d) (fun ys => ys.length ≤ maxLen ∧ ∀ y ∈ ys, wf y) := by
  refine ⟨fun {H enc w base spare held fuel cs x} h => ?_⟩
  rcases open_slice ht h with ⟨rfl, _⟩ | ⟨a, len, cap, m, n, D, Pl, rfl, _, hl, hcap, hm, _, hel⟩
  · exact ⟨[], ⟨none, 0, rfl, Nat.le_refl _, rfl, by simp, fun hlt => by simp at hlt⟩, by simp, fun y hy => by simp at hy⟩
  have h2 : ∀ i : Fin len, ∃ y, wf y ∧ ∃ c, c.length = d.sz ∧ d.K w y c ∧ ∀ j u, c[j]? = some u → w.cell? (a.add (i * d.sz + j)) = some u := by
    intro i
    obtain ⟨c, hcs, htr⟩ := hel i (by have := i.isLt; rw [hm]; split <;> omega)
    rw [hc] at hcs
    obtain ⟨_, hcl, hat⟩ := World.cells?_some hcs
    obtain ⟨y, hy, hwf⟩ := he.of htr
    refine ⟨y, hwf, c, hcl, hy, fun j u hu => ?_⟩
    have hj : j < d.sz := by
      have := (List.getElem?_eq_some_iff.1 hu).1
      omega
    rw [← Go.Deep.add_add, hat j hj, hu]
  refine ⟨List.ofFn fun i => Classical.choose (h2 i), ⟨some a, cap, by simp, by simpa using hl, by simp, ?_, fun _ => ⟨a, rfl, fun j p hp => ?_⟩⟩, by simp; omega, fun y hy => ?_⟩
  · simp only [List.length_ofFn]
    unfold maxLen at hcap
    omega
  · rw [List.getElem?_ofFn] at hp
    split at hp
    · rename_i hj
      obtain rfl := Option.some.inj hp
      obtain ⟨_, c, h3, h4, h5⟩ := Classical.choose_spec (h2 ⟨j, hj⟩)
      exact ⟨c, h3, h4, fun i u hu => h5 i u hu⟩
    cases hp
  obtain ⟨i, rfl⟩ := (List.mem_ofFn).1 hy
  exact (Classical.choose_spec (h2 i)).1
theorem opens_iso {α β : Type} {d : Kd α} {wf : α → Prop} (f : β → α) (g : α → β) (hfg : ∀ x, f (g x) = x) (h : Opens P t d wf) : Opens P t (Kd.iso d f) (fun y => wf (f y)) :=
  ⟨fun hx => by obtain ⟨y, hy, hw⟩ := h.of hx; exact ⟨g y, (by show d.K _ (f (g y)) _; rw [hfg]; exact hy), by rw [hfg]; exact hw⟩⟩
structure OpensF (P : Program) (fs : List Field) (off : Nat) {α : Type} (d : Kd α) (wf : α → Prop) : Prop where
  of : ∀ {H : Type} {enc : TypeId × Value → H} {w : World} {base : Nat} {spare : Nat → Bool} {held : Bool} {n : Nat} {cs : List Value}, (∀ (i : Nat) (f : Field), fs[i]? = some f → ∃ x : DataW H × List MemPlace, DataW.trod enc P w base spare held n f.type ((cs.drop f.offset).take (P.cellsOf f.type)) = some x) → ∃ y, d.K w y ((cs.drop off).take d.sz) ∧ wf y
theorem opensF_one {α : Type} {d : Kd α} {wf : α → Prop} {f : Field} {off : Nat} (ho : f.offset = off) (hc : P.cellsOf f.type = d.sz) (h : Opens P f.type d wf) : OpensF P [f] off d wf :=
  ⟨fun hx => by obtain ⟨x, hx⟩ := hx 0 f rfl; rw [ho, hc] at hx; exact h.of hx⟩
theorem opensF_cons {α β : Type} {d : Kd α} {d' : Kd β} {wf : α → Prop} {wf' : β → Prop} {f : Field} {fs : List Field} {off : Nat} (ho : f.offset = off) (hc : P.cellsOf f.type = d.sz) (h : Opens P f.type d wf) (h' : OpensF P fs (off + d.sz) d' wf') : OpensF P (f :: fs) off (Kd.pair d d') (fun x => wf x.1 ∧ wf' x.2) := by
  refine ⟨fun hx => ?_⟩
  obtain ⟨x, hx0⟩ := hx 0 f rfl
  rw [ho, hc] at hx0
  obtain ⟨y, hy, hw⟩ := h.of hx0
  obtain ⟨y', hy', hw'⟩ := h'.of (fun i f hf => hx (i + 1) f hf)
  refine ⟨(y, y'), ⟨_, _, ?_, hy, hy'⟩, hw, hw'⟩
  show List.take (d.sz + d'.sz) _ = _
  rw [List.take_add, List.drop_drop]
theorem opens_struct {α : Type} {d : Kd α} {wf : α → Prop} {fs : Array Field} (ht : P.underlying t = some (.struct fs)) (hc : P.cellsOf t = d.sz) (h : OpensF P fs.toList 0 d wf) : Opens P t d wf := by
  refine ⟨fun hx => ?_⟩
  obtain ⟨xs, n, _, _, hl, hlen, hf⟩ := DataW.trod_struct ht hx
  obtain ⟨y, hy, hw⟩ := h.of (fun i f hi => by
    rw [Array.getElem?_toList] at hi
    have hlt : i < xs.length := by rw [hlen]; exact (Array.getElem?_eq_some_iff.1 hi).1
    exact ⟨xs[i], (hf i f hi).trans (List.getElem?_eq_getElem hlt)⟩)
  rw [List.drop_zero, List.take_of_length_le (by omega)] at hy
  exact ⟨y, hy, hw⟩
end
end Go.Proofs.Ytehkhbnhmehobaa.P
namespace Go.Proofs.Ytehkhbnhmehobaa.P
open Go.RowKit Go.ChangeShapes Go.WideShapes Go.Proofs.YtehkhbnhmehobaaW.PrintWords Go.Proofs.YtehkhbnhmehobaaW.PrintLast Go.Proofs.YtehkhbnhmehobaaW.PrintMore
set_option linter.unusedVariables false
def I64 (n : Int) : Prop := -9223372036854775808 ≤ n ∧ n ≤ 9223372036854775807
def okWord (x : S78) : Prop := (0 ≤ x.f0 ∧ x.f0 ≤ 255) ∧ I64 x.f1
def okBlock (x : S32) : Prop := (x.f1.length ≤ maxLen ∧ ∀ y ∈ x.f1, okWord y) ∧ x.f2.size ≤ maxLen
theorem opens_Word : Opens Try.prog 78 k78 okWord := by
  have h := opens_iso (fun x : S78 => (x.f0, x.f1)) (fun p => ⟨p.1, p.2⟩) (fun _ => rfl) (opens_struct Try.underlying78 (by kernel_rfl) (opensF_cons rfl (by kernel_rfl) (opens_int (k := .u8) (by kernel_rfl)) (opensF_one rfl (by kernel_rfl) (opens_int (k := .i64) (by kernel_rfl)))))
  exact ⟨fun hx => h.of hx⟩
theorem opens_Block : Opens Try.prog 32 k32 okBlock := by
  have h := opens_iso (fun x : S32 => (x.f0, x.f1, x.f2)) (fun p => ⟨p.1, p.2.1, p.2.2⟩) (fun _ => rfl) (opens_struct Try.underlying32 (by kernel_rfl) (opensF_cons rfl (by kernel_rfl) (opens_bool (by kernel_rfl)) (opensF_cons rfl (by kernel_rfl) (opens_slice 78 (by kernel_rfl) (by kernel_rfl) opens_Word) (opensF_one rfl (by kernel_rfl) (opens_string (by kernel_rfl))))))
  exact ⟨fun hx => by obtain ⟨y, hy, hw⟩ := h.of hx; exact ⟨y, hy, hw.2⟩⟩
theorem opens_Blocks : Opens Try.prog 35 (Kd.slice 32 k32) (fun ys => ys.length ≤ maxLen ∧ ∀ y ∈ ys, okBlock y) := opens_slice 32 (by kernel_rfl) (by kernel_rfl) opens_Block
section
variable {H : Type} {enc : TypeId × Value → H} {w : World} {base : Nat} {spare : Nat → Bool} {held : Bool} {r : Reach} {b0 : Nat} {v : Value} {d : DataW H} {p : List MemPlace}
set_option maxRecDepth 100000 in
theorem arg_Blocks (hv : Value.okWide Try.prog w r b0 35 v) (h : DataW.Trod enc Try.prog w base spare held 35 v d p) :
    ∃ (l : List S32) (A1 : Option Addr) (c1 : Nat), v = .slice A1 l.length c1 ∧ l.length ≤ c1 ∧ Kd.C k32 w A1 l.length l ∧ l.length ≤ maxLen ∧ ∀ b ∈ l, okBlock b := by
  obtain ⟨fuel, hf⟩ := h
  obtain ⟨l, ⟨A1, c1, he, h1, h2⟩, hw⟩ := opens_Blocks.of hf
  obtain ⟨a, len, cap, rfl⟩ := okWide_slice Try.underlying35 hv
  refine ⟨l, A1, c1, ?_, h1, h2, hw⟩
  simpa [Value.cells] using he
end
end Go.Proofs.Ytehkhbnhmehobaa.P
namespace Go.Proofs.Ytehkhbnhmehobaa.P
open Go.RowKit Go.Proofs.YtehkhbnhmehobaaW.PrintWords Go.Proofs.YtehkhbnhmehobaaW.PrintLast Go.Proofs.YtehkhbnhmehobaaW.PrintMore
attribute [local go_sem] max2_int min2_int max_two min_two max_three min_three max_four min_four
set_option linter.unusedVariables false
set_option linter.unusedSimpArgs false
def swarfref43_has.l0 : Nat → Int → Int → Int → Bool → List (S78) → ByteArray → Option (Bool)
 | 0, _, _, _, _, _, _ => none
 | k + 1, x1, x2, x7, x504000, x504001, x504002 => if x7 < (x504001.length : Int) then (if 0 ≤ x7 then (if ((rd_T78 x504001 x7).f0) = x1 then (if ((rd_T78 x504001 x7).f1) = x2 then (some true) else (swarfref43_has.l0 k x1 x2 (wrap64 (x7 + 1)) x504000 x504001 x504002)) else (swarfref43_has.l0 k x1 x2 (wrap64 (x7 + 1)) x504000 x504001 x504002)) else (none)) else (some false)
def swarfref43_has.f (k : Nat) (a0_0 : Bool) (l0_1 : List (S78)) (a0_2 : ByteArray) (a1 : Int) (a2 : Int) : Option (Bool) := swarfref43_has.l0 k a1 a2 0 a0_0 l0_1 a0_2
set_option maxHeartbeats 8000000 in
set_option maxRecDepth 100000 in
theorem swarfref43_has.calls (k : Nat) (a0_0 : Bool) (A0_1 : Option Addr) (c0_1 : Nat) (l0_1 : List (S78)) (a0_2 : ByteArray) (a1 : Int) (a2 : Int) (r : Bool) (w : World) (hr0_1 : Kd.C k78 w A0_1 l0_1.length l0_1) (hc0_1 : l0_1.length ≤ c0_1) (h : swarfref43_has.f k a0_0 l0_1 a0_2 a1 a2 = some r) :
  Calls Try.prog 60 #[.agg #[.bool a0_0, .slice A0_1 l0_1.length c0_1, .string a0_2], .int .u8 a1, .int .i64 a2] w fun e w' => e = .returned (.bool r) ∧ Below w.heap.size w w' := by
 have hu32 := Try.underlying32
 have HR0_1 := Aside0.mk hr0_1
 have HC0_1 := Aside0.mk hc0_1
 clear hr0_1 hc0_1
 have HB := Aside0.mk (Below.refl w.heap.size w)
 have H : (swarfref43_has.l0 k a1 a2 0 a0_0 l0_1 a0_2) = some r := h
 clear h
 have H' := Aside0.mk H
 clear H
 go_enter Try.func60, Try.ntmps60
 go_wp2_with (first | ((with_reducible refine gate_dst (N := 3) rfl ?_); refine yX 3 #[.bool a0_0, .slice A0_1 l0_1.length c0_1, .string a0_2] 32 ?_; intro gb503 hg w4 hbox hb; have BK503 := Aside0.mk (hbox); have GE503 := Aside0.mk ((yG hg : w.heap.size ≤ gb503)); replace HB := Aside0.mk (below_step yB hb); clear hb hbox hg))
 go_loopg [7] k (fun kq v7 w' => ∃ (x7_1 : Int), v7 = .int .i64 x7_1 ∧ Aside0 (swarfref43_has.l0 kq a1 a2 x7_1 a0_0 l0_1 a0_2 = some r) ∧ Aside0 (kq ≤ k) ∧ Aside0 (w'.heap[gb503]? = some (.cells #[.bool a0_0, (.slice A0_1 l0_1.length c0_1), .string a0_2] 32 (0, 0))) ∧ Aside0 (Below w.heap.size w w'))
 case atStart => exact ⟨(0), yS, H', ⟨Nat.le_refl _⟩, ⟨by refine yH ?_; exact BK503.out⟩, ⟨yB⟩⟩
 case round =>
  clear H'
  try clear p2
  obtain ⟨x7_1, rfl, HA, HK1, BK503, HB⟩ := hrel
  cases gk with
  | zero => exact absurd HA.out (by simp [swarfref43_has.l0])
  | succ k1 =>
   have H := HA.out
   clear HA
   simp only [swarfref43_has.l0] at H
   by_cases c5 : x7_1 < (l0_1.length : Int)
   ·rw [if_pos c5] at H
    have c5b0 := decide_eq_true c5
    clear c5
    by_cases c6 : 0 ≤ x7_1
    ·rw [if_pos c6] at H
     have c6b0 := decide_eq_true c6
     clear c6
     by_cases c7 : ((rd_T78 l0_1 x7_1).f0) = a1
     ·rw [if_pos c7] at H
      have c7b0 : (((rd_T78 l0_1 x7_1).f0) == a1) = true := beq_iff_eq.mpr c7
      have c7b1 : (((rd_T78 l0_1 x7_1).f0) != a1) = false := bne_eq_false_iff_eq.mpr c7
      clear c7
      by_cases c8 : ((rd_T78 l0_1 x7_1).f1) = a2
      ·rw [if_pos c8] at H
       have c8b0 : (((rd_T78 l0_1 x7_1).f1) == a2) = true := beq_iff_eq.mpr c8
       have c8b1 : (((rd_T78 l0_1 x7_1).f1) != a2) = false := bne_eq_false_iff_eq.mpr c8
       clear c8
       obtain rfl := Option.some.inj H
       have hcz9_0 := yZ0 BK503.out
       have hcz9_1 := yZ1 BK503.out
       have hcz9_2 := yZ2 BK503.out
       have hfz9_0 := blk_frozen BK503.out 0
       have hfz9_1 := blk_frozen BK503.out 1
       have hfz9_2 := blk_frozen BK503.out 2
       have p504 : 0 ≤ (x7_1 : Int) := yD
       have q504 : x7_1 < (l0_1.length : Int) := yD
       obtain ⟨ad504, e504, hx504_0, hx504_1⟩ := at_T78 HR0_1.out x7_1 p504 q504
       cases e504
       replace hx504_0 := yM HB.out hx504_0
       replace hx504_1 := yM HB.out hx504_1
       replace p504 := eq_true p504
       replace q504 := eq_true q504
       have p505 : 0 ≤ (x7_1 : Int) := yD
       have q505 : x7_1 < (l0_1.length : Int) := yD
       obtain ⟨ad505, e505, hx505_0, hx505_1⟩ := at_T78 HR0_1.out x7_1 p505 q505
       obtain rfl : ad504 = ad505 := (by injection e505)
       replace hx505_0 := yM HB.out hx505_0
       replace hx505_1 := yM HB.out hx505_1
       replace p505 := eq_true p505
       replace q505 := eq_true q505
       go_wp2
       go_ret
       exact ⟨yE, yB⟩
      rw [if_neg c8] at H
      have c8b0 : (((rd_T78 l0_1 x7_1).f1) == a2) = false := beq_eq_false_iff_ne.mpr c8
      have c8b1 : (((rd_T78 l0_1 x7_1).f1) != a2) = true := bne_iff_ne.mpr c8
      have H' := Aside0.mk H
      clear H
      have hcz10_0 := yZ0 BK503.out
      have hcz10_1 := yZ1 BK503.out
      have hcz10_2 := yZ2 BK503.out
      have hfz10_0 := blk_frozen BK503.out 0
      have hfz10_1 := blk_frozen BK503.out 1
      have hfz10_2 := blk_frozen BK503.out 2
      have p504 : 0 ≤ (x7_1 : Int) := yD
      have q504 : x7_1 < (l0_1.length : Int) := yD
      obtain ⟨ad504, e504, hx504_0, hx504_1⟩ := at_T78 HR0_1.out x7_1 p504 q504
      cases e504
      replace hx504_0 := yM HB.out hx504_0
      replace hx504_1 := yM HB.out hx504_1
      replace p504 := eq_true p504
      replace q504 := eq_true q504
      have p505 : 0 ≤ (x7_1 : Int) := yD
      have q505 : x7_1 < (l0_1.length : Int) := yD
      obtain ⟨ad505, e505, hx505_0, hx505_1⟩ := at_T78 HR0_1.out x7_1 p505 q505
      obtain rfl : ad504 = ad505 := (by injection e505)
      replace hx505_0 := yM HB.out hx505_0
      replace hx505_1 := yM HB.out hx505_1
      replace p505 := eq_true p505
      replace q505 := eq_true q505
      go_wp2
      go_roundg k1
      case measure => have := HK1.out; omega
      case rel => exact ⟨(wrap64 (x7_1 + 1)), yS, H', ⟨by have := HK1.out; omega⟩, ⟨by refine yH ?_; exact BK503.out⟩, ⟨yB⟩⟩
     rw [if_neg c7] at H
     have c7b0 : (((rd_T78 l0_1 x7_1).f0) == a1) = false := beq_eq_false_iff_ne.mpr c7
     have c7b1 : (((rd_T78 l0_1 x7_1).f0) != a1) = true := bne_iff_ne.mpr c7
     have H' := Aside0.mk H
     clear H
     have hcz11_0 := yZ0 BK503.out
     have hcz11_1 := yZ1 BK503.out
     have hcz11_2 := yZ2 BK503.out
     have hfz11_0 := blk_frozen BK503.out 0
     have hfz11_1 := blk_frozen BK503.out 1
     have hfz11_2 := blk_frozen BK503.out 2
     have p504 : 0 ≤ (x7_1 : Int) := yD
     have q504 : x7_1 < (l0_1.length : Int) := yD
     obtain ⟨ad504, e504, hx504_0, hx504_1⟩ := at_T78 HR0_1.out x7_1 p504 q504
     cases e504
     replace hx504_0 := yM HB.out hx504_0
     replace hx504_1 := yM HB.out hx504_1
     replace p504 := eq_true p504
     replace q504 := eq_true q504
     go_wp2
     go_roundg k1
     case measure => have := HK1.out; omega
     case rel => exact ⟨(wrap64 (x7_1 + 1)), yS, H', ⟨by have := HK1.out; omega⟩, ⟨by refine yH ?_; exact BK503.out⟩, ⟨yB⟩⟩
    rw [if_neg c6] at H
    exact absurd H (by simp)
   rw [if_neg c5] at H
   have c5b0 := decide_eq_false c5
   clear c5
   obtain rfl := Option.some.inj H
   have hcz12_0 := yZ0 BK503.out
   have hcz12_1 := yZ1 BK503.out
   have hcz12_2 := yZ2 BK503.out
   have hfz12_0 := blk_frozen BK503.out 0
   have hfz12_1 := blk_frozen BK503.out 1
   have hfz12_2 := blk_frozen BK503.out 2
   go_wp2
   go_ret
   exact ⟨yE, yB⟩
def swarfref43_whole.f (a0 : Int) : Option (Int) := if (Int.tmod a0 1000) = 0 then (if a0 < 1000 then (some 0) else (if a0 > 9999000 then (some 0) else (some (wrap64 (Int.tdiv a0 1000))))) else (some 0)
set_option maxHeartbeats 8000000 in
set_option maxRecDepth 100000 in
theorem swarfref43_whole.calls (a0 : Int) (r : Int) (w : World) (h : swarfref43_whole.f a0 = some r) :
  Calls Try.prog 61 #[.int .i64 a0] w fun e w' => e = .returned (.int .i64 r) ∧ Drawn0 w w' := by
 have H : (if (Int.tmod a0 1000) = 0 then (if a0 < 1000 then (some 0) else (if a0 > 9999000 then (some 0) else (some (wrap64 (Int.tdiv a0 1000))))) else (some 0)) = some r := h
 clear h
 by_cases c2 : (Int.tmod a0 1000) = 0
 ·rw [if_pos c2] at H
  have c2b0 : ((Int.tmod a0 1000) == 0) = true := beq_iff_eq.mpr c2
  have c2b1 : ((Int.tmod a0 1000) != 0) = false := bne_eq_false_iff_eq.mpr c2
  clear c2
  by_cases c3 : a0 < 1000
  ·rw [if_pos c3] at H
   have c3b0 := decide_eq_true c3
   clear c3
   obtain rfl := Option.some.inj H
   go_enter Try.func61, Try.ntmps61
   go_wp2
   go_ret
   exact ⟨by first | rfl | (simp; done) | (simp [*]; done), by repeat (first | exact Drawn0.refl _ | apply Drawn0.step)⟩
  rw [if_neg c3] at H
  have c3b0 := decide_eq_false c3
  clear c3
  by_cases c4 : a0 > 9999000
  ·rw [if_pos c4] at H
   have c4b0 := decide_eq_true c4
   clear c4
   obtain rfl := Option.some.inj H
   go_enter Try.func61, Try.ntmps61
   go_wp2
   go_ret
   exact ⟨by first | rfl | (simp; done) | (simp [*]; done), by repeat (first | exact Drawn0.refl _ | apply Drawn0.step)⟩
  rw [if_neg c4] at H
  have c4b0 := decide_eq_false c4
  clear c4
  obtain rfl := Option.some.inj H
  go_enter Try.func61, Try.ntmps61
  go_wp2
  go_ret
  exact ⟨by first | rfl | (simp; done) | (simp [*]; done), by repeat (first | exact Drawn0.refl _ | apply Drawn0.step)⟩
 rw [if_neg c2] at H
 have c2b0 : ((Int.tmod a0 1000) == 0) = false := beq_eq_false_iff_ne.mpr c2
 have c2b1 : ((Int.tmod a0 1000) != 0) = true := bne_iff_ne.mpr c2
 obtain rfl := Option.some.inj H
 go_enter Try.func61, Try.ntmps61
 go_wp2
 go_ret
 exact ⟨by first | rfl | (simp; done) | (simp [*]; done), by repeat (first | exact Drawn0.refl _ | apply Drawn0.step)⟩
def swarfref43_Call.l0 : Nat → Int → Int → Int → Int → Int → Int → Int → Bool → List (S78) → ByteArray → Option (Int × Int × Bool × Int)
 | 0, _, _, _, _, _, _, _, _, _, _ => none
 | k + 1, x6, x7, x8, x9, x10, x11, x12, x507000, x507001, x507002 => if x12 < (x507001.length : Int) then (if 0 ≤ x12 then (if ((rd_T78 x507001 x12).f0) = 77 then (swarfref43_Call.l0 k x6 x7 x8 x9 (wrap64 (x10 + 1)) x11 (wrap64 (x12 + 1)) x507000 x507001 x507002) else (if ((rd_T78 x507001 x12).f0) = 80 then ((swarfref43_whole.f ((rd_T78 x507001 x12).f1)).bind fun t510 => (swarfref43_Call.l0 k t510 x7 (wrap64 (x8 + 1)) x9 x10 x11 (wrap64 (x12 + 1)) x507000 x507001 x507002)) else (if ((rd_T78 x507001 x12).f0) = 76 then ((swarfref43_whole.f ((rd_T78 x507001 x12).f1)).bind fun t511 => (swarfref43_Call.l0 k x6 t511 x8 (wrap64 (x9 + 1)) x10 x11 (wrap64 (x12 + 1)) x507000 x507001 x507002)) else (if ((rd_T78 x507001 x12).f0) = 78 then (swarfref43_Call.l0 k x6 x7 x8 x9 x10 (wrap64 (x11 + 1)) (wrap64 (x12 + 1)) x507000 x507001 x507002) else (some (0, 0, false, 1)))))) else (none)) else (if x10 = 1 then (if x8 = 1 then (if x9 > 1 then (some (0, 0, false, 1)) else (if x11 > 1 then (some (0, 0, false, 1)) else (if x6 = 0 then (some (0, 0, false, 1)) else (if x7 = 0 then (some (0, 0, false, 1)) else (some (x6, x7, true, 0)))))) else (some (0, 0, false, 1))) else (some (0, 0, false, 1)))
def swarfref43_Call.f (k : Nat) (a0_0 : Bool) (l0_1 : List (S78)) (a0_2 : ByteArray) : Option (Int × Int × Bool × Int) := (swarfref43_has.f k a0_0 l0_1 a0_2 77 98000).bind fun t507 => (if t507 = true then (swarfref43_Call.l0 k 0 1 0 0 0 0 0 a0_0 l0_1 a0_2) else (some (0, 0, false, 0)))
set_option maxHeartbeats 8000000 in
set_option maxRecDepth 100000 in
theorem swarfref43_Call.calls (k : Nat) (a0_0 : Bool) (A0_1 : Option Addr) (c0_1 : Nat) (l0_1 : List (S78)) (a0_2 : ByteArray) (r1 : Int) (r2 : Int) (r3 : Bool) (r4 : Int) (w : World) (hr0_1 : Kd.C k78 w A0_1 l0_1.length l0_1) (hc0_1 : l0_1.length ≤ c0_1) (h : swarfref43_Call.f k a0_0 l0_1 a0_2 = some (r1, r2, r3, r4)) :
  Calls Try.prog 26 #[.agg #[.bool a0_0, .slice A0_1 l0_1.length c0_1, .string a0_2]] w fun e w' => e = .returned (.tuple #[.int .i64 r1, .int .i64 r2, .bool r3, .int .i64 r4]) ∧ Below w.heap.size w w' := by
 have hu32 := Try.underlying32
 have hu78 := Try.underlying78
 have HR0_1 := Aside0.mk hr0_1
 have HC0_1 := Aside0.mk hc0_1
 clear hr0_1 hc0_1
 have HB := Aside0.mk (Below.refl w.heap.size w)
 have H : ((swarfref43_has.f k a0_0 l0_1 a0_2 77 98000).bind fun t507 => (if t507 = true then (swarfref43_Call.l0 k 0 1 0 0 0 0 0 a0_0 l0_1 a0_2) else (some (0, 0, false, 0)))) = some (r1, r2, r3, r4) := h
 clear h
 replace H := Option.bind_eq_some_iff.mp H
 obtain ⟨t507, A20, H⟩ := H
 have A2 := Aside0.mk A20
 clear A20
 by_cases c3 : t507 = true
 ·subst c3
  rw [if_pos rfl] at H
  have H' := Aside0.mk H
  clear H
  go_enter Try.func26, Try.ntmps26
  go_wp2_with (first | ((with_reducible refine gate_dst (N := 1) rfl ?_); refine yX 1 #[.bool a0_0, .slice A0_1 l0_1.length c0_1, .string a0_2] 32 ?_; intro gb506 hg w4 hbox hb; have BK506 := Aside0.mk (hbox); have GW506 := Aside0.mk ((yG hg : w.heap.size ≤ gb506)); have GE506 := Aside0.mk ((yG hg : w.heap.size ≤ gb506)); replace HB := Aside0.mk (below_step yB hb); clear hb hbox hg; have hcz5_0 := yZ0 BK506.out; have hcz5_1 := yZ1 BK506.out; have hcz5_2 := yZ2 BK506.out; have hfz5_0 := blk_frozen BK506.out 0; have hfz5_1 := blk_frozen BK506.out 1; have hfz5_2 := blk_frozen BK506.out 2) | ((with_reducible refine gate_callee (f := 60) rfl ?_); refine goesL_ (some 15) rfl rfl Try.func60 (by kernel_rfl) rfl #[.agg #[.bool a0_0, .slice A0_1 l0_1.length c0_1, .string a0_2], .int .u8 77, .int .i64 98000] rfl yQ ?_; (with_reducible refine (swarfref43_has.calls k a0_0 _ _ l0_1 a0_2 77 98000 true _ ?side1 ?side2 A2.out).mono ?_); (case side1 => exact yC HR0_1.out); (case side2 => exact HC0_1.out); rintro e w6 ⟨rfl, hb⟩; refine ⟨_, rfl, ?_⟩; replace BK506 := Aside0.mk (blk_below (g := gb506) yK hb); replace HB := Aside0.mk (below_step yB hb); (try clear hb)))
  go_loopg [6, 7, 8, 9, 10, 11, 12] k (fun kq v6 v7 v8 v9 v10 v11 v12 w' => ∃ (x6_1 : Int) (x7_1 : Int) (x8_1 : Int) (x9_1 : Int) (x10_1 : Int) (x11_1 : Int) (x12_1 : Int), v6 = .int .i64 x6_1 ∧ v7 = .int .i64 x7_1 ∧ v8 = .int .i64 x8_1 ∧ v9 = .int .i64 x9_1 ∧ v10 = .int .i64 x10_1 ∧ v11 = .int .i64 x11_1 ∧ v12 = .int .i64 x12_1 ∧ Aside0 (swarfref43_Call.l0 kq x6_1 x7_1 x8_1 x9_1 x10_1 x11_1 x12_1 a0_0 l0_1 a0_2 = some (r1, r2, r3, r4)) ∧ Aside0 (kq ≤ k) ∧ Aside0 (w'.heap[gb506]? = some (.cells #[.bool a0_0, (.slice A0_1 l0_1.length c0_1), .string a0_2] 32 (0, 0))) ∧ Aside0 (Below w.heap.size w w'))
  case atStart => exact ⟨(0), (1), (0), (0), (0), (0), (0), yS, yS, yS, yS, yS, yS, yS, H', ⟨Nat.le_refl _⟩, ⟨by refine yH ?_; exact BK506.out⟩, ⟨yB⟩⟩
  case round =>
   clear H'
   try clear c2
   try clear p2
   try clear c3
   try clear c6
   try clear hcz5_0
   try clear hcz5_1
   try clear hcz5_2
   try clear hfz5_0
   try clear hfz5_1
   try clear hfz5_2
   obtain ⟨x6_1, x7_1, x8_1, x9_1, x10_1, x11_1, x12_1, rfl, rfl, rfl, rfl, rfl, rfl, rfl, HA, HK1, BK506, HB⟩ := hrel
   cases gk with
   | zero => exact absurd HA.out (by simp [swarfref43_Call.l0])
   | succ k1 =>
    have H := HA.out
    clear HA
    simp only [swarfref43_Call.l0] at H
    by_cases c7 : x12_1 < (l0_1.length : Int)
    ·rw [if_pos c7] at H
     have c7b0 := decide_eq_true c7
     clear c7
     by_cases c8 : 0 ≤ x12_1
     ·rw [if_pos c8] at H
      have c8b0 := decide_eq_true c8
      clear c8
      by_cases c9 : ((rd_T78 l0_1 x12_1).f0) = 77
      ·rw [if_pos c9] at H
       have c9b0 : (((rd_T78 l0_1 x12_1).f0) == 77) = true := beq_iff_eq.mpr c9
       have c9b1 : (((rd_T78 l0_1 x12_1).f0) != 77) = false := bne_eq_false_iff_eq.mpr c9
       clear c9
       have H' := Aside0.mk H
       clear H
       have hcz10_0 := yZ0 BK506.out
       have hcz10_1 := yZ1 BK506.out
       have hcz10_2 := yZ2 BK506.out
       have hfz10_0 := blk_frozen BK506.out 0
       have hfz10_1 := blk_frozen BK506.out 1
       have hfz10_2 := blk_frozen BK506.out 2
       have p508 : 0 ≤ (x12_1 : Int) := yD
       have q508 : x12_1 < (l0_1.length : Int) := yD
       obtain ⟨ad508, e508, hx508_0, hx508_1⟩ := at_T78 HR0_1.out x12_1 p508 q508
       cases e508
       replace hx508_0 := yM HB.out hx508_0
       replace hx508_1 := yM HB.out hx508_1
       replace p508 := eq_true p508
       replace q508 := eq_true q508
       go_wp2_with (first | ((with_reducible refine gate_dst (N := 13) rfl ?_); refine yX 13 #[.int .u8 0, .int .i64 0] 78 ?_; intro gb509 hg w11 hbox hb; have BK509 := Aside0.mk (hbox); have GW509 := Aside0.mk ((yG hg : w.heap.size ≤ gb509)); have GE509 := Aside0.mk ((yG hg : w.heap.size ≤ gb509)); replace HB := Aside0.mk (below_step yB hb); have NB506_509 := Aside0.mk ((yJ hg yK : gb506 ≠ gb509)); have NB509_506 := Aside0.mk ((yI hg yK : gb509 ≠ gb506)); replace BK506 := Aside0.mk (blk_below (g := gb506) yK hb); clear hb hbox hg; have hnb12 := NB509_506.out; have hnc12 := NB506_509.out; have hcz13_0 := yZ0 BK509.out; have hcz13_1 := yZ1 BK509.out; have hfz13_0 := blk_frozen BK509.out 0; have hfz13_1 := blk_frozen BK509.out 1))
       go_roundg k1
       case measure => have := HK1.out; omega
       case rel => exact ⟨(x6_1), (x7_1), (x8_1), (x9_1), (wrap64 (x10_1 + 1)), (x11_1), (wrap64 (x12_1 + 1)), yS, yS, yS, yS, yS, yS, yS, H', ⟨by have := HK1.out; omega⟩, ⟨by refine yH ?_; refine blk_far ?_ NB506_509.out _; refine yH ?_; refine blk_far ?_ NB506_509.out _; refine yH ?_; exact BK506.out⟩, ⟨yB⟩⟩
      rw [if_neg c9] at H
      have c9b0 : (((rd_T78 l0_1 x12_1).f0) == 77) = false := beq_eq_false_iff_ne.mpr c9
      have c9b1 : (((rd_T78 l0_1 x12_1).f0) != 77) = true := bne_iff_ne.mpr c9
      by_cases c14 : ((rd_T78 l0_1 x12_1).f0) = 80
      ·rw [if_pos c14] at H
       have c14b0 : (((rd_T78 l0_1 x12_1).f0) == 80) = true := beq_iff_eq.mpr c14
       have c14b1 : (((rd_T78 l0_1 x12_1).f0) != 80) = false := bne_eq_false_iff_eq.mpr c14
       clear c14
       replace H := Option.bind_eq_some_iff.mp H
       obtain ⟨t510, A150, H⟩ := H
       have A15 := Aside0.mk A150
       clear A150
       have H' := Aside0.mk H
       clear H
       have hcz16_0 := yZ0 BK506.out
       have hcz16_1 := yZ1 BK506.out
       have hcz16_2 := yZ2 BK506.out
       have hfz16_0 := blk_frozen BK506.out 0
       have hfz16_1 := blk_frozen BK506.out 1
       have hfz16_2 := blk_frozen BK506.out 2
       have p508 : 0 ≤ (x12_1 : Int) := yD
       have q508 : x12_1 < (l0_1.length : Int) := yD
       obtain ⟨ad508, e508, hx508_0, hx508_1⟩ := at_T78 HR0_1.out x12_1 p508 q508
       cases e508
       replace hx508_0 := yM HB.out hx508_0
       replace hx508_1 := yM HB.out hx508_1
       replace p508 := eq_true p508
       replace q508 := eq_true q508
       go_wp2_with (first | ((with_reducible refine gate_dst (N := 13) rfl ?_); refine yX 13 #[.int .u8 0, .int .i64 0] 78 ?_; intro gb509 hg w17 hbox hb; have BK509 := Aside0.mk (hbox); have GW509 := Aside0.mk ((yG hg : w.heap.size ≤ gb509)); have GE509 := Aside0.mk ((yG hg : w.heap.size ≤ gb509)); replace HB := Aside0.mk (below_step yB hb); have NB506_509 := Aside0.mk ((yJ hg yK : gb506 ≠ gb509)); have NB509_506 := Aside0.mk ((yI hg yK : gb509 ≠ gb506)); replace BK506 := Aside0.mk (blk_below (g := gb506) yK hb); clear hb hbox hg; have hnb18 := NB509_506.out; have hnc18 := NB506_509.out; have hcz19_0 := yZ0 BK509.out; have hcz19_1 := yZ1 BK509.out; have hfz19_0 := blk_frozen BK509.out 0; have hfz19_1 := blk_frozen BK509.out 1) | ((with_reducible refine gate_callee (f := 61) rfl ?_); refine goesL_ (some 41) rfl rfl Try.func61 (by kernel_rfl) rfl #[.int .i64 ((rd_T78 l0_1 x12_1).f1)] rfl yQ ?_; (with_reducible refine (swarfref43_whole.calls ((rd_T78 l0_1 x12_1).f1) t510 _ A15.out).mono ?_); rintro e w' ⟨rfl, ⟨nd, rfl⟩⟩; refine ⟨_, rfl, ?_⟩))
       go_roundg k1
       case measure => have := HK1.out; omega
       case rel => exact ⟨(t510), (x7_1), (wrap64 (x8_1 + 1)), (x9_1), (x10_1), (x11_1), (wrap64 (x12_1 + 1)), yS, yS, yS, yS, yS, yS, yS, H', ⟨by have := HK1.out; omega⟩, ⟨by refine yH ?_; refine blk_far ?_ NB506_509.out _; refine yH ?_; refine blk_far ?_ NB506_509.out _; refine yH ?_; exact BK506.out⟩, ⟨yB⟩⟩
      rw [if_neg c14] at H
      have c14b0 : (((rd_T78 l0_1 x12_1).f0) == 80) = false := beq_eq_false_iff_ne.mpr c14
      have c14b1 : (((rd_T78 l0_1 x12_1).f0) != 80) = true := bne_iff_ne.mpr c14
      by_cases c20 : ((rd_T78 l0_1 x12_1).f0) = 76
      ·rw [if_pos c20] at H
       have c20b0 : (((rd_T78 l0_1 x12_1).f0) == 76) = true := beq_iff_eq.mpr c20
       have c20b1 : (((rd_T78 l0_1 x12_1).f0) != 76) = false := bne_eq_false_iff_eq.mpr c20
       clear c20
       replace H := Option.bind_eq_some_iff.mp H
       obtain ⟨t511, A210, H⟩ := H
       have A21 := Aside0.mk A210
       clear A210
       have H' := Aside0.mk H
       clear H
       have hcz22_0 := yZ0 BK506.out
       have hcz22_1 := yZ1 BK506.out
       have hcz22_2 := yZ2 BK506.out
       have hfz22_0 := blk_frozen BK506.out 0
       have hfz22_1 := blk_frozen BK506.out 1
       have hfz22_2 := blk_frozen BK506.out 2
       have p508 : 0 ≤ (x12_1 : Int) := yD
       have q508 : x12_1 < (l0_1.length : Int) := yD
       obtain ⟨ad508, e508, hx508_0, hx508_1⟩ := at_T78 HR0_1.out x12_1 p508 q508
       cases e508
       replace hx508_0 := yM HB.out hx508_0
       replace hx508_1 := yM HB.out hx508_1
       replace p508 := eq_true p508
       replace q508 := eq_true q508
       go_wp2_with (first | ((with_reducible refine gate_dst (N := 13) rfl ?_); refine yX 13 #[.int .u8 0, .int .i64 0] 78 ?_; intro gb509 hg w23 hbox hb; have BK509 := Aside0.mk (hbox); have GW509 := Aside0.mk ((yG hg : w.heap.size ≤ gb509)); have GE509 := Aside0.mk ((yG hg : w.heap.size ≤ gb509)); replace HB := Aside0.mk (below_step yB hb); have NB506_509 := Aside0.mk ((yJ hg yK : gb506 ≠ gb509)); have NB509_506 := Aside0.mk ((yI hg yK : gb509 ≠ gb506)); replace BK506 := Aside0.mk (blk_below (g := gb506) yK hb); clear hb hbox hg; have hnb24 := NB509_506.out; have hnc24 := NB506_509.out; have hcz25_0 := yZ0 BK509.out; have hcz25_1 := yZ1 BK509.out; have hfz25_0 := blk_frozen BK509.out 0; have hfz25_1 := blk_frozen BK509.out 1) | ((with_reducible refine gate_callee (f := 61) rfl ?_); refine goesL_ (some 48) rfl rfl Try.func61 (by kernel_rfl) rfl #[.int .i64 ((rd_T78 l0_1 x12_1).f1)] rfl yQ ?_; (with_reducible refine (swarfref43_whole.calls ((rd_T78 l0_1 x12_1).f1) t511 _ A21.out).mono ?_); rintro e w' ⟨rfl, ⟨nd, rfl⟩⟩; refine ⟨_, rfl, ?_⟩))
       go_roundg k1
       case measure => have := HK1.out; omega
       case rel => exact ⟨(x6_1), (t511), (x8_1), (wrap64 (x9_1 + 1)), (x10_1), (x11_1), (wrap64 (x12_1 + 1)), yS, yS, yS, yS, yS, yS, yS, H', ⟨by have := HK1.out; omega⟩, ⟨by refine yH ?_; refine blk_far ?_ NB506_509.out _; refine yH ?_; refine blk_far ?_ NB506_509.out _; refine yH ?_; exact BK506.out⟩, ⟨yB⟩⟩
      rw [if_neg c20] at H
      have c20b0 : (((rd_T78 l0_1 x12_1).f0) == 76) = false := beq_eq_false_iff_ne.mpr c20
      have c20b1 : (((rd_T78 l0_1 x12_1).f0) != 76) = true := bne_iff_ne.mpr c20
      by_cases c26 : ((rd_T78 l0_1 x12_1).f0) = 78
      ·rw [if_pos c26] at H
       have c26b0 : (((rd_T78 l0_1 x12_1).f0) == 78) = true := beq_iff_eq.mpr c26
       have c26b1 : (((rd_T78 l0_1 x12_1).f0) != 78) = false := bne_eq_false_iff_eq.mpr c26
       clear c26
       have H' := Aside0.mk H
       clear H
       have hcz27_0 := yZ0 BK506.out
       have hcz27_1 := yZ1 BK506.out
       have hcz27_2 := yZ2 BK506.out
       have hfz27_0 := blk_frozen BK506.out 0
       have hfz27_1 := blk_frozen BK506.out 1
       have hfz27_2 := blk_frozen BK506.out 2
       have p508 : 0 ≤ (x12_1 : Int) := yD
       have q508 : x12_1 < (l0_1.length : Int) := yD
       obtain ⟨ad508, e508, hx508_0, hx508_1⟩ := at_T78 HR0_1.out x12_1 p508 q508
       cases e508
       replace hx508_0 := yM HB.out hx508_0
       replace hx508_1 := yM HB.out hx508_1
       replace p508 := eq_true p508
       replace q508 := eq_true q508
       go_wp2_with (first | ((with_reducible refine gate_dst (N := 13) rfl ?_); refine yX 13 #[.int .u8 0, .int .i64 0] 78 ?_; intro gb509 hg w28 hbox hb; have BK509 := Aside0.mk (hbox); have GW509 := Aside0.mk ((yG hg : w.heap.size ≤ gb509)); have GE509 := Aside0.mk ((yG hg : w.heap.size ≤ gb509)); replace HB := Aside0.mk (below_step yB hb); have NB506_509 := Aside0.mk ((yJ hg yK : gb506 ≠ gb509)); have NB509_506 := Aside0.mk ((yI hg yK : gb509 ≠ gb506)); replace BK506 := Aside0.mk (blk_below (g := gb506) yK hb); clear hb hbox hg; have hnb29 := NB509_506.out; have hnc29 := NB506_509.out; have hcz30_0 := yZ0 BK509.out; have hcz30_1 := yZ1 BK509.out; have hfz30_0 := blk_frozen BK509.out 0; have hfz30_1 := blk_frozen BK509.out 1))
       go_roundg k1
       case measure => have := HK1.out; omega
       case rel => exact ⟨(x6_1), (x7_1), (x8_1), (x9_1), (x10_1), (wrap64 (x11_1 + 1)), (wrap64 (x12_1 + 1)), yS, yS, yS, yS, yS, yS, yS, H', ⟨by have := HK1.out; omega⟩, ⟨by refine yH ?_; refine blk_far ?_ NB506_509.out _; refine yH ?_; refine blk_far ?_ NB506_509.out _; refine yH ?_; exact BK506.out⟩, ⟨yB⟩⟩
      rw [if_neg c26] at H
      have c26b0 : (((rd_T78 l0_1 x12_1).f0) == 78) = false := beq_eq_false_iff_ne.mpr c26
      have c26b1 : (((rd_T78 l0_1 x12_1).f0) != 78) = true := bne_iff_ne.mpr c26
      simp only [Option.some.injEq, Prod.mk.injEq] at H
      obtain ⟨rfl, rfl, rfl, rfl⟩ := H
      have hcz31_0 := yZ0 BK506.out
      have hcz31_1 := yZ1 BK506.out
      have hcz31_2 := yZ2 BK506.out
      have hfz31_0 := blk_frozen BK506.out 0
      have hfz31_1 := blk_frozen BK506.out 1
      have hfz31_2 := blk_frozen BK506.out 2
      have p508 : 0 ≤ (x12_1 : Int) := yD
      have q508 : x12_1 < (l0_1.length : Int) := yD
      obtain ⟨ad508, e508, hx508_0, hx508_1⟩ := at_T78 HR0_1.out x12_1 p508 q508
      cases e508
      replace hx508_0 := yM HB.out hx508_0
      replace hx508_1 := yM HB.out hx508_1
      replace p508 := eq_true p508
      replace q508 := eq_true q508
      go_wp2_with (first | ((with_reducible refine gate_dst (N := 13) rfl ?_); refine yX 13 #[.int .u8 0, .int .i64 0] 78 ?_; intro gb509 hg w32 hbox hb; have BK509 := Aside0.mk (hbox); have GW509 := Aside0.mk ((yG hg : w.heap.size ≤ gb509)); have GE509 := Aside0.mk ((yG hg : w.heap.size ≤ gb509)); replace HB := Aside0.mk (below_step yB hb); have NB506_509 := Aside0.mk ((yJ hg yK : gb506 ≠ gb509)); have NB509_506 := Aside0.mk ((yI hg yK : gb509 ≠ gb506)); replace BK506 := Aside0.mk (blk_below (g := gb506) yK hb); clear hb hbox hg; have hnb33 := NB509_506.out; have hnc33 := NB506_509.out; have hcz34_0 := yZ0 BK509.out; have hcz34_1 := yZ1 BK509.out; have hfz34_0 := blk_frozen BK509.out 0; have hfz34_1 := blk_frozen BK509.out 1))
      refine bodyPost_ret (results_list (rs := [.tmp 2, .tmp 3, .tmp 4, .tmp 5]) rfl (by simp) (.tmp (.tmp (.tmp (.tmp .nil))))) rfl ?_
      exact ⟨yE, yB⟩
     rw [if_neg c8] at H
     exact absurd H (by simp)
    rw [if_neg c7] at H
    have c7b0 := decide_eq_false c7
    clear c7
    by_cases c35 : x10_1 = 1
    ·rw [if_pos c35] at H
     have c35b0 : (x10_1 == 1) = true := beq_iff_eq.mpr c35
     have c35b1 : (x10_1 != 1) = false := bne_eq_false_iff_eq.mpr c35
     clear c35
     by_cases c36 : x8_1 = 1
     ·rw [if_pos c36] at H
      have c36b0 : (x8_1 == 1) = true := beq_iff_eq.mpr c36
      have c36b1 : (x8_1 != 1) = false := bne_eq_false_iff_eq.mpr c36
      clear c36
      by_cases c37 : x9_1 > 1
      ·rw [if_pos c37] at H
       have c37b0 := decide_eq_true c37
       clear c37
       simp only [Option.some.injEq, Prod.mk.injEq] at H
       obtain ⟨rfl, rfl, rfl, rfl⟩ := H
       have hcz38_0 := yZ0 BK506.out
       have hcz38_1 := yZ1 BK506.out
       have hcz38_2 := yZ2 BK506.out
       have hfz38_0 := blk_frozen BK506.out 0
       have hfz38_1 := blk_frozen BK506.out 1
       have hfz38_2 := blk_frozen BK506.out 2
       go_wp2
       refine bodyPost_ret (results_list (rs := [.tmp 2, .tmp 3, .tmp 4, .tmp 5]) rfl (by simp) (.tmp (.tmp (.tmp (.tmp .nil))))) rfl ?_
       exact ⟨yE, yB⟩
      rw [if_neg c37] at H
      have c37b0 := decide_eq_false c37
      clear c37
      by_cases c39 : x11_1 > 1
      ·rw [if_pos c39] at H
       have c39b0 := decide_eq_true c39
       clear c39
       simp only [Option.some.injEq, Prod.mk.injEq] at H
       obtain ⟨rfl, rfl, rfl, rfl⟩ := H
       have hcz40_0 := yZ0 BK506.out
       have hcz40_1 := yZ1 BK506.out
       have hcz40_2 := yZ2 BK506.out
       have hfz40_0 := blk_frozen BK506.out 0
       have hfz40_1 := blk_frozen BK506.out 1
       have hfz40_2 := blk_frozen BK506.out 2
       go_wp2
       refine bodyPost_ret (results_list (rs := [.tmp 2, .tmp 3, .tmp 4, .tmp 5]) rfl (by simp) (.tmp (.tmp (.tmp (.tmp .nil))))) rfl ?_
       exact ⟨yE, yB⟩
      rw [if_neg c39] at H
      have c39b0 := decide_eq_false c39
      clear c39
      by_cases c41 : x6_1 = 0
      ·rw [if_pos c41] at H
       have c41b0 : (x6_1 == 0) = true := beq_iff_eq.mpr c41
       have c41b1 : (x6_1 != 0) = false := bne_eq_false_iff_eq.mpr c41
       clear c41
       simp only [Option.some.injEq, Prod.mk.injEq] at H
       obtain ⟨rfl, rfl, rfl, rfl⟩ := H
       have hcz42_0 := yZ0 BK506.out
       have hcz42_1 := yZ1 BK506.out
       have hcz42_2 := yZ2 BK506.out
       have hfz42_0 := blk_frozen BK506.out 0
       have hfz42_1 := blk_frozen BK506.out 1
       have hfz42_2 := blk_frozen BK506.out 2
       go_wp2
       refine bodyPost_ret (results_list (rs := [.tmp 2, .tmp 3, .tmp 4, .tmp 5]) rfl (by simp) (.tmp (.tmp (.tmp (.tmp .nil))))) rfl ?_
       exact ⟨yE, yB⟩
      rw [if_neg c41] at H
      have c41b0 : (x6_1 == 0) = false := beq_eq_false_iff_ne.mpr c41
      have c41b1 : (x6_1 != 0) = true := bne_iff_ne.mpr c41
      by_cases c43 : x7_1 = 0
      ·rw [if_pos c43] at H
       have c43b0 : (x7_1 == 0) = true := beq_iff_eq.mpr c43
       have c43b1 : (x7_1 != 0) = false := bne_eq_false_iff_eq.mpr c43
       clear c43
       simp only [Option.some.injEq, Prod.mk.injEq] at H
       obtain ⟨rfl, rfl, rfl, rfl⟩ := H
       have hcz44_0 := yZ0 BK506.out
       have hcz44_1 := yZ1 BK506.out
       have hcz44_2 := yZ2 BK506.out
       have hfz44_0 := blk_frozen BK506.out 0
       have hfz44_1 := blk_frozen BK506.out 1
       have hfz44_2 := blk_frozen BK506.out 2
       go_wp2
       refine bodyPost_ret (results_list (rs := [.tmp 2, .tmp 3, .tmp 4, .tmp 5]) rfl (by simp) (.tmp (.tmp (.tmp (.tmp .nil))))) rfl ?_
       exact ⟨yE, yB⟩
      rw [if_neg c43] at H
      have c43b0 : (x7_1 == 0) = false := beq_eq_false_iff_ne.mpr c43
      have c43b1 : (x7_1 != 0) = true := bne_iff_ne.mpr c43
      simp only [Option.some.injEq, Prod.mk.injEq] at H
      obtain ⟨rfl, rfl, rfl, rfl⟩ := H
      have hcz45_0 := yZ0 BK506.out
      have hcz45_1 := yZ1 BK506.out
      have hcz45_2 := yZ2 BK506.out
      have hfz45_0 := blk_frozen BK506.out 0
      have hfz45_1 := blk_frozen BK506.out 1
      have hfz45_2 := blk_frozen BK506.out 2
      go_wp2
      refine bodyPost_ret (results_list (rs := [.tmp 2, .tmp 3, .tmp 4, .tmp 5]) rfl (by simp) (.tmp (.tmp (.tmp (.tmp .nil))))) rfl ?_
      exact ⟨yE, yB⟩
     rw [if_neg c36] at H
     have c36b0 : (x8_1 == 1) = false := beq_eq_false_iff_ne.mpr c36
     have c36b1 : (x8_1 != 1) = true := bne_iff_ne.mpr c36
     simp only [Option.some.injEq, Prod.mk.injEq] at H
     obtain ⟨rfl, rfl, rfl, rfl⟩ := H
     have hcz46_0 := yZ0 BK506.out
     have hcz46_1 := yZ1 BK506.out
     have hcz46_2 := yZ2 BK506.out
     have hfz46_0 := blk_frozen BK506.out 0
     have hfz46_1 := blk_frozen BK506.out 1
     have hfz46_2 := blk_frozen BK506.out 2
     go_wp2
     refine bodyPost_ret (results_list (rs := [.tmp 2, .tmp 3, .tmp 4, .tmp 5]) rfl (by simp) (.tmp (.tmp (.tmp (.tmp .nil))))) rfl ?_
     exact ⟨yE, yB⟩
    rw [if_neg c35] at H
    have c35b0 : (x10_1 == 1) = false := beq_eq_false_iff_ne.mpr c35
    have c35b1 : (x10_1 != 1) = true := bne_iff_ne.mpr c35
    simp only [Option.some.injEq, Prod.mk.injEq] at H
    obtain ⟨rfl, rfl, rfl, rfl⟩ := H
    have hcz47_0 := yZ0 BK506.out
    have hcz47_1 := yZ1 BK506.out
    have hcz47_2 := yZ2 BK506.out
    have hfz47_0 := blk_frozen BK506.out 0
    have hfz47_1 := blk_frozen BK506.out 1
    have hfz47_2 := blk_frozen BK506.out 2
    go_wp2
    refine bodyPost_ret (results_list (rs := [.tmp 2, .tmp 3, .tmp 4, .tmp 5]) rfl (by simp) (.tmp (.tmp (.tmp (.tmp .nil))))) rfl ?_
    exact ⟨yE, yB⟩
 replace c3 := Bool.eq_false_iff.mpr c3
 subst c3
 replace H : (some (0, 0, false, 0)) = some (r1, r2, r3, r4) := by rw [if_neg (show ¬ (false = true) by decide)] at H; exact H
 simp only [Option.some.injEq, Prod.mk.injEq] at H
 obtain ⟨rfl, rfl, rfl, rfl⟩ := H
 go_enter Try.func26, Try.ntmps26
 go_wp2_with (first | ((with_reducible refine gate_dst (N := 1) rfl ?_); refine yX 1 #[.bool a0_0, .slice A0_1 l0_1.length c0_1, .string a0_2] 32 ?_; intro gb506 hg w48 hbox hb; have BK506 := Aside0.mk (hbox); have GW506 := Aside0.mk ((yG hg : w.heap.size ≤ gb506)); have GE506 := Aside0.mk ((yG hg : w.heap.size ≤ gb506)); replace HB := Aside0.mk (below_step yB hb); clear hb hbox hg; have hcz49_0 := yZ0 BK506.out; have hcz49_1 := yZ1 BK506.out; have hcz49_2 := yZ2 BK506.out; have hfz49_0 := blk_frozen BK506.out 0; have hfz49_1 := blk_frozen BK506.out 1; have hfz49_2 := blk_frozen BK506.out 2) | ((with_reducible refine gate_callee (f := 60) rfl ?_); refine goesL_ (some 15) rfl rfl Try.func60 (by kernel_rfl) rfl #[.agg #[.bool a0_0, .slice A0_1 l0_1.length c0_1, .string a0_2], .int .u8 77, .int .i64 98000] rfl yQ ?_; (with_reducible refine (swarfref43_has.calls k a0_0 _ _ l0_1 a0_2 77 98000 false _ ?side1 ?side2 A2.out).mono ?_); (case side1 => exact yC HR0_1.out); (case side2 => exact HC0_1.out); rintro e w50 ⟨rfl, hb⟩; refine ⟨_, rfl, ?_⟩; replace BK506 := Aside0.mk (blk_below (g := gb506) yK hb); replace HB := Aside0.mk (below_step yB hb); (try clear hb)))
 refine bodyPost_ret (results_list (rs := [.tmp 2, .tmp 3, .tmp 4, .tmp 5]) rfl (by simp) (.tmp (.tmp (.tmp (.tmp .nil))))) rfl ?_
 exact ⟨yE, yB⟩
def swarfref41_Codes.l0 : Nat → Int → List Int → Int → Bool → List (S78) → ByteArray → Option (List Int)
 | 0, _, _, _, _, _, _ => none
 | k + 1, x1, x5, x6, x589000, x589001, x589002 => if x6 < (x589001.length : Int) then (if 0 ≤ x6 then (if ((rd_T78 x589001 x6).f0) = x1 then (if x5.length < 17592186044416 then (swarfref41_Codes.l0 k x1 (x5 ++ [(rd_T78 x589001 x6).f1]) (wrap64 (x6 + 1)) x589000 x589001 x589002) else (none)) else (swarfref41_Codes.l0 k x1 x5 (wrap64 (x6 + 1)) x589000 x589001 x589002)) else (none)) else (some x5)
def swarfref41_Codes.f (k : Nat) (a0_0 : Bool) (l0_1 : List (S78)) (a0_2 : ByteArray) (a1 : Int) : Option (List Int) := swarfref41_Codes.l0 k a1 ([] : List Int) 0 a0_0 l0_1 a0_2
set_option maxHeartbeats 8000000 in
set_option maxRecDepth 100000 in
theorem swarfref41_Codes.calls (k : Nat) (a0_0 : Bool) (A0_1 : Option Addr) (c0_1 : Nat) (l0_1 : List (S78)) (a0_2 : ByteArray) (a1 : Int) (r : List Int) (w : World) (hr0_1 : Kd.C k78 w A0_1 l0_1.length l0_1) (hc0_1 : l0_1.length ≤ c0_1) (h : swarfref41_Codes.f k a0_0 l0_1 a0_2 a1 = some r) :
  Calls Try.prog 104 #[.agg #[.bool a0_0, .slice A0_1 l0_1.length c0_1, .string a0_2], .int .u8 a1] w fun e w' => ∃ v0_ : Value, e = .returned (v0_) ∧ Kd.R (Kd.int .i64) 2 w' w.heap.size (fun _ => True) v0_ r ∧ Below w.heap.size w w' := by
 have hu32 := Try.underlying32
 have HR0_1 := Aside0.mk hr0_1
 have HC0_1 := Aside0.mk hc0_1
 clear hr0_1 hc0_1
 have HB := Aside0.mk (Below.refl w.heap.size w)
 have H : (swarfref41_Codes.l0 k a1 ([] : List Int) 0 a0_0 l0_1 a0_2) = some r := h
 clear h
 have H' := Aside0.mk H
 clear H
 go_enter Try.func104, Try.ntmps104
 go_wp2_with (first | ((with_reducible refine gate_dst (N := 2) rfl ?_); refine yX 2 #[.bool a0_0, .slice A0_1 l0_1.length c0_1, .string a0_2] 32 ?_; intro gb588 hg w3 hbox hb; have BK588 := Aside0.mk (hbox); have GE588 := Aside0.mk ((yG hg : w.heap.size ≤ gb588)); replace HB := Aside0.mk (below_step yB hb); clear hb hbox hg))
 go_loopg [5, 6] k (fun kq v5 v6 w' => ∃ (x5_1 : List Int) (x6_1 : Int), v6 = .int .i64 x6_1 ∧ Aside0 (swarfref41_Codes.l0 kq a1 x5_1 x6_1 a0_0 l0_1 a0_2 = some r) ∧ Aside0 (kq ≤ k) ∧ Aside0 (Kd.R (Kd.int .i64) 2 w' w.heap.size (fun _ => True) v5 x5_1) ∧ Aside0 (w'.heap[gb588]? = some (.cells #[.bool a0_0, (.slice A0_1 l0_1.length c0_1), .string a0_2] 32 (0, 0))) ∧ Aside0 (Below w.heap.size w w'))
 case atStart => exact ⟨(([] : List Int)), (0), yS, H', ⟨Nat.le_refl _⟩, ⟨by first | exact Kd.R_nil _ _ _ _ _ | exact Kd.N_nil _ _ _ _ _ | exact Kd.V_nil _ _ _ _ _ | exact Kd.Q_nil _ _ _ _ _ | exact Kd.S_nil _ _ _ _ _⟩, ⟨by refine yH ?_; exact BK588.out⟩, ⟨yB⟩⟩
 case round =>
  clear H'
  try clear c1
  try clear p2
  obtain ⟨x5_1, x6_1, rfl, HA, HK1, HO_5, BK588, HB⟩ := hrel
  cases gk with
  | zero => exact absurd HA.out (by simp [swarfref41_Codes.l0])
  | succ k1 =>
   have H := HA.out
   clear HA
   simp only [swarfref41_Codes.l0] at H
   by_cases c4 : x6_1 < (l0_1.length : Int)
   ·rw [if_pos c4] at H
    have c4b0 := decide_eq_true c4
    clear c4
    by_cases c5 : 0 ≤ x6_1
    ·rw [if_pos c5] at H
     have c5b0 := decide_eq_true c5
     clear c5
     by_cases c6 : ((rd_T78 l0_1 x6_1).f0) = a1
     ·rw [if_pos c6] at H
      have c6b0 : (((rd_T78 l0_1 x6_1).f0) == a1) = true := beq_iff_eq.mpr c6
      have c6b1 : (((rd_T78 l0_1 x6_1).f0) != a1) = false := bne_eq_false_iff_eq.mpr c6
      clear c6
      by_cases c7 : x5_1.length < 17592186044416
      ·rw [if_pos c7] at H
       have LMc7 := Aside0.mk c7
       clear c7
       obtain ⟨y591, hy591⟩ : ∃ y_ : List Int, y_ = (x5_1 ++ [(rd_T78 l0_1 x6_1).f1]) := ⟨_, rfl⟩
       replace H : (swarfref41_Codes.l0 k1 a1 y591 (wrap64 (x6_1 + 1)) a0_0 l0_1 a0_2) = some r := by first | (rw [hy591]; with_reducible exact H) | (have H2_ := (Option.bind_some _ _).symm.trans H; rw [hy591]; with_reducible exact H2_) | (have H2_ := (Option.bind_some _ _).symm.trans H; with_reducible exact H2_) | with_reducible exact H | (rw [hy591]; exact H) | exact H
       have Ny591 := Aside0.mk hy591
       clear hy591
       have H' := Aside0.mk H
       clear H
       have hcz8_0 := yZ0 BK588.out
       have hcz8_1 := yZ1 BK588.out
       have hcz8_2 := yZ2 BK588.out
       have hfz8_0 := blk_frozen BK588.out 0
       have hfz8_1 := blk_frozen BK588.out 1
       have hfz8_2 := blk_frozen BK588.out 2
       have p589 : 0 ≤ (x6_1 : Int) := yD
       have q589 : x6_1 < (l0_1.length : Int) := yD
       obtain ⟨ad589, e589, hx589_0, hx589_1⟩ := at_T78 HR0_1.out x6_1 p589 q589
       cases e589
       replace hx589_0 := yM HB.out hx589_0
       replace hx589_1 := yM HB.out hx589_1
       replace p589 := eq_true p589
       replace q589 := eq_true q589
       have p590 : 0 ≤ (x6_1 : Int) := yD
       have q590 : x6_1 < (l0_1.length : Int) := yD
       obtain ⟨ad590, e590, hx590_0, hx590_1⟩ := at_T78 HR0_1.out x6_1 p590 q590
       obtain rfl : ad589 = ad590 := (by injection e590)
       replace hx590_0 := yM HB.out hx590_0
       replace hx590_1 := yM HB.out hx590_1
       replace p590 := eq_true p590
       replace q590 := eq_true q590
       go_wp2_with (first | ((with_reducible refine gate_builtin (b := .append) (xs := #[.tmp 22, .tmp 29]) rfl ?_); at_builtin; refine Kd.R_append (Kd.int .i64) (w0 := w) w.heap.size rfl (.tmp 22) (.tmp 29) 91 2 (.int .i64 0) 8 rfl Try.underlying91 info2 rfl (by decide) (by omega) u5 x5_1 ((rd_T78 l0_1 x6_1).f1) [.int .i64 ((rd_T78 l0_1 x6_1).f1)] (fun _ => True) (fun _ => False) rfl rfl ?aP (fun _ hk => hk.elim) ?aF ?aO ?aB ?aS ?aL ?_; (case aP => exact rfl); (case aB => exact yB); (case aF => exact (fun _ _ => trivial)); (case aO => exact (yR HO_5.out)); (case aS => exact (below_size yB)); (case aL => have := LMc7.out; omega); intro v592 w9 ho hb hg hat; rw [← Ny591.out] at ho; have n0_ := Aside0.mk (blk_grown (g := gb588) yK hg (Kd.R_ne HO_5.out BK588.out (by decide))); have n1_ := Aside0.mk (hb); have n2_ := Aside0.mk (ho); clear BK588; clear HB; clear HO_5; have BK588 := n0_; have HB := n1_; have HO593 := n2_; clear n0_ n1_ n2_; clear ho hb hg hat))
       go_roundg k1
       case measure => have := HK1.out; omega
       case rel => exact ⟨(y591), (wrap64 (x6_1 + 1)), yS, H', ⟨by have := HK1.out; omega⟩, ⟨by refine yR ?_; exact HO593.out⟩, ⟨by refine yH ?_; exact BK588.out⟩, ⟨yB⟩⟩
      rw [if_neg c7] at H
      exact absurd H (by simp)
     rw [if_neg c6] at H
     have c6b0 : (((rd_T78 l0_1 x6_1).f0) == a1) = false := beq_eq_false_iff_ne.mpr c6
     have c6b1 : (((rd_T78 l0_1 x6_1).f0) != a1) = true := bne_iff_ne.mpr c6
     have H' := Aside0.mk H
     clear H
     have hcz10_0 := yZ0 BK588.out
     have hcz10_1 := yZ1 BK588.out
     have hcz10_2 := yZ2 BK588.out
     have hfz10_0 := blk_frozen BK588.out 0
     have hfz10_1 := blk_frozen BK588.out 1
     have hfz10_2 := blk_frozen BK588.out 2
     have p589 : 0 ≤ (x6_1 : Int) := yD
     have q589 : x6_1 < (l0_1.length : Int) := yD
     obtain ⟨ad589, e589, hx589_0, hx589_1⟩ := at_T78 HR0_1.out x6_1 p589 q589
     cases e589
     replace hx589_0 := yM HB.out hx589_0
     replace hx589_1 := yM HB.out hx589_1
     replace p589 := eq_true p589
     replace q589 := eq_true q589
     go_wp2
     go_roundg k1
     case measure => have := HK1.out; omega
     case rel => exact ⟨(x5_1), (wrap64 (x6_1 + 1)), yS, H', ⟨by have := HK1.out; omega⟩, ⟨by refine yR ?_; exact HO_5.out⟩, ⟨by refine yH ?_; exact BK588.out⟩, ⟨yB⟩⟩
    rw [if_neg c5] at H
    exact absurd H (by simp)
   rw [if_neg c4] at H
   have c4b0 := decide_eq_false c4
   clear c4
   obtain rfl := Option.some.inj H
   have hcz11_0 := yZ0 BK588.out
   have hcz11_1 := yZ1 BK588.out
   have hcz11_2 := yZ2 BK588.out
   have hfz11_0 := blk_frozen BK588.out 0
   have hfz11_1 := blk_frozen BK588.out 1
   have hfz11_2 := blk_frozen BK588.out 2
   go_wp2
   go_ret
   exact ⟨_, yE, by refine yR ?_; exact HO_5.out, yB⟩
def swarfref43_letter.f (k : Nat) (a0_0 : Bool) (l0_1 : List (S78)) (a0_2 : ByteArray) (a1 : Int) : Option (Bool) := (swarfref41_Codes.f k a0_0 l0_1 a0_2 a1).bind fun t595 => (some (decide ((t595.length : Int) > 0)))
set_option maxHeartbeats 8000000 in
set_option maxRecDepth 100000 in
theorem swarfref43_letter.calls (k : Nat) (a0_0 : Bool) (A0_1 : Option Addr) (c0_1 : Nat) (l0_1 : List (S78)) (a0_2 : ByteArray) (a1 : Int) (r : Bool) (w : World) (hr0_1 : Kd.C k78 w A0_1 l0_1.length l0_1) (hc0_1 : l0_1.length ≤ c0_1) (h : swarfref43_letter.f k a0_0 l0_1 a0_2 a1 = some r) :
  Calls Try.prog 83 #[.agg #[.bool a0_0, .slice A0_1 l0_1.length c0_1, .string a0_2], .int .u8 a1] w fun e w' => e = .returned (.bool r) ∧ Below w.heap.size w w' := by
 have hu32 := Try.underlying32
 have HR0_1 := Aside0.mk hr0_1
 have HC0_1 := Aside0.mk hc0_1
 clear hr0_1 hc0_1
 have HB := Aside0.mk (Below.refl w.heap.size w)
 have H : ((swarfref41_Codes.f k a0_0 l0_1 a0_2 a1).bind fun t595 => (some (decide ((t595.length : Int) > 0)))) = some r := h
 clear h
 replace H := Option.bind_eq_some_iff.mp H
 obtain ⟨t595, A30, H⟩ := H
 have A3 := Aside0.mk A30
 clear A30
 obtain rfl := Option.some.inj H
 go_enter Try.func83, Try.ntmps83
 go_wp2_with (first | ((with_reducible refine gate_dst (N := 2) rfl ?_); refine yX 2 #[.bool a0_0, .slice A0_1 l0_1.length c0_1, .string a0_2] 32 ?_; intro gb594 hg w4 hbox hb; have BK594 := Aside0.mk (hbox); have GE594 := Aside0.mk ((yG hg : w.heap.size ≤ gb594)); replace HB := Aside0.mk (below_step yB hb); clear hb hbox hg; have hcz5_0 := yZ0 BK594.out; have hcz5_1 := yZ1 BK594.out; have hcz5_2 := yZ2 BK594.out; have hfz5_0 := blk_frozen BK594.out 0; have hfz5_1 := blk_frozen BK594.out 1; have hfz5_2 := blk_frozen BK594.out 2) | ((with_reducible refine gate_callee (f := 104) rfl ?_); refine goesL_ (some 7) rfl rfl Try.func104 (by kernel_rfl) rfl #[.agg #[.bool a0_0, .slice A0_1 l0_1.length c0_1, .string a0_2], .int .u8 a1] rfl yQ ?_; (with_reducible refine (swarfref41_Codes.calls k a0_0 _ _ l0_1 a0_2 a1 t595 _ ?side1 ?side2 A3.out).mono ?_); (case side1 => exact yC HR0_1.out); (case side2 => exact HC0_1.out); rintro e w6 ⟨v596, rfl, ho0, hb⟩; refine ⟨_, rfl, ?_⟩; have HO597 := Aside0.mk (Kd.R_lower ho0 (below_size yB)); replace BK594 := Aside0.mk (blk_below (g := gb594) yK hb); replace HB := Aside0.mk (below_step yB hb); (try clear hb); (try clear ho0); obtain ⟨Ao7, co7, eo7⟩ := Kd.R_slice HO597.out; subst eo7))
 go_ret
 exact ⟨yE, yB⟩
def swarfref43_End.f (k : Nat) (a0_0 : Bool) (l0_1 : List (S78)) (a0_2 : ByteArray) : Option (Bool) := (swarfref43_has.f k a0_0 l0_1 a0_2 77 30000).bind fun t585 => (some t585)
set_option maxHeartbeats 8000000 in
set_option maxRecDepth 100000 in
theorem swarfref43_End.calls (k : Nat) (a0_0 : Bool) (A0_1 : Option Addr) (c0_1 : Nat) (l0_1 : List (S78)) (a0_2 : ByteArray) (r : Bool) (w : World) (hr0_1 : Kd.C k78 w A0_1 l0_1.length l0_1) (hc0_1 : l0_1.length ≤ c0_1) (h : swarfref43_End.f k a0_0 l0_1 a0_2 = some r) :
  Calls Try.prog 81 #[.agg #[.bool a0_0, .slice A0_1 l0_1.length c0_1, .string a0_2]] w fun e w' => e = .returned (.bool r) ∧ Below w.heap.size w w' := by
 have hu32 := Try.underlying32
 have HR0_1 := Aside0.mk hr0_1
 have HC0_1 := Aside0.mk hc0_1
 clear hr0_1 hc0_1
 have HB := Aside0.mk (Below.refl w.heap.size w)
 have H : ((swarfref43_has.f k a0_0 l0_1 a0_2 77 30000).bind fun t585 => (some t585)) = some r := h
 clear h
 replace H := Option.bind_eq_some_iff.mp H
 obtain ⟨t585, A20, H⟩ := H
 have A2 := Aside0.mk A20
 clear A20
 obtain rfl := Option.some.inj H
 go_enter Try.func81, Try.ntmps81
 go_wp2_with (first | ((with_reducible refine gate_dst (N := 1) rfl ?_); refine yX 1 #[.bool a0_0, .slice A0_1 l0_1.length c0_1, .string a0_2] 32 ?_; intro gb584 hg w3 hbox hb; have BK584 := Aside0.mk (hbox); have GE584 := Aside0.mk ((yG hg : w.heap.size ≤ gb584)); replace HB := Aside0.mk (below_step yB hb); clear hb hbox hg; have hcz4_0 := yZ0 BK584.out; have hcz4_1 := yZ1 BK584.out; have hcz4_2 := yZ2 BK584.out; have hfz4_0 := blk_frozen BK584.out 0; have hfz4_1 := blk_frozen BK584.out 1; have hfz4_2 := blk_frozen BK584.out 2) | ((with_reducible refine gate_callee (f := 60) rfl ?_); refine goesL_ (some 4) rfl rfl Try.func60 (by kernel_rfl) rfl #[.agg #[.bool a0_0, .slice A0_1 l0_1.length c0_1, .string a0_2], .int .u8 77, .int .i64 30000] rfl yQ ?_; (with_reducible refine (swarfref43_has.calls k a0_0 _ _ l0_1 a0_2 77 30000 t585 _ ?side1 ?side2 A2.out).mono ?_); (case side1 => exact yC HR0_1.out); (case side2 => exact HC0_1.out); rintro e w5 ⟨rfl, hb⟩; refine ⟨_, rfl, ?_⟩; replace BK584 := Aside0.mk (blk_below (g := gb584) yK hb); replace HB := Aside0.mk (below_step yB hb); (try clear hb)))
 go_ret
 exact ⟨yE, yB⟩
def swarfref43_Return.f (k : Nat) (a0_0 : Bool) (l0_1 : List (S78)) (a0_2 : ByteArray) : Option (Bool) := (swarfref43_has.f k a0_0 l0_1 a0_2 77 99000).bind fun t587 => (some t587)
set_option maxHeartbeats 8000000 in
set_option maxRecDepth 100000 in
theorem swarfref43_Return.calls (k : Nat) (a0_0 : Bool) (A0_1 : Option Addr) (c0_1 : Nat) (l0_1 : List (S78)) (a0_2 : ByteArray) (r : Bool) (w : World) (hr0_1 : Kd.C k78 w A0_1 l0_1.length l0_1) (hc0_1 : l0_1.length ≤ c0_1) (h : swarfref43_Return.f k a0_0 l0_1 a0_2 = some r) :
  Calls Try.prog 82 #[.agg #[.bool a0_0, .slice A0_1 l0_1.length c0_1, .string a0_2]] w fun e w' => e = .returned (.bool r) ∧ Below w.heap.size w w' := by
 have hu32 := Try.underlying32
 have HR0_1 := Aside0.mk hr0_1
 have HC0_1 := Aside0.mk hc0_1
 clear hr0_1 hc0_1
 have HB := Aside0.mk (Below.refl w.heap.size w)
 have H : ((swarfref43_has.f k a0_0 l0_1 a0_2 77 99000).bind fun t587 => (some t587)) = some r := h
 clear h
 replace H := Option.bind_eq_some_iff.mp H
 obtain ⟨t587, A20, H⟩ := H
 have A2 := Aside0.mk A20
 clear A20
 obtain rfl := Option.some.inj H
 go_enter Try.func82, Try.ntmps82
 go_wp2_with (first | ((with_reducible refine gate_dst (N := 1) rfl ?_); refine yX 1 #[.bool a0_0, .slice A0_1 l0_1.length c0_1, .string a0_2] 32 ?_; intro gb586 hg w3 hbox hb; have BK586 := Aside0.mk (hbox); have GE586 := Aside0.mk ((yG hg : w.heap.size ≤ gb586)); replace HB := Aside0.mk (below_step yB hb); clear hb hbox hg; have hcz4_0 := yZ0 BK586.out; have hcz4_1 := yZ1 BK586.out; have hcz4_2 := yZ2 BK586.out; have hfz4_0 := blk_frozen BK586.out 0; have hfz4_1 := blk_frozen BK586.out 1; have hfz4_2 := blk_frozen BK586.out 2) | ((with_reducible refine gate_callee (f := 60) rfl ?_); refine goesL_ (some 4) rfl rfl Try.func60 (by kernel_rfl) rfl #[.agg #[.bool a0_0, .slice A0_1 l0_1.length c0_1, .string a0_2], .int .u8 77, .int .i64 99000] rfl yQ ?_; (with_reducible refine (swarfref43_has.calls k a0_0 _ _ l0_1 a0_2 77 99000 t587 _ ?side1 ?side2 A2.out).mono ?_); (case side1 => exact yC HR0_1.out); (case side2 => exact HC0_1.out); rintro e w5 ⟨rfl, hb⟩; refine ⟨_, rfl, ?_⟩; replace BK586 := Aside0.mk (blk_below (g := gb586) yK hb); replace HB := Aside0.mk (below_step yB hb); (try clear hb)))
 go_ret
 exact ⟨yE, yB⟩
def swarfref41_Few.l0 : Nat → List (S32) → Int → Option (Bool)
 | 0, _, _ => none
 | k + 1, x0, x5 => if x5 < (x0.length : Int) then (if 0 ≤ x5 then (if (((rd_T32 x0 x5).f1).length : Int) > 20 then (some false) else (if (((rd_T32 x0 x5).f2).size : Int) > 120 then (some false) else (swarfref41_Few.l0 k x0 (wrap64 (x5 + 1))))) else (none)) else (some true)
def swarfref41_Few.f (k : Nat) (l0 : List (S32)) (a1 : Int) : Option (Bool) := if (l0.length : Int) > a1 then (some false) else (swarfref41_Few.l0 k l0 0)
set_option maxHeartbeats 8000000 in
set_option maxRecDepth 100000 in
theorem swarfref41_Few.calls (k : Nat) (A0 : Option Addr) (c0 : Nat) (l0 : List (S32)) (a1 : Int) (r : Bool) (w : World) (hr0 : Kd.C k32 w A0 l0.length l0) (hc0 : l0.length ≤ c0) (h : swarfref41_Few.f k l0 a1 = some r) :
  Calls Try.prog 56 #[.slice A0 l0.length c0, .int .i64 a1] w fun e w' => e = .returned (.bool r) ∧ Drawn0 w w' := by
 have HR0 := Aside0.mk hr0
 have HC0 := Aside0.mk hc0
 clear hr0 hc0
 have H : (if (l0.length : Int) > a1 then (some false) else (swarfref41_Few.l0 k l0 0)) = some r := h
 clear h
 by_cases c3 : (l0.length : Int) > a1
 ·rw [if_pos c3] at H
  have c3b0 := decide_eq_true c3
  clear c3
  obtain rfl := Option.some.inj H
  go_enter Try.func56, Try.ntmps56
  go_wp2
  go_ret
  exact ⟨by first | rfl | (simp; done) | (simp [*]; done), by repeat (first | exact Drawn0.refl _ | apply Drawn0.step)⟩
 rw [if_neg c3] at H
 have c3b0 := decide_eq_false c3
 clear c3
 have H' := Aside0.mk H
 clear H
 go_enter Try.func56, Try.ntmps56
 go_wp2
 go_loopg [5] k (fun kq v5 w' => ∃ (x5_1 : Int), v5 = .int .i64 x5_1 ∧ Aside0 (swarfref41_Few.l0 kq l0 x5_1 = some r) ∧ Aside0 (kq ≤ k) ∧ Drawn0 w w')
 case atStart => exact ⟨(0), yS, H', ⟨Nat.le_refl _⟩, by repeat (first | exact Drawn0.refl _ | apply Drawn0.step)⟩
 case round =>
  clear H'
  try clear p2
  try clear c3
  try clear c3b0
  obtain ⟨x5_1, rfl, HA, HK1, ⟨m1, rfl⟩⟩ := hrel
  cases gk with
  | zero => exact absurd HA.out (by simp [swarfref41_Few.l0])
  | succ k1 =>
   have H := HA.out
   clear HA
   simp only [swarfref41_Few.l0] at H
   by_cases c4 : x5_1 < (l0.length : Int)
   ·rw [if_pos c4] at H
    have c4b0 := decide_eq_true c4
    clear c4
    by_cases c5 : 0 ≤ x5_1
    ·rw [if_pos c5] at H
     have c5b0 := decide_eq_true c5
     clear c5
     by_cases c6 : (((rd_T32 l0 x5_1).f1).length : Int) > 20
     ·rw [if_pos c6] at H
      have c6b0 := decide_eq_true c6
      have c6b1 : decide (20 < ((rd_T32 l0 x5_1).f1).length) = true := decide_eq_true (by omega)
      clear c6
      obtain rfl := Option.some.inj H
      have p493 : 0 ≤ (x5_1 : Int) := yD
      have q493 : x5_1 < (l0.length : Int) := yD
      obtain ⟨ad493, A493_1, c493_1, e493, hx493_0, hx493_1, hx493_2, hl493_1, hi493_1⟩ := at_T32 HR0.out x5_1 p493 q493
      cases e493
      have HR493_1 := Aside0.mk hi493_1
      have HC493_1 := Aside0.mk hl493_1
      clear hi493_1 hl493_1
      replace p493 := eq_true p493
      replace q493 := eq_true q493
      go_wp2
      go_ret
      exact ⟨by first | rfl | (simp; done) | (simp [*]; done), by repeat (first | exact Drawn0.refl _ | apply Drawn0.step)⟩
     rw [if_neg c6] at H
     have c6b0 := decide_eq_false c6
     have c6b1 : decide (20 < ((rd_T32 l0 x5_1).f1).length) = false := decide_eq_false (by omega)
     clear c6
     by_cases c7 : (((rd_T32 l0 x5_1).f2).size : Int) > 120
     ·rw [if_pos c7] at H
      have c7b0 := decide_eq_true c7
      have c7b1 : decide (120 < ((rd_T32 l0 x5_1).f2).size) = true := decide_eq_true (by omega)
      clear c7
      obtain rfl := Option.some.inj H
      have p493 : 0 ≤ (x5_1 : Int) := yD
      have q493 : x5_1 < (l0.length : Int) := yD
      obtain ⟨ad493, A493_1, c493_1, e493, hx493_0, hx493_1, hx493_2, hl493_1, hi493_1⟩ := at_T32 HR0.out x5_1 p493 q493
      cases e493
      have HR493_1 := Aside0.mk hi493_1
      have HC493_1 := Aside0.mk hl493_1
      clear hi493_1 hl493_1
      replace p493 := eq_true p493
      replace q493 := eq_true q493
      have p494 : 0 ≤ (x5_1 : Int) := yD
      have q494 : x5_1 < (l0.length : Int) := yD
      obtain ⟨ad494, A494_1, c494_1, e494, hx494_0, hx494_1, hx494_2, hl494_1, hi494_1⟩ := at_T32 HR0.out x5_1 p494 q494
      obtain rfl : ad493 = ad494 := (by injection e494)
      first | have HQA494_1 := Aside0.mk (show A494_1 = A493_1 from by first | (have e_ := Option.some.inj (hw493_1.symm.trans hw494_1); injection e_ with e1_ e2_ e3_; exact e1_.symm) | (have e_ := Option.some.inj (hx493_1.symm.trans hx494_1); injection e_ with e1_ e2_ e3_; exact e1_.symm)) | skip
      first | have HQc494_1 := Aside0.mk (show c494_1 = c493_1 from by first | (have e_ := Option.some.inj (hw493_1.symm.trans hw494_1); injection e_ with e1_ e2_ e3_; exact e3_.symm) | (have e_ := Option.some.inj (hx493_1.symm.trans hx494_1); injection e_ with e1_ e2_ e3_; exact e3_.symm)) | skip
      have HR494_1 := Aside0.mk hi494_1
      have HC494_1 := Aside0.mk hl494_1
      clear hi494_1 hl494_1
      replace p494 := eq_true p494
      replace q494 := eq_true q494
      have ea_ := Option.some.inj (hx493_1.symm.trans hx494_1)
      injection ea_ with ea_ en_ ec_
      subst ea_
      subst ec_
      clear en_
      go_wp2
      go_ret
      exact ⟨by first | rfl | (simp; done) | (simp [*]; done), by repeat (first | exact Drawn0.refl _ | apply Drawn0.step)⟩
     rw [if_neg c7] at H
     have c7b0 := decide_eq_false c7
     have c7b1 : decide (120 < ((rd_T32 l0 x5_1).f2).size) = false := decide_eq_false (by omega)
     clear c7
     have H' := Aside0.mk H
     clear H
     have p493 : 0 ≤ (x5_1 : Int) := yD
     have q493 : x5_1 < (l0.length : Int) := yD
     obtain ⟨ad493, A493_1, c493_1, e493, hx493_0, hx493_1, hx493_2, hl493_1, hi493_1⟩ := at_T32 HR0.out x5_1 p493 q493
     cases e493
     have HR493_1 := Aside0.mk hi493_1
     have HC493_1 := Aside0.mk hl493_1
     clear hi493_1 hl493_1
     replace p493 := eq_true p493
     replace q493 := eq_true q493
     have p494 : 0 ≤ (x5_1 : Int) := yD
     have q494 : x5_1 < (l0.length : Int) := yD
     obtain ⟨ad494, A494_1, c494_1, e494, hx494_0, hx494_1, hx494_2, hl494_1, hi494_1⟩ := at_T32 HR0.out x5_1 p494 q494
     obtain rfl : ad493 = ad494 := (by injection e494)
     first | have HQA494_1 := Aside0.mk (show A494_1 = A493_1 from by first | (have e_ := Option.some.inj (hw493_1.symm.trans hw494_1); injection e_ with e1_ e2_ e3_; exact e1_.symm) | (have e_ := Option.some.inj (hx493_1.symm.trans hx494_1); injection e_ with e1_ e2_ e3_; exact e1_.symm)) | skip
     first | have HQc494_1 := Aside0.mk (show c494_1 = c493_1 from by first | (have e_ := Option.some.inj (hw493_1.symm.trans hw494_1); injection e_ with e1_ e2_ e3_; exact e3_.symm) | (have e_ := Option.some.inj (hx493_1.symm.trans hx494_1); injection e_ with e1_ e2_ e3_; exact e3_.symm)) | skip
     have HR494_1 := Aside0.mk hi494_1
     have HC494_1 := Aside0.mk hl494_1
     clear hi494_1 hl494_1
     replace p494 := eq_true p494
     replace q494 := eq_true q494
     have ea_ := Option.some.inj (hx493_1.symm.trans hx494_1)
     injection ea_ with ea_ en_ ec_
     subst ea_
     subst ec_
     clear en_
     go_wp2
     go_roundg k1
     case measure => have := HK1.out; omega
     case rel => exact ⟨(wrap64 (x5_1 + 1)), yS, H', ⟨by have := HK1.out; omega⟩, by repeat (first | exact Drawn0.refl _ | apply Drawn0.step)⟩
    rw [if_neg c5] at H
    exact absurd H (by simp)
   rw [if_neg c4] at H
   have c4b0 := decide_eq_false c4
   clear c4
   obtain rfl := Option.some.inj H
   go_wp2
   go_ret
   exact ⟨by first | rfl | (simp; done) | (simp [*]; done), by repeat (first | exact Drawn0.refl _ | apply Drawn0.step)⟩
def swarfref41_printable.f (a0 : Int) : Option (Bool) := if a0 ≥ 32 then (if a0 ≤ 126 then (if a0 = 40 then (some false) else (some (a0 != 41))) else (some false)) else (some false)
set_option maxHeartbeats 8000000 in
set_option maxRecDepth 100000 in
theorem swarfref41_printable.calls (a0 : Int) (r : Bool) (w : World) (h : swarfref41_printable.f a0 = some r) :
  Calls Try.prog 91 #[.int .u8 a0] w fun e w' => e = .returned (.bool r) ∧ Drawn0 w w' := by
 have H : (if a0 ≥ 32 then (if a0 ≤ 126 then (if a0 = 40 then (some false) else (some (a0 != 41))) else (some false)) else (some false)) = some r := h
 clear h
 by_cases c2 : a0 ≥ 32
 ·rw [if_pos c2] at H
  have c2b0 := decide_eq_true c2
  clear c2
  by_cases c3 : a0 ≤ 126
  ·rw [if_pos c3] at H
   have c3b0 := decide_eq_true c3
   clear c3
   by_cases c4 : a0 = 40
   ·rw [if_pos c4] at H
    have c4b0 : (a0 == 40) = true := beq_iff_eq.mpr c4
    have c4b1 : (a0 != 40) = false := bne_eq_false_iff_eq.mpr c4
    clear c4
    obtain rfl := Option.some.inj H
    go_enter Try.func91, Try.ntmps91
    go_wp2
    go_ret
    exact ⟨by first | rfl | (simp; done) | (simp [*]; done), by repeat (first | exact Drawn0.refl _ | apply Drawn0.step)⟩
   rw [if_neg c4] at H
   have c4b0 : (a0 == 40) = false := beq_eq_false_iff_ne.mpr c4
   have c4b1 : (a0 != 40) = true := bne_iff_ne.mpr c4
   obtain rfl := Option.some.inj H
   go_enter Try.func91, Try.ntmps91
   go_wp2
   go_ret
   exact ⟨by first | rfl | (simp; done) | (simp [*]; done), by repeat (first | exact Drawn0.refl _ | apply Drawn0.step)⟩
  rw [if_neg c3] at H
  have c3b0 := decide_eq_false c3
  clear c3
  obtain rfl := Option.some.inj H
  go_enter Try.func91, Try.ntmps91
  go_wp2
  go_ret
  exact ⟨by first | rfl | (simp; done) | (simp [*]; done), by repeat (first | exact Drawn0.refl _ | apply Drawn0.step)⟩
 rw [if_neg c2] at H
 have c2b0 := decide_eq_false c2
 clear c2
 obtain rfl := Option.some.inj H
 go_enter Try.func91, Try.ntmps91
 go_wp2
 go_ret
 exact ⟨by first | rfl | (simp; done) | (simp [*]; done), by repeat (first | exact Drawn0.refl _ | apply Drawn0.step)⟩
mutual
def swarfref41_Valid.j0 : Nat → Bool → Bool → List (S78) → ByteArray → Option (Int)
 | 0, _, _, _, _ => none
 | k + 1, x15, x496000, x496001, x496002 => if x15 = true then (some 1) else (swarfref41_Valid.l0 k 0 x496000 x496001 x496002)
def swarfref41_Valid.l0 : Nat → Int → Bool → List (S78) → ByteArray → Option (Int)
 | 0, _, _, _, _ => none
 | k + 1, x3, x496000, x496001, x496002 => if x3 < (x496001.length : Int) then (if 0 ≤ x3 then (if ((rd_T78 x496001 x3).f0) < 65 then (some 1) else (if ((rd_T78 x496001 x3).f0) > 90 then (some 1) else (if ((rd_T78 x496001 x3).f1) > 1000000000000 then (some 1) else (if ((rd_T78 x496001 x3).f1) < (-1000000000000) then (some 1) else (swarfref41_Valid.l0 k (wrap64 (x3 + 1)) x496000 x496001 x496002))))) else (none)) else (swarfref41_Valid.l1 k 0 x496000 x496001 x496002)
def swarfref41_Valid.l1 : Nat → Int → Bool → List (S78) → ByteArray → Option (Int)
 | 0, _, _, _, _ => none
 | k + 1, x5, x496000, x496001, x496002 => if x5 < (x496002.size : Int) then (if 0 ≤ x5 then ((swarfref41_printable.f (bt x496002 x5)).bind fun t498 => (if t498 = true then (swarfref41_Valid.l1 k (wrap64 (x5 + 1)) x496000 x496001 x496002) else (some 1))) else (none)) else (some 0)
end
def swarfref41_Valid.f (k : Nat) (a0_0 : Bool) (l0_1 : List (S78)) (a0_2 : ByteArray) : Option (Int) := if (l0_1.length : Int) > 16 then (swarfref41_Valid.j0 k true a0_0 l0_1 a0_2) else (swarfref41_Valid.j0 k (decide ((a0_2.size : Int) > 100)) a0_0 l0_1 a0_2)
set_option maxHeartbeats 8000000 in
set_option maxRecDepth 100000 in
theorem swarfref41_Valid.calls (k : Nat) (a0_0 : Bool) (A0_1 : Option Addr) (c0_1 : Nat) (l0_1 : List (S78)) (a0_2 : ByteArray) (r : Int) (w : World) (hr0_1 : Kd.C k78 w A0_1 l0_1.length l0_1) (hc0_1 : l0_1.length ≤ c0_1) (h : swarfref41_Valid.f k a0_0 l0_1 a0_2 = some r) :
  Calls Try.prog 57 #[.agg #[.bool a0_0, .slice A0_1 l0_1.length c0_1, .string a0_2]] w fun e w' => e = .returned (.int .i64 r) ∧ Below w.heap.size w w' := by
 have hu32 := Try.underlying32
 have hu78 := Try.underlying78
 have HR0_1 := Aside0.mk hr0_1
 have HC0_1 := Aside0.mk hc0_1
 clear hr0_1 hc0_1
 have HB := Aside0.mk (Below.refl w.heap.size w)
 have H : (if (l0_1.length : Int) > 16 then (swarfref41_Valid.j0 k true a0_0 l0_1 a0_2) else (swarfref41_Valid.j0 k (decide ((a0_2.size : Int) > 100)) a0_0 l0_1 a0_2)) = some r := h
 clear h
 have HC2 := Aside0.mk H
 clear H
 go_enter Try.func57, Try.ntmps57
 go_upto_region 1 with (first | ((with_reducible refine gate_dst (N := 1) rfl ?_); (try (refine gate_guard (by rfl) ?_; dsimp only)); refine yX 1 #[.bool a0_0, .slice A0_1 l0_1.length c0_1, .string a0_2] 32 ?_; intro gb495 hg w3 hbox hb; have BK495 := Aside0.mk (hbox); have GE495 := Aside0.mk ((yG hg : w.heap.size ≤ gb495)); replace HB := Aside0.mk (below_step yB hb); clear hb hbox hg))
 (try simp only [Act.put, List.setIfInBounds_toArray, List.set_cons_zero, List.set_cons_succ])
 go_cut [15] (fun v15 wc => ∃ (kq : Nat) (x15_1 : Bool), v15 = .bool x15_1 ∧ Aside0 (swarfref41_Valid.j0 kq x15_1 a0_0 l0_1 a0_2 = some r) ∧ Aside0 (kq ≤ k) ∧ Aside0 (wc.heap[gb495]? = some (.cells #[.bool a0_0, (.slice A0_1 l0_1.length c0_1), .string a0_2] 32 (0, 0))) ∧ Aside0 (Below w.heap.size w wc))
 case first =>
  have H := HC2.out
  clear HC2
  by_cases c4 : (l0_1.length : Int) > 16
  ·rw [if_pos c4] at H
   have c4b0 := decide_eq_true c4
   have c4b1 : decide (16 < l0_1.length) = true := decide_eq_true (by omega)
   clear c4
   (first | rw [c4b0] | (simp only [i64_w, i32_w]; rw [c4b0]) | skip)
   have H' := Aside0.mk H
   clear H
   have hcz5_0 := yZ0 BK495.out
   have hcz5_1 := yZ1 BK495.out
   have hcz5_2 := yZ2 BK495.out
   have hfz5_0 := blk_frozen BK495.out 0
   have hfz5_1 := blk_frozen BK495.out 1
   have hfz5_2 := blk_frozen BK495.out 2
   go_wp2
   go_meet
   case rel => exact ⟨_, (true), yS, H', ⟨by first | omega | exact Nat.le_refl _⟩, ⟨by refine yH ?_; exact BK495.out⟩, ⟨yB⟩⟩
  rw [if_neg c4] at H
  have c4b0 := decide_eq_false c4
  have c4b1 : decide (16 < l0_1.length) = false := decide_eq_false (by omega)
  clear c4
  (first | rw [c4b0] | (simp only [i64_w, i32_w]; rw [c4b0]) | skip)
  have H' := Aside0.mk H
  clear H
  have hcz6_0 := yZ0 BK495.out
  have hcz6_1 := yZ1 BK495.out
  have hcz6_2 := yZ2 BK495.out
  have hfz6_0 := blk_frozen BK495.out 0
  have hfz6_1 := blk_frozen BK495.out 1
  have hfz6_2 := blk_frozen BK495.out 2
  go_wp2
  go_meet
  case rel => exact ⟨_, (decide ((a0_2.size : Int) > 100)), yS, H', ⟨by first | omega | exact Nat.le_refl _⟩, ⟨by refine yH ?_; exact BK495.out⟩, ⟨yB⟩⟩
 case rest =>
  clear HC2
  try clear p2
  try clear c4
  try clear c4b0
  try clear c4b1
  try clear c5
  try clear hcz5_0
  try clear hcz5_1
  try clear hcz5_2
  try clear hcz6_0
  try clear hcz6_1
  try clear hcz6_2
  try clear hfz5_0
  try clear hfz5_1
  try clear hfz5_2
  try clear hfz6_0
  try clear hfz6_1
  try clear hfz6_2
  obtain ⟨kq, x15_1, rfl, HA, HJ1, BK495, HB⟩ := hcut
  cases kq with
  | zero => exact absurd HA.out (by simp [swarfref41_Valid.j0])
  | succ kj1 =>
   have H := HA.out
   clear HA
   simp only [swarfref41_Valid.j0] at H
   by_cases c7 : x15_1 = true
   ·subst c7
    rw [if_pos rfl] at H
    obtain rfl := Option.some.inj H
    go_wp2
    go_ret
    exact ⟨yE, yB⟩
   replace c7 := Bool.eq_false_iff.mpr c7
   subst c7
   replace H : (swarfref41_Valid.l0 kj1 0 a0_0 l0_1 a0_2) = some r := by rw [if_neg (show ¬ (false = true) by decide)] at H; exact H
   have H' := Aside0.mk H
   clear H
   go_wp2
   go_loopg [3] kj1 (fun kq v3 w' => ∃ (x3_2 : Int), v3 = .int .i64 x3_2 ∧ Aside0 (swarfref41_Valid.l0 kq x3_2 a0_0 l0_1 a0_2 = some r) ∧ Aside0 (kq ≤ kj1) ∧ Aside0 (w'.heap[gb495]? = some (.cells #[.bool a0_0, (.slice A0_1 l0_1.length c0_1), .string a0_2] 32 (0, 0))) ∧ Aside0 (Below w.heap.size w w'))
   case atStart => exact ⟨(0), yS, H', ⟨Nat.le_refl _⟩, ⟨by refine yH ?_; exact BK495.out⟩, ⟨yB⟩⟩
   case round =>
    clear H'
    try clear p2
    try clear c4
    try clear c4b0
    try clear c4b1
    try clear c5
    try clear c7
    try clear hcz5_0
    try clear hcz5_1
    try clear hcz5_2
    try clear hcz6_0
    try clear hcz6_1
    try clear hcz6_2
    try clear hfz5_0
    try clear hfz5_1
    try clear hfz5_2
    try clear hfz6_0
    try clear hfz6_1
    try clear hfz6_2
    try clear p2
    obtain ⟨x3_2, rfl, HA, HK2, BK495, HB⟩ := hrel
    cases gk with
    | zero => exact absurd HA.out (by simp [swarfref41_Valid.l0])
    | succ k2 =>
     have H := HA.out
     clear HA
     simp only [swarfref41_Valid.l0] at H
     by_cases c8 : x3_2 < (l0_1.length : Int)
     ·rw [if_pos c8] at H
      have c8b0 := decide_eq_true c8
      clear c8
      by_cases c9 : 0 ≤ x3_2
      ·rw [if_pos c9] at H
       have c9b0 := decide_eq_true c9
       clear c9
       by_cases c10 : ((rd_T78 l0_1 x3_2).f0) < 65
       ·rw [if_pos c10] at H
        have c10b0 := decide_eq_true c10
        clear c10
        obtain rfl := Option.some.inj H
        have hcz11_0 := yZ0 BK495.out
        have hcz11_1 := yZ1 BK495.out
        have hcz11_2 := yZ2 BK495.out
        have hfz11_0 := blk_frozen BK495.out 0
        have hfz11_1 := blk_frozen BK495.out 1
        have hfz11_2 := blk_frozen BK495.out 2
        have p496 : 0 ≤ (x3_2 : Int) := yD
        have q496 : x3_2 < (l0_1.length : Int) := yD
        obtain ⟨ad496, e496, hx496_0, hx496_1⟩ := at_T78 HR0_1.out x3_2 p496 q496
        cases e496
        replace hx496_0 := yM HB.out hx496_0
        replace hx496_1 := yM HB.out hx496_1
        replace p496 := eq_true p496
        replace q496 := eq_true q496
        go_wp2_with (first | ((with_reducible refine gate_dst (N := 4) rfl ?_); (try (refine gate_guard (by rfl) ?_; dsimp only)); refine yX 4 #[.int .u8 0, .int .i64 0] 78 ?_; intro gb497 hg w12 hbox hb; have BK497 := Aside0.mk (hbox); have GW497 := Aside0.mk ((yG hg : w.heap.size ≤ gb497)); have GE497 := Aside0.mk ((yG hg : w.heap.size ≤ gb497)); replace HB := Aside0.mk (below_step yB hb); have NB495_497 := Aside0.mk ((yJ hg yK : gb495 ≠ gb497)); have NB497_495 := Aside0.mk ((yI hg yK : gb497 ≠ gb495)); replace BK495 := Aside0.mk (blk_below (g := gb495) yK hb); clear hb hbox hg; have hnb13 := NB497_495.out; have hnc13 := NB495_497.out; have hcz14_0 := yZ0 BK497.out; have hcz14_1 := yZ1 BK497.out; have hfz14_0 := blk_frozen BK497.out 0; have hfz14_1 := blk_frozen BK497.out 1))
        go_ret
        exact ⟨yE, yB⟩
       rw [if_neg c10] at H
       have c10b0 := decide_eq_false c10
       clear c10
       by_cases c15 : ((rd_T78 l0_1 x3_2).f0) > 90
       ·rw [if_pos c15] at H
        have c15b0 := decide_eq_true c15
        clear c15
        obtain rfl := Option.some.inj H
        have hcz16_0 := yZ0 BK495.out
        have hcz16_1 := yZ1 BK495.out
        have hcz16_2 := yZ2 BK495.out
        have hfz16_0 := blk_frozen BK495.out 0
        have hfz16_1 := blk_frozen BK495.out 1
        have hfz16_2 := blk_frozen BK495.out 2
        have p496 : 0 ≤ (x3_2 : Int) := yD
        have q496 : x3_2 < (l0_1.length : Int) := yD
        obtain ⟨ad496, e496, hx496_0, hx496_1⟩ := at_T78 HR0_1.out x3_2 p496 q496
        cases e496
        replace hx496_0 := yM HB.out hx496_0
        replace hx496_1 := yM HB.out hx496_1
        replace p496 := eq_true p496
        replace q496 := eq_true q496
        go_wp2_with (first | ((with_reducible refine gate_dst (N := 4) rfl ?_); (try (refine gate_guard (by rfl) ?_; dsimp only)); refine yX 4 #[.int .u8 0, .int .i64 0] 78 ?_; intro gb497 hg w17 hbox hb; have BK497 := Aside0.mk (hbox); have GW497 := Aside0.mk ((yG hg : w.heap.size ≤ gb497)); have GE497 := Aside0.mk ((yG hg : w.heap.size ≤ gb497)); replace HB := Aside0.mk (below_step yB hb); have NB495_497 := Aside0.mk ((yJ hg yK : gb495 ≠ gb497)); have NB497_495 := Aside0.mk ((yI hg yK : gb497 ≠ gb495)); replace BK495 := Aside0.mk (blk_below (g := gb495) yK hb); clear hb hbox hg; have hnb18 := NB497_495.out; have hnc18 := NB495_497.out; have hcz19_0 := yZ0 BK497.out; have hcz19_1 := yZ1 BK497.out; have hfz19_0 := blk_frozen BK497.out 0; have hfz19_1 := blk_frozen BK497.out 1))
        go_ret
        exact ⟨yE, yB⟩
       rw [if_neg c15] at H
       have c15b0 := decide_eq_false c15
       clear c15
       by_cases c20 : ((rd_T78 l0_1 x3_2).f1) > 1000000000000
       ·rw [if_pos c20] at H
        have c20b0 := decide_eq_true c20
        clear c20
        obtain rfl := Option.some.inj H
        have hcz21_0 := yZ0 BK495.out
        have hcz21_1 := yZ1 BK495.out
        have hcz21_2 := yZ2 BK495.out
        have hfz21_0 := blk_frozen BK495.out 0
        have hfz21_1 := blk_frozen BK495.out 1
        have hfz21_2 := blk_frozen BK495.out 2
        have p496 : 0 ≤ (x3_2 : Int) := yD
        have q496 : x3_2 < (l0_1.length : Int) := yD
        obtain ⟨ad496, e496, hx496_0, hx496_1⟩ := at_T78 HR0_1.out x3_2 p496 q496
        cases e496
        replace hx496_0 := yM HB.out hx496_0
        replace hx496_1 := yM HB.out hx496_1
        replace p496 := eq_true p496
        replace q496 := eq_true q496
        go_wp2_with (first | ((with_reducible refine gate_dst (N := 4) rfl ?_); (try (refine gate_guard (by rfl) ?_; dsimp only)); refine yX 4 #[.int .u8 0, .int .i64 0] 78 ?_; intro gb497 hg w22 hbox hb; have BK497 := Aside0.mk (hbox); have GW497 := Aside0.mk ((yG hg : w.heap.size ≤ gb497)); have GE497 := Aside0.mk ((yG hg : w.heap.size ≤ gb497)); replace HB := Aside0.mk (below_step yB hb); have NB495_497 := Aside0.mk ((yJ hg yK : gb495 ≠ gb497)); have NB497_495 := Aside0.mk ((yI hg yK : gb497 ≠ gb495)); replace BK495 := Aside0.mk (blk_below (g := gb495) yK hb); clear hb hbox hg; have hnb23 := NB497_495.out; have hnc23 := NB495_497.out; have hcz24_0 := yZ0 BK497.out; have hcz24_1 := yZ1 BK497.out; have hfz24_0 := blk_frozen BK497.out 0; have hfz24_1 := blk_frozen BK497.out 1))
        go_ret
        exact ⟨yE, yB⟩
       rw [if_neg c20] at H
       have c20b0 := decide_eq_false c20
       clear c20
       by_cases c25 : ((rd_T78 l0_1 x3_2).f1) < (-1000000000000)
       ·rw [if_pos c25] at H
        have c25b0 := decide_eq_true c25
        clear c25
        obtain rfl := Option.some.inj H
        have hcz26_0 := yZ0 BK495.out
        have hcz26_1 := yZ1 BK495.out
        have hcz26_2 := yZ2 BK495.out
        have hfz26_0 := blk_frozen BK495.out 0
        have hfz26_1 := blk_frozen BK495.out 1
        have hfz26_2 := blk_frozen BK495.out 2
        have p496 : 0 ≤ (x3_2 : Int) := yD
        have q496 : x3_2 < (l0_1.length : Int) := yD
        obtain ⟨ad496, e496, hx496_0, hx496_1⟩ := at_T78 HR0_1.out x3_2 p496 q496
        cases e496
        replace hx496_0 := yM HB.out hx496_0
        replace hx496_1 := yM HB.out hx496_1
        replace p496 := eq_true p496
        replace q496 := eq_true q496
        go_wp2_with (first | ((with_reducible refine gate_dst (N := 4) rfl ?_); (try (refine gate_guard (by rfl) ?_; dsimp only)); refine yX 4 #[.int .u8 0, .int .i64 0] 78 ?_; intro gb497 hg w27 hbox hb; have BK497 := Aside0.mk (hbox); have GW497 := Aside0.mk ((yG hg : w.heap.size ≤ gb497)); have GE497 := Aside0.mk ((yG hg : w.heap.size ≤ gb497)); replace HB := Aside0.mk (below_step yB hb); have NB495_497 := Aside0.mk ((yJ hg yK : gb495 ≠ gb497)); have NB497_495 := Aside0.mk ((yI hg yK : gb497 ≠ gb495)); replace BK495 := Aside0.mk (blk_below (g := gb495) yK hb); clear hb hbox hg; have hnb28 := NB497_495.out; have hnc28 := NB495_497.out; have hcz29_0 := yZ0 BK497.out; have hcz29_1 := yZ1 BK497.out; have hfz29_0 := blk_frozen BK497.out 0; have hfz29_1 := blk_frozen BK497.out 1))
        go_ret
        exact ⟨yE, yB⟩
       rw [if_neg c25] at H
       have c25b0 := decide_eq_false c25
       clear c25
       have H' := Aside0.mk H
       clear H
       have hcz30_0 := yZ0 BK495.out
       have hcz30_1 := yZ1 BK495.out
       have hcz30_2 := yZ2 BK495.out
       have hfz30_0 := blk_frozen BK495.out 0
       have hfz30_1 := blk_frozen BK495.out 1
       have hfz30_2 := blk_frozen BK495.out 2
       have p496 : 0 ≤ (x3_2 : Int) := yD
       have q496 : x3_2 < (l0_1.length : Int) := yD
       obtain ⟨ad496, e496, hx496_0, hx496_1⟩ := at_T78 HR0_1.out x3_2 p496 q496
       cases e496
       replace hx496_0 := yM HB.out hx496_0
       replace hx496_1 := yM HB.out hx496_1
       replace p496 := eq_true p496
       replace q496 := eq_true q496
       go_wp2_with (first | ((with_reducible refine gate_dst (N := 4) rfl ?_); (try (refine gate_guard (by rfl) ?_; dsimp only)); refine yX 4 #[.int .u8 0, .int .i64 0] 78 ?_; intro gb497 hg w31 hbox hb; have BK497 := Aside0.mk (hbox); have GW497 := Aside0.mk ((yG hg : w.heap.size ≤ gb497)); have GE497 := Aside0.mk ((yG hg : w.heap.size ≤ gb497)); replace HB := Aside0.mk (below_step yB hb); have NB495_497 := Aside0.mk ((yJ hg yK : gb495 ≠ gb497)); have NB497_495 := Aside0.mk ((yI hg yK : gb497 ≠ gb495)); replace BK495 := Aside0.mk (blk_below (g := gb495) yK hb); clear hb hbox hg; have hnb32 := NB497_495.out; have hnc32 := NB495_497.out; have hcz33_0 := yZ0 BK497.out; have hcz33_1 := yZ1 BK497.out; have hfz33_0 := blk_frozen BK497.out 0; have hfz33_1 := blk_frozen BK497.out 1))
       go_roundg k2
       case measure => have := HJ1.out; have := HK2.out; omega
       case rel => exact ⟨(wrap64 (x3_2 + 1)), yS, H', ⟨by have := HJ1.out; have := HK2.out; omega⟩, ⟨by refine yH ?_; refine blk_far ?_ NB495_497.out _; refine yH ?_; refine blk_far ?_ NB495_497.out _; refine yH ?_; exact BK495.out⟩, ⟨yB⟩⟩
      rw [if_neg c9] at H
      exact absurd H (by simp)
     rw [if_neg c8] at H
     have c8b0 := decide_eq_false c8
     clear c8
     have H' := Aside0.mk H
     clear H
     have hcz34_0 := yZ0 BK495.out
     have hcz34_1 := yZ1 BK495.out
     have hcz34_2 := yZ2 BK495.out
     have hfz34_0 := blk_frozen BK495.out 0
     have hfz34_1 := blk_frozen BK495.out 1
     have hfz34_2 := blk_frozen BK495.out 2
     go_wp2
     go_loopg [5] k2 (fun kq v5 w' => ∃ (x5_3 : Int), v5 = .int .i64 x5_3 ∧ Aside0 (swarfref41_Valid.l1 kq x5_3 a0_0 l0_1 a0_2 = some r) ∧ Aside0 (kq ≤ k2) ∧ Aside0 (w'.heap[gb495]? = some (.cells #[.bool a0_0, (.slice A0_1 l0_1.length c0_1), .string a0_2] 32 (0, 0))) ∧ Aside0 (Below w.heap.size w w'))
     case atStart => exact ⟨(0), yS, H', ⟨Nat.le_refl _⟩, ⟨by refine yH ?_; exact BK495.out⟩, ⟨yB⟩⟩
     case round =>
      clear H'
      try clear c1
      try clear c2
      try clear p2
      try clear c3
      try clear c4
      try clear c4b0
      try clear c4b1
      try clear p4
      try clear q4
      try clear hx4
      try clear c5
      try clear p6
      try clear c7
      try clear c8
      try clear c8b0
      try clear c9
      try clear c9b0
      try clear c10
      try clear c10b0
      try clear c13
      try clear c15
      try clear c15b0
      try clear c18
      try clear c20
      try clear c20b0
      try clear c23
      try clear c25
      try clear c25b0
      try clear c28
      try clear c32
      try clear hcz11_0
      try clear hcz11_1
      try clear hcz11_2
      try clear hcz14_0
      try clear hcz14_1
      try clear hcz16_0
      try clear hcz16_1
      try clear hcz16_2
      try clear hcz19_0
      try clear hcz19_1
      try clear hcz21_0
      try clear hcz21_1
      try clear hcz21_2
      try clear hcz24_0
      try clear hcz24_1
      try clear hcz26_0
      try clear hcz26_1
      try clear hcz26_2
      try clear hcz29_0
      try clear hcz29_1
      try clear hcz30_0
      try clear hcz30_1
      try clear hcz30_2
      try clear hcz33_0
      try clear hcz33_1
      try clear hcz34_0
      try clear hcz34_1
      try clear hcz34_2
      try clear hcz5_0
      try clear hcz5_1
      try clear hcz5_2
      try clear hcz6_0
      try clear hcz6_1
      try clear hcz6_2
      try clear hfz11_0
      try clear hfz11_1
      try clear hfz11_2
      try clear hfz14_0
      try clear hfz14_1
      try clear hfz16_0
      try clear hfz16_1
      try clear hfz16_2
      try clear hfz19_0
      try clear hfz19_1
      try clear hfz21_0
      try clear hfz21_1
      try clear hfz21_2
      try clear hfz24_0
      try clear hfz24_1
      try clear hfz26_0
      try clear hfz26_1
      try clear hfz26_2
      try clear hfz29_0
      try clear hfz29_1
      try clear hfz30_0
      try clear hfz30_1
      try clear hfz30_2
      try clear hfz33_0
      try clear hfz33_1
      try clear hfz34_0
      try clear hfz34_1
      try clear hfz34_2
      try clear hfz5_0
      try clear hfz5_1
      try clear hfz5_2
      try clear hfz6_0
      try clear hfz6_1
      try clear hfz6_2
      try clear hx496_0
      try clear hx496_1
      try clear p2
      try clear p496
      try clear q496
      obtain ⟨x5_3, rfl, HA, HK3, BK495, HB⟩ := hrel
      cases gk with
      | zero => exact absurd HA.out (by simp [swarfref41_Valid.l1])
      | succ k3 =>
       have H := HA.out
       clear HA
       simp only [swarfref41_Valid.l1] at H
       by_cases c35 : x5_3 < (a0_2.size : Int)
       ·rw [if_pos c35] at H
        have c35b0 := decide_eq_true c35
        clear c35
        by_cases c36 : 0 ≤ x5_3
        ·rw [if_pos c36] at H
         have c36b0 := decide_eq_true c36
         clear c36
         replace H := Option.bind_eq_some_iff.mp H
         obtain ⟨t498, A380, H⟩ := H
         have A38 := Aside0.mk A380
         clear A380
         by_cases c39 : t498 = true
         ·subst c39
          rw [if_pos rfl] at H
          have H' := Aside0.mk H
          clear H
          have hcz40_0 := yZ0 BK495.out
          have hcz40_1 := yZ1 BK495.out
          have hcz40_2 := yZ2 BK495.out
          have hfz40_0 := blk_frozen BK495.out 0
          have hfz40_1 := blk_frozen BK495.out 1
          have hfz40_2 := blk_frozen BK495.out 2
          have p37 : 0 ≤ (x5_3 : Int) := yD
          have q37 : x5_3 < (a0_2.size : Int) := yD
          have hx37 := bt_at a0_2 x5_3
          replace p37 := eq_true p37
          replace q37 := eq_true q37
          go_wp2_with (first | ((with_reducible refine gate_callee (f := 91) rfl ?_); refine goesL_ (some 57) rfl rfl Try.func91 (by kernel_rfl) rfl #[.int .u8 (bt a0_2 x5_3)] rfl yQ ?_; (with_reducible refine (swarfref41_printable.calls (bt a0_2 x5_3) true _ A38.out).mono ?_); rintro e w' ⟨rfl, ⟨nd, rfl⟩⟩; refine ⟨_, rfl, ?_⟩))
          go_roundg k3
          case measure => have := HJ1.out; have := HK2.out; have := HK3.out; omega
          case rel => exact ⟨(wrap64 (x5_3 + 1)), yS, H', ⟨by have := HJ1.out; have := HK2.out; have := HK3.out; omega⟩, ⟨by refine yH ?_; exact BK495.out⟩, ⟨yB⟩⟩
         replace c39 := Bool.eq_false_iff.mpr c39
         subst c39
         replace H : (some 1) = some r := by rw [if_neg (show ¬ (false = true) by decide)] at H; exact H
         obtain rfl := Option.some.inj H
         have hcz41_0 := yZ0 BK495.out
         have hcz41_1 := yZ1 BK495.out
         have hcz41_2 := yZ2 BK495.out
         have hfz41_0 := blk_frozen BK495.out 0
         have hfz41_1 := blk_frozen BK495.out 1
         have hfz41_2 := blk_frozen BK495.out 2
         have p37 : 0 ≤ (x5_3 : Int) := yD
         have q37 : x5_3 < (a0_2.size : Int) := yD
         have hx37 := bt_at a0_2 x5_3
         replace p37 := eq_true p37
         replace q37 := eq_true q37
         go_wp2_with (first | ((with_reducible refine gate_callee (f := 91) rfl ?_); refine goesL_ (some 57) rfl rfl Try.func91 (by kernel_rfl) rfl #[.int .u8 (bt a0_2 x5_3)] rfl yQ ?_; (with_reducible refine (swarfref41_printable.calls (bt a0_2 x5_3) false _ A38.out).mono ?_); rintro e w' ⟨rfl, ⟨nd, rfl⟩⟩; refine ⟨_, rfl, ?_⟩))
         go_ret
         exact ⟨yE, yB⟩
        rw [if_neg c36] at H
        exact absurd H (by simp)
       rw [if_neg c35] at H
       have c35b0 := decide_eq_false c35
       clear c35
       obtain rfl := Option.some.inj H
       have hcz42_0 := yZ0 BK495.out
       have hcz42_1 := yZ1 BK495.out
       have hcz42_2 := yZ2 BK495.out
       have hfz42_0 := blk_frozen BK495.out 0
       have hfz42_1 := blk_frozen BK495.out 1
       have hfz42_2 := blk_frozen BK495.out 2
       go_wp2
       go_ret
       exact ⟨yE, yB⟩
def swarflaw43_valid.l0 : Nat → List (S32) → Int → Int → Option (Bool)
 | 0, _, _, _ => none
 | k + 1, x11, x12, x13 => if x13 < x12 then (if 0 ≤ x13 then (if x13 < (x11.length : Int) then ((swarfref41_Valid.f k ((rd_T32 x11 x13).f0) ((rd_T32 x11 x13).f1) ((rd_T32 x11 x13).f2)).bind fun t502 => (if t502 = 0 then (swarflaw43_valid.l0 k x11 x12 (wrap64 (x13 + 1))) else (some false))) else (none)) else (none)) else (some true)
def swarflaw43_valid.f (k : Nat) (l0 : List (S32)) (a1 : Int) : Option (Bool) := (swarfref41_Few.f k l0 a1).bind fun t499 => (if t499 = true then (swarflaw43_valid.l0 k l0 (l0.length : Int) 0) else (some false))
set_option maxHeartbeats 8000000 in
set_option maxRecDepth 100000 in
theorem swarflaw43_valid.calls (k : Nat) (A0 : Option Addr) (c0 : Nat) (l0 : List (S32)) (a1 : Int) (r : Bool) (w : World) (hr0 : Kd.C k32 w A0 l0.length l0) (hc0 : l0.length ≤ c0) (h : swarflaw43_valid.f k l0 a1 = some r) :
  Calls Try.prog 24 #[.slice A0 l0.length c0, .int .i64 a1] w fun e w' => e = .returned (.bool r) ∧ Below w.heap.size w w' := by
 have hu32 := Try.underlying32
 have HR0 := Aside0.mk hr0
 have HC0 := Aside0.mk hc0
 clear hr0 hc0
 have HB := Aside0.mk (Below.refl w.heap.size w)
 have H : ((swarfref41_Few.f k l0 a1).bind fun t499 => (if t499 = true then (swarflaw43_valid.l0 k l0 (l0.length : Int) 0) else (some false))) = some r := h
 clear h
 replace H := Option.bind_eq_some_iff.mp H
 obtain ⟨t499, A30, H⟩ := H
 have A3 := Aside0.mk A30
 clear A30
 by_cases c4 : t499 = true
 ·subst c4
  rw [if_pos rfl] at H
  have H' := Aside0.mk H
  clear H
  go_enter Try.func24, Try.ntmps24
  go_wp2_with (first | ((with_reducible refine gate_callee (f := 56) rfl ?_); refine goesL_ (some 9) rfl rfl Try.func56 (by kernel_rfl) rfl #[.slice A0 l0.length c0, .int .i64 a1] rfl yQ ?_; (with_reducible refine (swarfref41_Few.calls k _ _ l0 a1 true _ ?side1 ?side2 A3.out).mono ?_); (case side1 => repeat (first | exact HR0.out | (with_reducible refine Kd.C_alloc ?_ _) | (with_reducible refine Kd.C_drewN ?_ _) | (with_reducible refine Kd.C_drew ?_))); (case side2 => exact HC0.out); rintro e w' ⟨rfl, ⟨nd, rfl⟩⟩; refine ⟨_, rfl, ?_⟩))
  go_loopg [13] k (fun kq v13 w' => ∃ (x13_1 : Int), v13 = .int .i64 x13_1 ∧ Aside0 (swarflaw43_valid.l0 kq l0 (l0.length : Int) x13_1 = some r) ∧ Aside0 (kq ≤ k) ∧ Aside0 (Below w.heap.size w w'))
  case atStart => exact ⟨(0), yS, H', ⟨Nat.le_refl _⟩, ⟨yB⟩⟩
  case round =>
   clear H'
   try clear c2
   try clear p2
   try clear c4
   obtain ⟨x13_1, rfl, HA, HK1, HB⟩ := hrel
   cases gk with
   | zero => exact absurd HA.out (by simp [swarflaw43_valid.l0])
   | succ k1 =>
    have H := HA.out
    clear HA
    simp only [swarflaw43_valid.l0] at H
    by_cases c5 : x13_1 < (l0.length : Int)
    ·rw [if_pos c5] at H
     have c5b0 := decide_eq_true c5
     clear c5
     by_cases c6 : 0 ≤ x13_1
     ·rw [if_pos c6] at H
      have c6b0 := decide_eq_true c6
      clear c6
      by_cases c7 : x13_1 < (l0.length : Int)
      ·rw [if_pos c7] at H
       have c7b0 := decide_eq_true c7
       clear c7
       replace H := Option.bind_eq_some_iff.mp H
       obtain ⟨t502, A80, H⟩ := H
       have A8 := Aside0.mk A80
       clear A80
       by_cases c9 : t502 = 0
       ·rw [if_pos c9] at H
        have c9b0 : (t502 == 0) = true := beq_iff_eq.mpr c9
        have c9b1 : (t502 != 0) = false := bne_eq_false_iff_eq.mpr c9
        clear c9
        have H' := Aside0.mk H
        clear H
        have p500 : 0 ≤ (x13_1 : Int) := yD
        have q500 : x13_1 < (l0.length : Int) := yD
        obtain ⟨ad500, A500_1, c500_1, e500, hx500_0, hx500_1, hx500_2, hl500_1, hi500_1⟩ := at_T32 HR0.out x13_1 p500 q500
        cases e500
        replace hx500_0 := yM HB.out hx500_0
        replace hx500_1 := yM HB.out hx500_1
        replace hx500_2 := yM HB.out hx500_2
        have HR500_1 := Aside0.mk hi500_1
        have HC500_1 := Aside0.mk hl500_1
        clear hi500_1 hl500_1
        replace p500 := eq_true p500
        replace q500 := eq_true q500
        go_wp2_with (first | ((with_reducible refine gate_dst (N := 6) rfl ?_); refine yX 6 #[.bool false, .slice none 0 0, .string (⟨#[]⟩ : ByteArray)] 32 ?_; intro gb501 hg w10 hbox hb; have BK501 := Aside0.mk (hbox); have GW501 := Aside0.mk ((yG hg : w.heap.size ≤ gb501)); have GE501 := Aside0.mk ((yG hg : w.heap.size ≤ gb501)); replace HB := Aside0.mk (below_step yB hb); clear hb hbox hg; have hcz11_0 := yZ0 BK501.out; have hcz11_1 := yZ1 BK501.out; have hcz11_2 := yZ2 BK501.out; have hfz11_0 := blk_frozen BK501.out 0; have hfz11_1 := blk_frozen BK501.out 1; have hfz11_2 := blk_frozen BK501.out 2) | ((with_reducible refine gate_callee (f := 57) rfl ?_); refine goesL_ (some 18) rfl rfl Try.func57 (by kernel_rfl) rfl #[.agg #[.bool ((rd_T32 l0 x13_1).f0), .slice A500_1 ((rd_T32 l0 x13_1).f1).length c500_1, .string ((rd_T32 l0 x13_1).f2)]] rfl yQ ?_; (with_reducible refine (swarfref41_Valid.calls k1 ((rd_T32 l0 x13_1).f0) _ _ ((rd_T32 l0 x13_1).f1) ((rd_T32 l0 x13_1).f2) t502 _ ?side1 ?side2 A8.out).mono ?_); (case side1 => exact Kd.C_below HR500_1.out yB); (case side2 => exact HC500_1.out); rintro e w12 ⟨rfl, hb⟩; refine ⟨_, rfl, ?_⟩; replace BK501 := Aside0.mk (blk_below (g := gb501) (o := .cells #[.bool ((rd_T32 l0 x13_1).f0), .slice A500_1 ((rd_T32 l0 x13_1).f1).length c500_1, .string ((rd_T32 l0 x13_1).f2)] 32 (0, 0)) (by refine yH ?_; refine blk_put (cs := #[.bool ((rd_T32 l0 x13_1).f0), .slice A500_1 ((rd_T32 l0 x13_1).f1).length c500_1, .string (⟨#[]⟩ : ByteArray)]) ?_ 2 _ rfl; refine yH ?_; refine blk_put (cs := #[.bool ((rd_T32 l0 x13_1).f0), .slice none 0 0, .string (⟨#[]⟩ : ByteArray)]) ?_ 1 _ rfl; refine yH ?_; refine blk_put (cs := #[.bool false, .slice none 0 0, .string (⟨#[]⟩ : ByteArray)]) ?_ 0 _ rfl; refine yH ?_; exact BK501.out) hb); replace HB := Aside0.mk (below_step yB hb); (try clear hb)))
        go_roundg k1
        case measure => have := HK1.out; omega
        case rel => exact ⟨(wrap64 (x13_1 + 1)), yS, H', ⟨by have := HK1.out; omega⟩, ⟨yB⟩⟩
       rw [if_neg c9] at H
       have c9b0 : (t502 == 0) = false := beq_eq_false_iff_ne.mpr c9
       have c9b1 : (t502 != 0) = true := bne_iff_ne.mpr c9
       obtain rfl := Option.some.inj H
       have p500 : 0 ≤ (x13_1 : Int) := yD
       have q500 : x13_1 < (l0.length : Int) := yD
       obtain ⟨ad500, A500_1, c500_1, e500, hx500_0, hx500_1, hx500_2, hl500_1, hi500_1⟩ := at_T32 HR0.out x13_1 p500 q500
       cases e500
       replace hx500_0 := yM HB.out hx500_0
       replace hx500_1 := yM HB.out hx500_1
       replace hx500_2 := yM HB.out hx500_2
       have HR500_1 := Aside0.mk hi500_1
       have HC500_1 := Aside0.mk hl500_1
       clear hi500_1 hl500_1
       replace p500 := eq_true p500
       replace q500 := eq_true q500
       go_wp2_with (first | ((with_reducible refine gate_dst (N := 6) rfl ?_); refine yX 6 #[.bool false, .slice none 0 0, .string (⟨#[]⟩ : ByteArray)] 32 ?_; intro gb501 hg w13 hbox hb; have BK501 := Aside0.mk (hbox); have GW501 := Aside0.mk ((yG hg : w.heap.size ≤ gb501)); have GE501 := Aside0.mk ((yG hg : w.heap.size ≤ gb501)); replace HB := Aside0.mk (below_step yB hb); clear hb hbox hg; have hcz14_0 := yZ0 BK501.out; have hcz14_1 := yZ1 BK501.out; have hcz14_2 := yZ2 BK501.out; have hfz14_0 := blk_frozen BK501.out 0; have hfz14_1 := blk_frozen BK501.out 1; have hfz14_2 := blk_frozen BK501.out 2) | ((with_reducible refine gate_callee (f := 57) rfl ?_); refine goesL_ (some 18) rfl rfl Try.func57 (by kernel_rfl) rfl #[.agg #[.bool ((rd_T32 l0 x13_1).f0), .slice A500_1 ((rd_T32 l0 x13_1).f1).length c500_1, .string ((rd_T32 l0 x13_1).f2)]] rfl yQ ?_; (with_reducible refine (swarfref41_Valid.calls k1 ((rd_T32 l0 x13_1).f0) _ _ ((rd_T32 l0 x13_1).f1) ((rd_T32 l0 x13_1).f2) t502 _ ?side1 ?side2 A8.out).mono ?_); (case side1 => exact Kd.C_below HR500_1.out yB); (case side2 => exact HC500_1.out); rintro e w15 ⟨rfl, hb⟩; refine ⟨_, rfl, ?_⟩; replace BK501 := Aside0.mk (blk_below (g := gb501) (o := .cells #[.bool ((rd_T32 l0 x13_1).f0), .slice A500_1 ((rd_T32 l0 x13_1).f1).length c500_1, .string ((rd_T32 l0 x13_1).f2)] 32 (0, 0)) (by refine yH ?_; refine blk_put (cs := #[.bool ((rd_T32 l0 x13_1).f0), .slice A500_1 ((rd_T32 l0 x13_1).f1).length c500_1, .string (⟨#[]⟩ : ByteArray)]) ?_ 2 _ rfl; refine yH ?_; refine blk_put (cs := #[.bool ((rd_T32 l0 x13_1).f0), .slice none 0 0, .string (⟨#[]⟩ : ByteArray)]) ?_ 1 _ rfl; refine yH ?_; refine blk_put (cs := #[.bool false, .slice none 0 0, .string (⟨#[]⟩ : ByteArray)]) ?_ 0 _ rfl; refine yH ?_; exact BK501.out) hb); replace HB := Aside0.mk (below_step yB hb); (try clear hb)))
       go_ret
       exact ⟨yE, yB⟩
      rw [if_neg c7] at H
      exact absurd H (by simp)
     rw [if_neg c6] at H
     exact absurd H (by simp)
    rw [if_neg c5] at H
    have c5b0 := decide_eq_false c5
    clear c5
    obtain rfl := Option.some.inj H
    go_wp2
    go_ret
    exact ⟨yE, yB⟩
 replace c4 := Bool.eq_false_iff.mpr c4
 subst c4
 replace H : (some false) = some r := by rw [if_neg (show ¬ (false = true) by decide)] at H; exact H
 obtain rfl := Option.some.inj H
 go_enter Try.func24, Try.ntmps24
 go_wp2_with (first | ((with_reducible refine gate_callee (f := 56) rfl ?_); refine goesL_ (some 9) rfl rfl Try.func56 (by kernel_rfl) rfl #[.slice A0 l0.length c0, .int .i64 a1] rfl yQ ?_; (with_reducible refine (swarfref41_Few.calls k _ _ l0 a1 false _ ?side1 ?side2 A3.out).mono ?_); (case side1 => repeat (first | exact HR0.out | (with_reducible refine Kd.C_alloc ?_ _) | (with_reducible refine Kd.C_drewN ?_ _) | (with_reducible refine Kd.C_drew ?_))); (case side2 => exact HC0.out); rintro e w' ⟨rfl, ⟨nd, rfl⟩⟩; refine ⟨_, rfl, ?_⟩))
 go_ret
 exact ⟨yE, yB⟩
end Go.Proofs.Ytehkhbnhmehobaa.P
namespace Go.Proofs.Ytehkhbnhmehobaa.P
open Go.RowKit Go.Proofs.YtehkhbnhmehobaaW.PrintWords Go.Proofs.YtehkhbnhmehobaaW.PrintLast Go.Proofs.YtehkhbnhmehobaaW.PrintMore
set_option linter.unusedVariables false
set_option linter.unusedSimpArgs false
abbrev Wd := S78
abbrev Bk := S32
def hasS (l : List Wd) (a v : Int) : Bool := l.any (fun w => decide (w.f0 = a) && decide (w.f1 = v))
def codesS (l : List Wd) (a : Int) : List Int := (l.filter (fun w => decide (w.f0 = a))).map (fun w => w.f1)
def anyS (l : List Wd) (a : Int) : Bool := l.any (fun w => decide (w.f0 = a))
theorem codesS_cons (w : Wd) (l : List Wd) (a : Int) : codesS (w :: l) a = if w.f0 = a then w.f1 :: codesS l a else codesS l a := by
  unfold codesS
  by_cases h : w.f0 = a <;> simp [List.filter_cons, h]
theorem hasS_cons (w : Wd) (l : List Wd) (a v : Int) : hasS (w :: l) a v = (decide (w.f0 = a) && decide (w.f1 = v) || hasS l a v) := rfl
theorem codesS_length (l : List Wd) (a : Int) : (codesS l a).length ≤ l.length := by
  unfold codesS
  rw [List.length_map]
  exact List.length_filter_le _ _
theorem codesS_pos (l : List Wd) (a : Int) : decide (((codesS l a).length : Int) > 0) = anyS l a := by
  unfold codesS anyS
  rw [List.length_map]
  induction l with
  | nil => rfl
  | cons w l ih =>
    by_cases h : w.f0 = a
    · simp [List.filter_cons, h]
    simp only [List.filter_cons, h, decide_false, Bool.false_eq_true, if_false, List.any_cons, Bool.false_or]; exact ih
theorem mem_codesS (l : List Wd) (a v : Int) : decide (v ∈ codesS l a) = hasS l a v := by
  induction l with
  | nil => simp [codesS, hasS]
  | cons w l ih =>
    rw [codesS_cons]
    unfold hasS at ih ⊢
    rw [List.any_cons, ← ih]
    by_cases h : w.f0 = a
    · by_cases h2 : w.f1 = v
      · simp [h, h2]
      have h3 : ¬ v = w.f1 := fun e => h2 e.symm
      simp [h, h2, h3]
    simp [h]
theorem Codes_l0 (a : Int) (l : List Wd) (hl : l.length ≤ 1000000) : ∀ (n j : Nat) (acc : List Int), j + n = l.length → acc.length ≤ j → Ev (fun k => block_Codes.l0 k a acc l (l.length : Int) (j : Int)) (acc ++ codesS (l.drop j) a) := by
  intro n
  induction n with
  | zero =>
    intro j acc hj ha
    refine Ev.step (fun k => by rw [block_Codes.l0]) (Ev.neg (by omega) ?_)
    rw [List.drop_eq_nil_of_le (by omega)]
    simpa [codesS] using Ev.some
  | succ n ih =>
    intro j acc hj ha
    refine Ev.step (fun k => by rw [block_Codes.l0]) (Ev.pos (by omega) (Ev.pos (by omega) (Ev.pos (by omega) ?_)))
    rw [rd_T78_at (show j < l.length by omega), List.drop_eq_getElem_cons (show j < l.length by omega), codesS_cons]
    by_cases h : (l[j]'(by omega)).f0 = a
    · rw [if_pos h]
      refine Ev.pos h (Ev.pos (by omega) ?_)
      rw [wrapI (by omega)]
      have := ih (j + 1) (acc ++ [(l[j]'(by omega)).f1]) (by omega) (by simp; omega)
      simpa using this
    rw [if_neg h]
    refine Ev.neg h ?_
    rw [wrapI (by omega)]
    exact ih (j + 1) acc (by omega) (by omega)
theorem Codes_ev (s : Bool) (l : List Wd) (c : ByteArray) (a : Int) (hl : l.length ≤ 1000000) : Ev (fun k => block_Codes.f k s l c a) (codesS l a) := by
  unfold block_Codes.f
  simpa using Codes_l0 a l hl l.length 0 [] (by omega) (by simp)
theorem CodesR_l0 (s : Bool) (c : ByteArray) (a : Int) (l : List Wd) (hl : l.length ≤ 1000000) : ∀ (n j : Nat) (acc : List Int), j + n = l.length → acc.length ≤ j → Ev (fun k => swarfref41_Codes.l0 k a acc (j : Int) s l c) (acc ++ codesS (l.drop j) a) := by
  intro n
  induction n with
  | zero =>
    intro j acc hj ha
    refine Ev.step (fun k => by rw [swarfref41_Codes.l0]) (Ev.neg (by omega) ?_)
    rw [List.drop_eq_nil_of_le (by omega)]
    simpa [codesS] using Ev.some
  | succ n ih =>
    intro j acc hj ha
    refine Ev.step (fun k => by rw [swarfref41_Codes.l0]) (Ev.pos (by omega) (Ev.pos (by omega) ?_))
    rw [rd_T78_at (show j < l.length by omega), List.drop_eq_getElem_cons (show j < l.length by omega), codesS_cons]
    by_cases h : (l[j]'(by omega)).f0 = a
    · rw [if_pos h]
      refine Ev.pos h (Ev.pos (by omega) ?_)
      rw [wrapI (by omega)]
      have := ih (j + 1) (acc ++ [(l[j]'(by omega)).f1]) (by omega) (by simp; omega)
      simpa using this
    rw [if_neg h]
    refine Ev.neg h ?_
    rw [wrapI (by omega)]
    exact ih (j + 1) acc (by omega) (by omega)
theorem letter_ev (s : Bool) (l : List Wd) (c : ByteArray) (a : Int) (hl : l.length ≤ 1000000) : Ev (fun k => swarfref43_letter.f k s l c a) (anyS l a) := by
  unfold swarfref43_letter.f
  have h : Ev (fun k => swarfref41_Codes.f k s l c a) (codesS l a) := by
    unfold swarfref41_Codes.f
    simpa using CodesR_l0 s c a l hl l.length 0 [] (by omega) (by simp)
  refine Ev.bind h ?_
  rw [codesS_pos]
  exact Ev.some
theorem Index_l0 (v : Int) (l : List Int) (hl : l.length ≤ 1000000) : ∀ (n j : Nat), j + n = l.length → ∃ r : Int, Ev (fun k => slices_Index_int64_int64.l0 k l v (l.length : Int) (j : Int)) r ∧ (0 ≤ r ↔ v ∈ l.drop j) := by
  intro n
  induction n with
  | zero =>
    intro j hj
    refine ⟨-1, Ev.step (fun k => by rw [slices_Index_int64_int64.l0]) (Ev.neg (by omega) Ev.some), ?_⟩
    rw [List.drop_eq_nil_of_le (by omega)]
    simp
  | succ n ih =>
    intro j hj
    obtain ⟨r, h1, h2⟩ := ih (j + 1) (by omega)
    rw [List.drop_eq_getElem_cons (show j < l.length by omega)]
    by_cases h : v = l[j]'(by omega)
    · refine ⟨j, Ev.step (fun k => by rw [slices_Index_int64_int64.l0]) (Ev.pos (by omega) (Ev.pos (by omega) (Ev.pos (by omega) (Ev.pos ?_ Ev.some)))), ?_⟩
      · rw [rd_at (show j < l.length by omega)]; exact h
      exact ⟨fun _ => List.mem_cons.mpr (.inl h), fun _ => by omega⟩
    refine ⟨r, Ev.step (fun k => by rw [slices_Index_int64_int64.l0]) (Ev.pos (by omega) (Ev.pos (by omega) (Ev.pos (by omega) (Ev.neg ?_ ?_)))), ?_⟩
    · rw [rd_at (show j < l.length by omega)]; exact h
    · rw [wrapI (by omega)]; exact h1
    rw [h2, List.mem_cons]; exact ⟨fun h3 => .inr h3, fun h3 => h3.resolve_left h⟩
theorem has_ev (s : Bool) (l : List Wd) (c : ByteArray) (a v : Int) (hl : l.length ≤ 1000000) : Ev (fun k => subprogram_has.f k s l c a v) (hasS l a v) := by
  unfold subprogram_has.f
  refine Ev.bind (Codes_ev s l c a hl) ?_
  have hl2 : (codesS l a).length ≤ 1000000 := Nat.le_trans (codesS_length l a) hl
  obtain ⟨r, h1, h2⟩ := Index_l0 v (codesS l a) hl2 (codesS l a).length 0 (by omega)
  have h3 : Ev (fun k => slices_Contains_int64_int64.f k (codesS l a) v) (hasS l a v) := by
    unfold slices_Contains_int64_int64.f slices_Index_int64_int64.f
    refine Ev.bind h1 ?_
    rw [← mem_codesS, show decide (r ≥ 0) = decide (v ∈ codesS l a) from decide_eq_decide.mpr (by simpa using h2)]
    exact Ev.some
  exact Ev.bind h3 Ev.some
theorem hasR_l0 (s : Bool) (c : ByteArray) (a v : Int) (l : List Wd) (hl : l.length ≤ 1000000) : ∀ (n j : Nat), j + n = l.length → Ev (fun k => swarfref43_has.l0 k a v (j : Int) s l c) (hasS (l.drop j) a v) := by
  intro n
  induction n with
  | zero =>
    intro j hj
    refine Ev.step (fun k => by rw [swarfref43_has.l0]) (Ev.neg (by omega) ?_)
    rw [List.drop_eq_nil_of_le (by omega)]
    exact Ev.some
  | succ n ih =>
    intro j hj
    refine Ev.step (fun k => by rw [swarfref43_has.l0]) (Ev.pos (by omega) (Ev.pos (by omega) ?_))
    have h0 := ih (j + 1) (by omega)
    rw [rd_T78_at (show j < l.length by omega), List.drop_eq_getElem_cons (show j < l.length by omega)]
    by_cases h : (l[j]'(by omega)).f0 = a
    · refine Ev.pos h ?_
      by_cases h2 : (l[j]'(by omega)).f1 = v
      · rw [show hasS (l[j]'(by omega) :: l.drop (j + 1)) a v = true from by rw [hasS_cons, decide_eq_true h, decide_eq_true h2]; rfl]
        exact Ev.pos h2 Ev.some
      rw [show hasS (l[j]'(by omega) :: l.drop (j + 1)) a v = hasS (l.drop (j + 1)) a v from by rw [hasS_cons, decide_eq_true h, decide_eq_false h2]; rfl]
      refine Ev.neg h2 ?_
      rw [wrapI (by omega)]
      exact h0
    rw [show hasS (l[j]'(by omega) :: l.drop (j + 1)) a v = hasS (l.drop (j + 1)) a v from by rw [hasS_cons, decide_eq_false h]; rfl]
    refine Ev.neg h ?_
    rw [wrapI (by omega)]
    exact h0
theorem hasR_ev (s : Bool) (l : List Wd) (c : ByteArray) (a v : Int) (hl : l.length ≤ 1000000) : Ev (fun k => swarfref43_has.f k s l c a v) (hasS l a v) := by
  unfold swarfref43_has.f
  simpa using hasR_l0 s c a v l hl l.length 0 (by omega)
theorem End_ev (s : Bool) (l : List Wd) (c : ByteArray) (hl : l.length ≤ 1000000) : Ev (fun k => swarfref43_End.f k s l c) (hasS l 77 30000) := by
  unfold swarfref43_End.f
  exact Ev.bind (hasR_ev s l c 77 30000 hl) Ev.some
theorem Return_ev (s : Bool) (l : List Wd) (c : ByteArray) (hl : l.length ≤ 1000000) : Ev (fun k => swarfref43_Return.f k s l c) (hasS l 77 99000) := by
  unfold swarfref43_Return.f
  exact Ev.bind (hasR_ev s l c 77 99000 hl) Ev.some
def markS (l : List Wd) : Bool := anyS l 79 || (hasS l 77 30000 || hasS l 77 99000)
theorem marked_ev (s : Bool) (l : List Wd) (c : ByteArray) (hl : l.length ≤ 1000000) : Ev (fun k => subprogram_marked.f k s l c) (markS l) := by
  unfold subprogram_marked.f
  refine Ev.bind (Codes_ev s l c 79 hl) ?_
  have hp := codesS_pos l 79
  unfold markS
  rw [← hp]
  by_cases h : ((codesS l 79).length : Int) > 0
  · rw [decide_eq_true h, Bool.true_or]
    exact Ev.pos h Ev.some
  rw [decide_eq_false h, Bool.false_or]
  refine Ev.neg h (Ev.bind (has_ev s l c 77 30000 hl) ?_)
  cases h2 : hasS l 77 30000 with
  | true => exact Ev.pos rfl Ev.some
  | false =>
    rw [Bool.false_or]
    exact Ev.neg (by decide) (Ev.bind (has_ev s l c 77 99000 hl) Ev.some)
def wholeT (v : Int) : Int × Bool := (wrap64 (Int.tdiv v 1000), decide (Int.tmod v 1000 = 0 ∧ 1 ≤ wrap64 (Int.tdiv v 1000) ∧ wrap64 (Int.tdiv v 1000) ≤ 9999))
theorem whole_eq (v : Int) : subprogram_whole.f v = some (wholeT v) := by
  unfold subprogram_whole.f wholeT
  by_cases h1 : Int.tmod v 1000 = 0
  · rw [if_pos h1]
    by_cases h2 : wrap64 (Int.tdiv v 1000) ≥ 1
    · rw [if_pos h2]
      have h2' : 1 ≤ wrap64 (Int.tdiv v 1000) := h2
      simp [h1, h2']
    rw [if_neg h2]
    have h2' : ¬ 1 ≤ wrap64 (Int.tdiv v 1000) := h2
    simp [h1, h2']
  rw [if_neg h1]
  simp [h1]
def wholeR (v : Int) : Int := if (wholeT v).2 = true then (wholeT v).1 else 0
theorem tdiv_parts (v : Int) (h : I64 v) : wrap64 (Int.tdiv v 1000) = Int.tdiv v 1000 ∧ (0 ≤ v → Int.tdiv v 1000 = v / 1000 ∧ Int.tmod v 1000 = v % 1000) ∧ (v < 0 → Int.tdiv v 1000 ≤ 0) := by
  unfold I64 at h
  have hn : v < 0 → Int.tdiv v 1000 = -((-v) / 1000) := fun hv => by
    have : Int.tdiv (-(-v)) 1000 = -(Int.tdiv (-v) 1000) := Int.neg_tdiv ..
    rw [Int.neg_neg] at this
    rw [this, Int.tdiv_eq_ediv_of_nonneg (by omega)]
  refine ⟨?_, fun hv => ⟨Int.tdiv_eq_ediv_of_nonneg hv, Int.tmod_eq_emod_of_nonneg hv⟩, fun hv => ?_⟩
  · unfold wrap64
    by_cases hv : 0 ≤ v
    · rw [Int.tdiv_eq_ediv_of_nonneg hv]; omega
    rw [hn (by omega)]; omega
  rw [hn hv]; omega
theorem wholeR_eq (v : Int) (h : I64 v) : swarfref43_whole.f v = some (wholeR v) := by
  obtain ⟨h1, h2, h3⟩ := tdiv_parts v h
  unfold swarfref43_whole.f wholeR wholeT
  simp only [decide_eq_true_eq]
  rw [h1]
  by_cases hm : Int.tmod v 1000 = 0
  · rw [if_pos hm]
    by_cases hv : 0 ≤ v
    · obtain ⟨h4, h5⟩ := h2 hv
      rw [h4]
      rw [h5] at hm
      by_cases h6 : v < 1000
      · rw [if_pos h6, if_neg (by omega)]
      rw [if_neg h6]
      by_cases h7 : v > 9999000
      · rw [if_pos h7, if_neg (by omega)]
      rw [if_neg h7, if_pos ⟨by omega, by omega, by omega⟩]
    have := h3 (by omega)
    rw [if_pos (by omega), if_neg (by omega)]
  rw [if_neg hm, if_neg (by simp [hm])]
theorem wholeT_pos {v : Int} (h : (wholeT v).2 = true) : 1 ≤ (wholeT v).1 ∧ (wholeT v).1 ≤ 9999 := by
  unfold wholeT at h ⊢
  simp only [decide_eq_true_eq] at h
  exact h.2
def callT : List Wd → (Int → Int) → Int → Int → Bool → (Int → Int) × Int × Int × Bool
  | [], C, n, t, ok => (C, n, t, ok)
  | x :: l, C, n, t, ok => callT l (fun y => if y = x.f0 then wrap64 (C y + 1) else C y) (if x.f0 = 80 then (wholeT x.f1).1 else n) (if x.f0 = 76 then (wholeT x.f1).1 else t) (if x.f0 = 80 ∨ x.f0 = 76 then ok && (wholeT x.f1).2 else if x.f0 = 77 ∨ x.f0 = 78 then ok else false)
theorem callL_eq : ∀ (l : List Wd) (C : Int → Int) (n t : Int) (ok : Bool), callL l C n t ok = some (callT l C n t ok)
  | [], C, n, t, ok => rfl
  | x :: l, C, n, t, ok => by rw [callL, whole_eq, Option.bind_some, callL_eq, callT]
def callS (l : List Wd) : Int × Int × Bool × Int := if hasS l 77 98000 = true then callR (callT l (fun _ => 0) 0 1 true) else (0, 0, false, 0)
theorem callO_ev (s : Bool) (l : List Wd) (c : ByteArray) (hl : l.length ≤ 1000000) (hw : wordsW l) : Ev (fun k => subprogram_Call.f k s l c) (callS l) := by
  unfold subprogram_Call.f
  refine Ev.pos hw (Ev.bind (has_ev s l c 77 98000 hl) ?_)
  by_cases h : hasS l 77 98000 = true
  · have e : callS l = callR (callT l (fun _ => 0) 0 1 true) := if_pos h
    rw [e]
    refine Ev.pos h ?_
    rw [callL_eq]
    exact Ev.some
  have e : callS l = (0, 0, false, 0) := if_neg h
  rw [e]
  exact Ev.neg h Ev.some
theorem callT_false : ∀ (l : List Wd) (C : Int → Int) (n t : Int), (callT l C n t false).2.2.2 = false
  | [], C, n, t => rfl
  | x :: l, C, n, t => by
    rw [callT]
    have : (if x.f0 = 80 ∨ x.f0 = 76 then false && (wholeT x.f1).2 else if x.f0 = 77 ∨ x.f0 = 78 then false else false) = false := by split <;> simp
    rw [this]
    exact callT_false l _ _ _
structure CallRel (j : Nat) (C : Int → Int) (n t : Int) (ok : Bool) (num times p lc m nc : Int) : Prop where
  cm : C 77 = m
  cp : C 80 = p
  cl : C 76 = lc
  cn : C 78 = nc
  bm : 0 ≤ m ∧ m ≤ j
  bp : 0 ≤ p ∧ p ≤ j
  bl : 0 ≤ lc ∧ lc ≤ j
  bn : 0 ≤ nc ∧ nc ≤ j
  p0 : p = 0 → num = 0 ∧ n = 0
  l0 : lc = 0 → times = 1 ∧ t = 1
  yes : p ≤ 1 → lc ≤ 1 → ok = true → num = n ∧ times = t ∧ (p = 1 → num ≠ 0) ∧ times ≠ 0
  no : p ≤ 1 → lc ≤ 1 → ok = false → (p = 1 ∧ num = 0) ∨ times = 0
theorem callRef_l0 (s : Bool) (c : ByteArray) (l : List Wd) (hl : l.length ≤ 1000000) (hv : ∀ x ∈ l, I64 x.f1) : ∀ (n j : Nat) (C : Int → Int) (nu t : Int) (ok : Bool) (num times p lc m nc : Int), j + n = l.length → CallRel j C nu t ok num times p lc m nc →
    Ev (fun k => swarfref43_Call.l0 k num times p lc m nc (j : Int) s l c) (callR (callT (l.drop j) C nu t ok)) := by
  intro n
  induction n with
  | zero =>
    intro j C nu t ok num times p lc m nc hj R
    refine Ev.step (fun k => by rw [swarfref43_Call.l0]) (Ev.neg (by omega) ?_)
    rw [List.drop_eq_nil_of_le (by omega), callT]
    unfold callR
    simp only [R.cm, R.cp, R.cl, R.cn]
    by_cases h1 : m = 1
    · refine Ev.pos h1 ?_
      by_cases h2 : p = 1
      · refine Ev.pos h2 ?_
        by_cases h3 : lc > 1
        · refine Ev.pos h3 ?_
          simp [h1, h2, h3]; exact Ev.some
        refine Ev.neg h3 ?_
        by_cases h4 : nc > 1
        · refine Ev.pos h4 ?_
          simp [h1, h2, h3, h4]; exact Ev.some
        refine Ev.neg h4 ?_
        cases ok with
        | true =>
          obtain ⟨e1, e2, e3, e4⟩ := R.yes (by omega) (by omega) rfl
          refine Ev.neg (e3 h2) (Ev.neg e4 ?_)
          simp [h1, h2, h3, h4, e1, e2]; exact Ev.some
        | false =>
          simp only [if_true]
          rcases R.no (by omega) (by omega) rfl with ⟨_, e⟩ | e
          · exact Ev.pos e Ev.some
          by_cases e0 : num = 0
          · exact Ev.pos e0 Ev.some
          exact Ev.neg e0 (Ev.pos e Ev.some)
      refine Ev.neg h2 ?_
      simp [h1, h2]; exact Ev.some
    refine Ev.neg h1 ?_
    simp [h1]; exact Ev.some
  | succ n ih =>
    intro j C nu t ok num times p lc m nc hj R
    have hx := hv _ (List.getElem_mem (show j < l.length by omega))
    refine Ev.step (fun k => by rw [swarfref43_Call.l0]) (Ev.pos (by omega) (Ev.pos (by omega) ?_))
    rw [rd_T78_at (show j < l.length by omega), List.drop_eq_getElem_cons (show j < l.length by omega), callT]
    generalize l[j]'(by omega) = x at *
    have w1 : ∀ y : Int, 0 ≤ y → y ≤ j → wrap64 (y + 1) = y + 1 := fun y h0 h1 => by unfold wrap64; omega
    have bm := R.bm
    have bp := R.bp
    have bl := R.bl
    have bn := R.bn
    rw [wrapI (by omega)]
    by_cases c77 : x.f0 = 77
    · refine Ev.pos c77 ?_
      refine ih (j + 1) _ _ _ _ _ _ _ _ _ _ (by omega) ?_
      simp only [c77]
      rw [w1 m bm.1 bm.2]
      exact { cm := by simp only [if_true]; rw [R.cm, w1 m bm.1 bm.2], cp := by simpa using R.cp, cl := by simpa using R.cl, cn := by simpa using R.cn, bm := by omega, bp := by omega, bl := by omega, bn := by omega, p0 := by simpa using R.p0, l0 := by simpa using R.l0, yes := by simpa using R.yes, no := by simpa using R.no }
    refine Ev.neg c77 ?_
    by_cases c80 : x.f0 = 80
    · refine Ev.pos c80 ?_
      rw [wholeR_eq _ hx]
      refine Ev.bind Ev.some ?_
      refine ih (j + 1) _ _ _ _ _ _ _ _ _ _ (by omega) ?_
      simp only [c80]
      rw [w1 p bp.1 bp.2]
      refine { cm := by simpa using R.cm, cp := by simp only [if_true]; rw [R.cp, w1 p bp.1 bp.2], cl := by simpa using R.cl, cn := by simpa using R.cn, bm := by omega, bp := by omega, bl := by omega, bn := by omega, p0 := fun h => by omega, l0 := by simpa using R.l0, yes := fun h1 h2 h3 => ?_, no := fun h1 h2 h3 => ?_ }
      · simp only [true_or, if_true, Bool.and_eq_true] at h3
        obtain ⟨e1, e2, e3, e4⟩ := R.yes (by omega) h2 h3.1
        have hp := wholeT_pos h3.2
        unfold wholeR
        rw [if_pos h3.2]
        exact ⟨by simp, by simpa using e2, fun _ => by omega, e4⟩
      simp only [true_or, if_true] at h3
      unfold wholeR
      cases hw : (wholeT x.f1).2 with
      | false => exact .inl ⟨by omega, by simp⟩
      | true =>
        rw [hw, Bool.and_true] at h3
        rcases R.no (by omega) h2 h3 with h | h
        · omega
        exact .inr h
    refine Ev.neg c80 ?_
    by_cases c76 : x.f0 = 76
    · refine Ev.pos c76 ?_
      rw [wholeR_eq _ hx]
      refine Ev.bind Ev.some ?_
      refine ih (j + 1) _ _ _ _ _ _ _ _ _ _ (by omega) ?_
      simp only [c76]
      rw [w1 lc bl.1 bl.2]
      refine { cm := by simpa using R.cm, cp := by simpa using R.cp, cl := by simp only [if_true]; rw [R.cl, w1 lc bl.1 bl.2], cn := by simpa using R.cn, bm := by omega, bp := by omega, bl := by omega, bn := by omega, p0 := by simpa using R.p0, l0 := fun h => by omega, yes := fun h1 h2 h3 => ?_, no := fun h1 h2 h3 => ?_ }
      · simp only [or_true, if_true, Bool.and_eq_true] at h3
        obtain ⟨e1, e2, e3, e4⟩ := R.yes h1 (by omega) h3.1
        have hp := wholeT_pos h3.2
        unfold wholeR
        rw [if_pos h3.2]
        exact ⟨by simpa using e1, by simp, e3, by omega⟩
      simp only [or_true, if_true] at h3
      unfold wholeR
      cases hw : (wholeT x.f1).2 with
      | false => exact .inr (by simp)
      | true =>
        rw [hw, Bool.and_true] at h3
        rcases R.no h1 (by omega) h3 with h | h
        · exact .inl h
        have := R.l0 (by omega); omega
    refine Ev.neg c76 ?_
    by_cases c78 : x.f0 = 78
    · refine Ev.pos c78 ?_
      refine ih (j + 1) _ _ _ _ _ _ _ _ _ _ (by omega) ?_
      simp only [c78]
      rw [w1 nc bn.1 bn.2]
      exact { cm := by simpa using R.cm, cp := by simpa using R.cp, cl := by simpa using R.cl, cn := by simp only [if_true]; rw [R.cn, w1 nc bn.1 bn.2], bm := by omega, bp := by omega, bl := by omega, bn := by omega, p0 := by simpa using R.p0, l0 := by simpa using R.l0, yes := by simpa using R.yes, no := by simpa using R.no }
    refine Ev.neg c78 ?_
    simp only [c80, c76, c77, c78, or_self, if_false]
    unfold callR
    rw [if_pos (callT_false _ _ _ _)]
    exact Ev.some
theorem callRef_ev (s : Bool) (l : List Wd) (c : ByteArray) (hl : l.length ≤ 1000000) (hv : ∀ x ∈ l, I64 x.f1) : Ev (fun k => swarfref43_Call.f k s l c) (callS l) := by
  unfold swarfref43_Call.f
  refine Ev.bind (hasR_ev s l c 77 98000 hl) ?_
  by_cases h : hasS l 77 98000 = true
  · have e : callS l = callR (callT l (fun _ => 0) 0 1 true) := if_pos h
    rw [e]
    refine Ev.pos h ?_
    exact callRef_l0 s c l hl hv l.length 0 _ 0 1 true 0 1 0 0 0 0 (by omega) { cm := rfl, cp := rfl, cl := rfl, cn := rfl, bm := by omega, bp := by omega, bl := by omega, bn := by omega, p0 := fun _ => ⟨rfl, rfl⟩, l0 := fun _ => ⟨rfl, rfl⟩, yes := fun _ _ _ => ⟨rfl, rfl, fun h => by omega, by decide⟩, no := fun _ _ h => by cases h }
  have e : callS l = (0, 0, false, 0) := if_neg h
  rw [e]
  exact Ev.neg h Ev.some
def fewS (l : List Bk) (n : Int) : Bool := decide ((l.length : Int) ≤ n) && l.all (fun b => decide (b.f1.length ≤ 20) && decide (b.f2.size ≤ 120))
theorem Few_l0 (l : List Bk) (hl : l.length ≤ 9223372036854775807) : ∀ (n j : Nat), j + n = l.length → Ev (fun k => swarfref41_Few.l0 k l (j : Int)) ((l.drop j).all (fun b => decide (b.f1.length ≤ 20) && decide (b.f2.size ≤ 120))) := by
  intro n
  induction n with
  | zero =>
    intro j hj
    refine Ev.step (fun k => by rw [swarfref41_Few.l0]) (Ev.neg (by omega) ?_)
    rw [List.drop_eq_nil_of_le (by omega)]
    exact Ev.some
  | succ n ih =>
    intro j hj
    have h0 := ih (j + 1) (by omega)
    refine Ev.step (fun k => by rw [swarfref41_Few.l0]) (Ev.pos (by omega) (Ev.pos (by omega) ?_))
    rw [rd_T32_at (show j < l.length by omega), List.drop_eq_getElem_cons (show j < l.length by omega), List.all_cons]
    by_cases h1 : ((l[j]'(by omega)).f1.length : Int) > 20
    · rw [decide_eq_false (show ¬ (l[j]'(by omega)).f1.length ≤ 20 by omega), Bool.false_and, Bool.false_and]
      exact Ev.pos h1 Ev.some
    rw [decide_eq_true (show (l[j]'(by omega)).f1.length ≤ 20 by omega), Bool.true_and]
    refine Ev.neg h1 ?_
    by_cases h2 : ((l[j]'(by omega)).f2.size : Int) > 120
    · rw [decide_eq_false (show ¬ (l[j]'(by omega)).f2.size ≤ 120 by omega), Bool.false_and]
      exact Ev.pos h2 Ev.some
    rw [decide_eq_true (show (l[j]'(by omega)).f2.size ≤ 120 by omega), Bool.true_and]
    refine Ev.neg h2 ?_
    rw [wrapI (by omega)]
    exact h0
theorem Few_ev (l : List Bk) (n : Int) (hl : l.length ≤ 9223372036854775807) : Ev (fun k => swarfref41_Few.f k l n) (fewS l n) := by
  unfold swarfref41_Few.f fewS
  by_cases h : (l.length : Int) > n
  · rw [decide_eq_false (show ¬ (l.length : Int) ≤ n by omega), Bool.false_and]
    exact Ev.pos h Ev.some
  rw [decide_eq_true (show (l.length : Int) ≤ n by omega), Bool.true_and]
  refine Ev.neg h ?_
  simpa using Few_l0 l hl l.length 0 (by omega)
def goodB (b : Bk) : Prop := b.f1.length ≤ 16 ∧ ∀ x ∈ b.f1, (65 ≤ x.f0 ∧ x.f0 ≤ 90) ∧ -1000000000000 ≤ x.f1 ∧ x.f1 ≤ 1000000000000
theorem Valid_l1 (s : Bool) (l : List Wd) (c : ByteArray) (hc : c.size ≤ 9223372036854775807) : ∀ (n j : Nat), j + n = c.size → ∃ r, Ev (fun k => swarfref41_Valid.l1 k (j : Int) s l c) r := by
  intro n
  induction n with
  | zero =>
    intro j hj
    exact ⟨0, Ev.step (fun k => by rw [swarfref41_Valid.l1]) (Ev.neg (by omega) Ev.some)⟩
  | succ n ih =>
    intro j hj
    obtain ⟨r, h0⟩ := ih (j + 1) (by omega)
    have hp : ∃ b, swarfref41_printable.f (bt c (j : Int)) = some b := by
      unfold swarfref41_printable.f
      split
      · split
        · split <;> exact ⟨_, rfl⟩
        exact ⟨_, rfl⟩
      exact ⟨_, rfl⟩
    obtain ⟨b, hb⟩ := hp
    cases b with
    | true =>
      refine ⟨r, Ev.step (fun k => by rw [swarfref41_Valid.l1]) (Ev.pos (by omega) (Ev.pos (by omega) ?_))⟩
      rw [hb]
      refine Ev.bind Ev.some (Ev.pos rfl ?_)
      rw [wrapI (by omega)]
      exact h0
    | false =>
      refine ⟨1, Ev.step (fun k => by rw [swarfref41_Valid.l1]) (Ev.pos (by omega) (Ev.pos (by omega) ?_))⟩
      rw [hb]
      exact Ev.bind Ev.some (Ev.neg (by decide) Ev.some)
theorem Valid_l0 (s : Bool) (l : List Wd) (c : ByteArray) (hl : l.length ≤ 16) (hc : c.size ≤ 9223372036854775807) : ∀ (n j : Nat), j + n = l.length → ∃ r, Ev (fun k => swarfref41_Valid.l0 k (j : Int) s l c) r ∧ (r = 0 → ∀ x ∈ l.drop j, (65 ≤ x.f0 ∧ x.f0 ≤ 90) ∧ -1000000000000 ≤ x.f1 ∧ x.f1 ≤ 1000000000000) := by
  intro n
  induction n with
  | zero =>
    intro j hj
    obtain ⟨r, h⟩ := Valid_l1 s l c hc c.size 0 (by omega)
    replace h : Ev (fun k => swarfref41_Valid.l1 k 0 s l c) r := h
    refine ⟨r, Ev.step (fun k => by rw [swarfref41_Valid.l0]) (Ev.neg (by omega) h), fun _ x hx => ?_⟩
    rw [List.drop_eq_nil_of_le (by omega)] at hx
    cases hx
  | succ n ih =>
    intro j hj
    obtain ⟨r, h0, h1⟩ := ih (j + 1) (by omega)
    rw [List.drop_eq_getElem_cons (show j < l.length by omega)]
    by_cases a1 : (l[j]'(by omega)).f0 < 65
    · exact ⟨1, Ev.step (fun k => by rw [swarfref41_Valid.l0]) (Ev.pos (by omega) (Ev.pos (by omega) (by rw [rd_T78_at (show j < l.length by omega)]; exact Ev.pos a1 Ev.some))), fun h => by cases h⟩
    by_cases a2 : (l[j]'(by omega)).f0 > 90
    · exact ⟨1, Ev.step (fun k => by rw [swarfref41_Valid.l0]) (Ev.pos (by omega) (Ev.pos (by omega) (by rw [rd_T78_at (show j < l.length by omega)]; exact Ev.neg a1 (Ev.pos a2 Ev.some)))), fun h => by cases h⟩
    by_cases a3 : (l[j]'(by omega)).f1 > 1000000000000
    · exact ⟨1, Ev.step (fun k => by rw [swarfref41_Valid.l0]) (Ev.pos (by omega) (Ev.pos (by omega) (by rw [rd_T78_at (show j < l.length by omega)]; exact Ev.neg a1 (Ev.neg a2 (Ev.pos a3 Ev.some))))), fun h => by cases h⟩
    by_cases a4 : (l[j]'(by omega)).f1 < -1000000000000
    · exact ⟨1, Ev.step (fun k => by rw [swarfref41_Valid.l0]) (Ev.pos (by omega) (Ev.pos (by omega) (by rw [rd_T78_at (show j < l.length by omega)]; exact Ev.neg a1 (Ev.neg a2 (Ev.neg a3 (Ev.pos a4 Ev.some)))))), fun h => by cases h⟩
    refine ⟨r, Ev.step (fun k => by rw [swarfref41_Valid.l0]) (Ev.pos (by omega) (Ev.pos (by omega) (by rw [rd_T78_at (show j < l.length by omega)]; exact Ev.neg a1 (Ev.neg a2 (Ev.neg a3 (Ev.neg a4 (by rw [wrapI (by omega)]; exact h0))))))), fun hr x hx => ?_⟩
    rcases List.mem_cons.mp hx with rfl | hx
    · omega
    exact h1 hr x hx
theorem Valid_ev (b : Bk) (hb : okBlock b) : ∃ r, Ev (fun k => swarfref41_Valid.f k b.f0 b.f1 b.f2) r ∧ (r = 0 → goodB b) := by
  have hc : b.f2.size ≤ 9223372036854775807 := by have := hb.2; unfold maxLen at this; omega
  have hj1 : ∀ c, c = true → ∃ r, Ev (fun k => swarfref41_Valid.j0 k c b.f0 b.f1 b.f2) r ∧ (r = 0 → goodB b) := fun c hc => ⟨1, Ev.step (fun k => by rw [swarfref41_Valid.j0]) (Ev.pos hc Ev.some), fun h => by cases h⟩
  unfold swarfref41_Valid.f
  by_cases h : (b.f1.length : Int) > 16
  · obtain ⟨r, h1, h2⟩ := hj1 true rfl
    exact ⟨r, Ev.pos h h1, h2⟩
  by_cases h2 : (b.f2.size : Int) > 100
  · obtain ⟨r, h3, h4⟩ := hj1 (decide ((b.f2.size : Int) > 100)) (decide_eq_true h2)
    exact ⟨r, Ev.neg h h3, h4⟩
  obtain ⟨r, h3, h4⟩ := Valid_l0 b.f0 b.f1 b.f2 (by omega) hc b.f1.length 0 (by omega)
  replace h3 : Ev (fun k => swarfref41_Valid.l0 k 0 b.f0 b.f1 b.f2) r := h3
  refine ⟨r, Ev.neg h (Ev.step (fun k => by rw [swarfref41_Valid.j0]) (Ev.neg (by simp; omega) h3)), fun hr => ⟨by omega, by simpa using h4 hr⟩⟩
theorem valid_l0 (l : List Bk) (hl : l.length ≤ 9223372036854775807) (hb : ∀ b ∈ l, okBlock b) : ∀ (n j : Nat), j + n = l.length → ∃ r, Ev (fun k => swarflaw43_valid.l0 k l (l.length : Int) (j : Int)) r ∧ (r = true → ∀ b ∈ l.drop j, goodB b) := by
  intro n
  induction n with
  | zero =>
    intro j hj
    refine ⟨true, Ev.step (fun k => by rw [swarflaw43_valid.l0]) (Ev.neg (by omega) Ev.some), fun _ x hx => ?_⟩
    rw [List.drop_eq_nil_of_le (by omega)] at hx
    cases hx
  | succ n ih =>
    intro j hj
    obtain ⟨r, h0, h1⟩ := ih (j + 1) (by omega)
    obtain ⟨v, h2, h3⟩ := Valid_ev _ (hb _ (List.getElem_mem (show j < l.length by omega)))
    rw [List.drop_eq_getElem_cons (show j < l.length by omega)]
    by_cases hv : v = 0
    · refine ⟨r, Ev.step (fun k => by rw [swarflaw43_valid.l0]) (Ev.pos (by omega) (Ev.pos (by omega) (Ev.pos (by omega) ?_))), fun hr x hx => ?_⟩
      · rw [rd_T32_at (show j < l.length by omega)]
        refine Ev.bind h2 (Ev.pos hv ?_)
        rw [wrapI (by omega)]
        exact h0
      rcases List.mem_cons.mp hx with rfl | hx
      · exact h3 hv
      exact h1 hr x hx
    refine ⟨false, Ev.step (fun k => by rw [swarflaw43_valid.l0]) (Ev.pos (by omega) (Ev.pos (by omega) (Ev.pos (by omega) ?_))), fun h => by cases h⟩
    rw [rd_T32_at (show j < l.length by omega)]
    exact Ev.bind h2 (Ev.neg hv Ev.some)
theorem valid_ev (l : List Bk) (n : Int) (hl : l.length ≤ 9223372036854775807) (hb : ∀ b ∈ l, okBlock b) : ∃ r, Ev (fun k => swarflaw43_valid.f k l n) r ∧ (r = true → (l.length : Int) ≤ n ∧ ∀ b ∈ l, goodB b) := by
  unfold swarflaw43_valid.f
  by_cases h : fewS l n = true
  · obtain ⟨r, h1, h2⟩ := valid_l0 l hl hb l.length 0 (by omega)
    refine ⟨r, Ev.bind (Few_ev l n hl) (Ev.pos h h1), fun hr => ⟨?_, by simpa using h2 hr⟩⟩
    unfold fewS at h
    rw [Bool.and_eq_true] at h
    exact of_decide_eq_true h.1
  exact ⟨false, Ev.bind (Few_ev l n hl) (Ev.neg h Ev.some), fun h => by cases h⟩
theorem goodB.words {b : Bk} (h : goodB b) : wordsW b.f1 := fun x hx => by have := h.2 x hx; omega
theorem goodB.len {b : Bk} (h : goodB b) : b.f1.length ≤ 1000000 := by have := h.1; omega
theorem goodB.i64 {b : Bk} (h : goodB b) : ∀ x ∈ b.f1, I64 x.f1 := fun x hx => by have := h.2 x hx; unfold I64; omega
theorem goodB.callO {b : Bk} (h : goodB b) : Ev (fun k => subprogram_Call.f k b.f0 b.f1 b.f2) (callS b.f1) := callO_ev _ _ _ h.len h.words
theorem goodB.callRef {b : Bk} (h : goodB b) : Ev (fun k => swarfref43_Call.f k b.f0 b.f1 b.f2) (callS b.f1) := callRef_ev _ _ _ h.len h.i64
end Go.Proofs.Ytehkhbnhmehobaa.P
namespace Go.Proofs.Ytehkhbnhmehobaa.P
open Go.RowKit Go.Proofs.YtehkhbnhmehobaaW.PrintWords Go.Proofs.YtehkhbnhmehobaaW.PrintLast Go.Proofs.YtehkhbnhmehobaaW.PrintMore
attribute [local go_sem] max2_int min2_int max_two min_two max_three min_three max_four min_four
set_option linter.unusedVariables false
set_option linter.unusedSimpArgs false
def subprogram_foldable.f (k : Nat) (a0_0 : Bool) (l0_1 : List (S78)) (a0_2 : ByteArray) : Option (Bool) := (subprogram_marked.f k a0_0 l0_1 a0_2).bind fun t399 => (if t399 = true then (some false) else ((block_Codes.f k a0_0 l0_1 a0_2 78).bind fun t400 => (if (t400.length : Int) = 0 then ((subprogram_has.f k a0_0 l0_1 a0_2 77 98000).bind fun t403 => (some (!t403))) else (some false))))
set_option maxHeartbeats 8000000 in
set_option maxRecDepth 100000 in
theorem subprogram_foldable.calls (k : Nat) (a0_0 : Bool) (A0_1 : Option Addr) (c0_1 : Nat) (l0_1 : List (S78)) (a0_2 : ByteArray) (r : Bool) (w : World) (hr0_1 : Kd.C k78 w A0_1 l0_1.length l0_1) (hc0_1 : l0_1.length ≤ c0_1) (h : subprogram_foldable.f k a0_0 l0_1 a0_2 = some r) :
  Calls Try.prog 96 #[.agg #[.bool a0_0, .slice A0_1 l0_1.length c0_1, .string a0_2]] w fun e w' => e = .returned (.bool r) ∧ Below w.heap.size w w' := by
 have hu32 := Try.underlying32
 have HR0_1 := Aside0.mk hr0_1
 have HC0_1 := Aside0.mk hc0_1
 clear hr0_1 hc0_1
 have HB := Aside0.mk (Below.refl w.heap.size w)
 have H : ((subprogram_marked.f k a0_0 l0_1 a0_2).bind fun t399 => (if t399 = true then (some false) else ((block_Codes.f k a0_0 l0_1 a0_2 78).bind fun t400 => (if (t400.length : Int) = 0 then ((subprogram_has.f k a0_0 l0_1 a0_2 77 98000).bind fun t403 => (some (!t403))) else (some false))))) = some r := h
 clear h
 replace H := Option.bind_eq_some_iff.mp H
 obtain ⟨t399, A20, H⟩ := H
 have A2 := Aside0.mk A20
 clear A20
 by_cases c3 : t399 = true
 ·subst c3
  rw [if_pos rfl] at H
  obtain rfl := Option.some.inj H
  go_enter Try.func96, Try.ntmps96
  go_wp2_with (first | ((with_reducible refine gate_dst (N := 1) rfl ?_); (try (refine gate_guard (by rfl) ?_; dsimp only)); refine yX 1 #[.bool a0_0, .slice A0_1 l0_1.length c0_1, .string a0_2] 32 ?_; intro gb398 hg w4 hbox hb; have BK398 := Aside0.mk (hbox); have GW398 := Aside0.mk ((yG hg : w.heap.size ≤ gb398)); have GE398 := Aside0.mk ((yG hg : w.heap.size ≤ gb398)); replace HB := Aside0.mk (below_step yB hb); clear hb hbox hg; have hcz5_0 := yZ0 BK398.out; have hcz5_1 := yZ1 BK398.out; have hcz5_2 := yZ2 BK398.out; have hfz5_0 := blk_frozen BK398.out 0; have hfz5_1 := blk_frozen BK398.out 1; have hfz5_2 := blk_frozen BK398.out 2) | ((with_reducible refine gate_callee (f := 100) rfl ?_); refine goesL_ (some 4) rfl rfl Try.func100 (by kernel_rfl) rfl #[.agg #[.bool a0_0, .slice A0_1 l0_1.length c0_1, .string a0_2]] rfl yQ ?_; (with_reducible refine (subprogram_marked.calls k a0_0 _ _ l0_1 a0_2 true _ ?side1 ?side2 A2.out).mono ?_); (case side1 => exact yC HR0_1.out); (case side2 => exact HC0_1.out); rintro e w6 ⟨rfl, hb⟩; refine ⟨_, rfl, ?_⟩; replace BK398 := Aside0.mk (blk_below (g := gb398) yK hb); replace HB := Aside0.mk (below_step yB hb); (try clear hb)))
  go_ret
  exact ⟨yE, yB⟩
 replace c3 := Bool.eq_false_iff.mpr c3
 subst c3
 replace H : ((block_Codes.f k a0_0 l0_1 a0_2 78).bind fun t400 => (if (t400.length : Int) = 0 then ((subprogram_has.f k a0_0 l0_1 a0_2 77 98000).bind fun t403 => (some (!t403))) else (some false))) = some r := by rw [if_neg (show ¬ (false = true) by decide)] at H; exact H
 replace H := Option.bind_eq_some_iff.mp H
 obtain ⟨t400, A70, H⟩ := H
 have A7 := Aside0.mk A70
 clear A70
 by_cases c8 : (t400.length : Int) = 0
 ·rw [if_pos c8] at H
  have c8b0 : ((t400.length : Int) == 0) = true := beq_iff_eq.mpr c8
  have c8b1 : ((t400.length : Int) != 0) = false := bne_eq_false_iff_eq.mpr c8
  clear c8
  replace H := Option.bind_eq_some_iff.mp H
  obtain ⟨t403, A90, H⟩ := H
  have A9 := Aside0.mk A90
  clear A90
  obtain rfl := Option.some.inj H
  go_enter Try.func96, Try.ntmps96
  go_wp2_with (first | ((with_reducible refine gate_dst (N := 1) rfl ?_); (try (refine gate_guard (by rfl) ?_; dsimp only)); refine yX 1 #[.bool a0_0, .slice A0_1 l0_1.length c0_1, .string a0_2] 32 ?_; intro gb398 hg w10 hbox hb; have BK398 := Aside0.mk (hbox); have GW398 := Aside0.mk ((yG hg : w.heap.size ≤ gb398)); have GE398 := Aside0.mk ((yG hg : w.heap.size ≤ gb398)); replace HB := Aside0.mk (below_step yB hb); clear hb hbox hg; have hcz11_0 := yZ0 BK398.out; have hcz11_1 := yZ1 BK398.out; have hcz11_2 := yZ2 BK398.out; have hfz11_0 := blk_frozen BK398.out 0; have hfz11_1 := blk_frozen BK398.out 1; have hfz11_2 := blk_frozen BK398.out 2) | ((with_reducible refine gate_callee (f := 100) rfl ?_); refine goesL_ (some 4) rfl rfl Try.func100 (by kernel_rfl) rfl #[.agg #[.bool a0_0, .slice A0_1 l0_1.length c0_1, .string a0_2]] rfl yQ ?_; (with_reducible refine (subprogram_marked.calls k a0_0 _ _ l0_1 a0_2 false _ ?side1 ?side2 A2.out).mono ?_); (case side1 => exact yC HR0_1.out); (case side2 => exact HC0_1.out); rintro e w12 ⟨rfl, hb⟩; refine ⟨_, rfl, ?_⟩; replace BK398 := Aside0.mk (blk_below (g := gb398) yK hb); replace HB := Aside0.mk (below_step yB hb); (try clear hb); have hcz13_0 := yZ0 BK398.out; have hcz13_1 := yZ1 BK398.out; have hcz13_2 := yZ2 BK398.out; have hfz13_0 := blk_frozen BK398.out 0; have hfz13_1 := blk_frozen BK398.out 1; have hfz13_2 := blk_frozen BK398.out 2) | (go_at_call 93; (with_reducible refine (block_Codes.calls k a0_0 _ _ l0_1 a0_2 78 t400 _ ?side1 ?side2 A7.out).mono ?_); (case side1 => exact yC HR0_1.out); (case side2 => exact HC0_1.out); rintro e w14 ⟨v401, rfl, ho0, hb⟩; have HO402 := Aside0.mk (Kd.R_lower ho0 (below_size yB)); replace BK398 := Aside0.mk (blk_below (g := gb398) yK hb); replace HB := Aside0.mk (below_step yB hb); (try clear hb); (try clear ho0); obtain ⟨Ao15, co15, eo15⟩ := Kd.R_slice HO402.out; subst eo15; have hcz16_0 := yZ0 BK398.out; have hcz16_1 := yZ1 BK398.out; have hcz16_2 := yZ2 BK398.out; have hfz16_0 := blk_frozen BK398.out 0; have hfz16_1 := blk_frozen BK398.out 1; have hfz16_2 := blk_frozen BK398.out 2) | (go_at_call 58; (with_reducible refine (subprogram_has.calls k a0_0 _ _ l0_1 a0_2 77 98000 t403 _ ?side1 ?side2 A9.out).mono ?_); (case side1 => exact yC HR0_1.out); (case side2 => exact HC0_1.out); rintro e w17 ⟨rfl, hb⟩; replace HO402 := Aside0.mk (Kd.R_below (yR HO402.out) hb); replace BK398 := Aside0.mk (blk_below (g := gb398) yK hb); replace HB := Aside0.mk (below_step yB hb); (try clear hb)))
  go_ret
  exact ⟨yE, yB⟩
 rw [if_neg c8] at H
 have c8b0 : ((t400.length : Int) == 0) = false := beq_eq_false_iff_ne.mpr c8
 have c8b1 : ((t400.length : Int) != 0) = true := bne_iff_ne.mpr c8
 have c8b2 : ¬ (t400 = []) := fun h_ => c8 (by rw [h_]; rfl)
 obtain rfl := Option.some.inj H
 go_enter Try.func96, Try.ntmps96
 go_wp2_with (first | ((with_reducible refine gate_dst (N := 1) rfl ?_); (try (refine gate_guard (by rfl) ?_; dsimp only)); refine yX 1 #[.bool a0_0, .slice A0_1 l0_1.length c0_1, .string a0_2] 32 ?_; intro gb398 hg w18 hbox hb; have BK398 := Aside0.mk (hbox); have GW398 := Aside0.mk ((yG hg : w.heap.size ≤ gb398)); have GE398 := Aside0.mk ((yG hg : w.heap.size ≤ gb398)); replace HB := Aside0.mk (below_step yB hb); clear hb hbox hg; have hcz19_0 := yZ0 BK398.out; have hcz19_1 := yZ1 BK398.out; have hcz19_2 := yZ2 BK398.out; have hfz19_0 := blk_frozen BK398.out 0; have hfz19_1 := blk_frozen BK398.out 1; have hfz19_2 := blk_frozen BK398.out 2) | ((with_reducible refine gate_callee (f := 100) rfl ?_); refine goesL_ (some 4) rfl rfl Try.func100 (by kernel_rfl) rfl #[.agg #[.bool a0_0, .slice A0_1 l0_1.length c0_1, .string a0_2]] rfl yQ ?_; (with_reducible refine (subprogram_marked.calls k a0_0 _ _ l0_1 a0_2 false _ ?side1 ?side2 A2.out).mono ?_); (case side1 => exact yC HR0_1.out); (case side2 => exact HC0_1.out); rintro e w20 ⟨rfl, hb⟩; refine ⟨_, rfl, ?_⟩; replace BK398 := Aside0.mk (blk_below (g := gb398) yK hb); replace HB := Aside0.mk (below_step yB hb); (try clear hb); have hcz21_0 := yZ0 BK398.out; have hcz21_1 := yZ1 BK398.out; have hcz21_2 := yZ2 BK398.out; have hfz21_0 := blk_frozen BK398.out 0; have hfz21_1 := blk_frozen BK398.out 1; have hfz21_2 := blk_frozen BK398.out 2) | (go_at_call 93; (with_reducible refine (block_Codes.calls k a0_0 _ _ l0_1 a0_2 78 t400 _ ?side1 ?side2 A7.out).mono ?_); (case side1 => exact yC HR0_1.out); (case side2 => exact HC0_1.out); rintro e w22 ⟨v401, rfl, ho0, hb⟩; have HO402 := Aside0.mk (Kd.R_lower ho0 (below_size yB)); replace BK398 := Aside0.mk (blk_below (g := gb398) yK hb); replace HB := Aside0.mk (below_step yB hb); (try clear hb); (try clear ho0); obtain ⟨Ao23, co23, eo23⟩ := Kd.R_slice HO402.out; subst eo23))
 go_ret
 exact ⟨yE, yB⟩
end Go.Proofs.Ytehkhbnhmehobaa.P
namespace Go.Proofs.Ytehkhbnhmehobaa.P
open Go.RowKit Go.Proofs.YtehkhbnhmehobaaW.PrintWords Go.Proofs.YtehkhbnhmehobaaW.PrintLast Go.Proofs.YtehkhbnhmehobaaW.PrintMore
attribute [local go_sem] max2_int min2_int max_two min_two max_three min_three max_four min_four
set_option linter.unusedVariables false
set_option linter.unusedSimpArgs false
attribute [local go_sem high] eqA25 eqA78
def api_Word_112.l0 : Nat → List (S78) → List (S78) → Int → Int → Option (Bool)
 | 0, _, _, _, _ => none
 | k + 1, x0, x1, x12, x13 => if x13 < x12 then (if 0 ≤ x13 then (if x13 < (x0.length : Int) then (if x13 < (x1.length : Int) then (if (!(((rd_T78 x0 x13).f0) == ((rd_T78 x1 x13).f0)) || (!(((rd_T78 x0 x13).f1) == ((rd_T78 x1 x13).f1)))) = true then (some false) else (api_Word_112.l0 k x0 x1 x12 (wrap64 (x13 + 1)))) else (none)) else (none)) else (none)) else (some true)
def api_Word_112.f (k : Nat) (l0 : List (S78)) (l1 : List (S78)) : Option (Bool) := if (l0.length : Int) = (l1.length : Int) then (api_Word_112.l0 k l0 l1 (l0.length : Int) 0) else (some false)
set_option maxHeartbeats 8000000 in
set_option maxRecDepth 100000 in
theorem api_Word_112.calls (k : Nat) (A0 : Option Addr) (c0 : Nat) (l0 : List (S78)) (A1 : Option Addr) (c1 : Nat) (l1 : List (S78)) (r : Bool) (w : World) (hr0 : Kd.C k78 w A0 l0.length l0) (hc0 : l0.length ≤ c0) (hr1 : Kd.C k78 w A1 l1.length l1) (hc1 : l1.length ≤ c1) (h : api_Word_112.f k l0 l1 = some r) :
  Calls Try.prog 112 #[.slice A0 l0.length c0, .slice A1 l1.length c1] w fun e w' => e = .returned (.bool r) ∧ Drawn0 w w' := by
 have hu78 := Try.underlying78
 have HR0 := Aside0.mk hr0
 have HC0 := Aside0.mk hc0
 clear hr0 hc0
 have HR1 := Aside0.mk hr1
 have HC1 := Aside0.mk hc1
 clear hr1 hc1
 have H : (if (l0.length : Int) = (l1.length : Int) then (api_Word_112.l0 k l0 l1 (l0.length : Int) 0) else (some false)) = some r := h
 clear h
 by_cases c3 : (l0.length : Int) = (l1.length : Int)
 ·rw [if_pos c3] at H
  have c3b0 : ((l0.length : Int) == (l1.length : Int)) = true := beq_iff_eq.mpr c3
  have c3b1 : ((l0.length : Int) != (l1.length : Int)) = false := bne_eq_false_iff_eq.mpr c3
  have c3b2 : (l0.length == l1.length) = true := by first | simpa using c3 | (simp at c3 ⊢; omega)
  clear c3
  have H' := Aside0.mk H
  clear H
  go_enter Try.func112, Try.ntmps112
  go_wp2
  repeat (go_quiet (fail); try go_wp2)
  go_loopg [13] k (fun kq v13 w' => ∃ (x13_1 : Int), v13 = .int .i64 x13_1 ∧ Aside0 (api_Word_112.l0 kq l0 l1 (l0.length : Int) x13_1 = some r) ∧ Aside0 (kq ≤ k) ∧ Drawn0 w w')
  case atStart => exact ⟨(0), yS, H', ⟨Nat.le_refl _⟩, by repeat (first | exact Drawn0.refl _ | apply Drawn0.step)⟩
  case round =>
   clear H'
   try clear c1
   try clear p2
   try clear c3
   try clear c3b0
   try clear c3b1
   try clear c3b2
   obtain ⟨x13_1, rfl, HA, HK1, ⟨m1, rfl⟩⟩ := hrel
   cases gk with
   | zero => exact absurd HA.out (by simp [api_Word_112.l0])
   | succ k1 =>
    have H := HA.out
    clear HA
    simp only [api_Word_112.l0] at H
    by_cases c4 : x13_1 < (l0.length : Int)
    ·rw [if_pos c4] at H
     have c4b0 := decide_eq_true c4
     clear c4
     by_cases c5 : 0 ≤ x13_1
     ·rw [if_pos c5] at H
      have c5b0 := decide_eq_true c5
      clear c5
      by_cases c6 : x13_1 < (l0.length : Int)
      ·rw [if_pos c6] at H
       have c6b0 := decide_eq_true c6
       clear c6
       by_cases c7 : x13_1 < (l1.length : Int)
       ·rw [if_pos c7] at H
        have c7b0 := decide_eq_true c7
        clear c7
        by_cases c8 : (!(((rd_T78 l0 x13_1).f0) == ((rd_T78 l1 x13_1).f0)) || (!(((rd_T78 l0 x13_1).f1) == ((rd_T78 l1 x13_1).f1)))) = true
        ·rw [if_pos c8] at H
         have c8b0 : (!(((rd_T78 l0 x13_1).f0) == ((rd_T78 l1 x13_1).f0)) || (!(((rd_T78 l0 x13_1).f1) == ((rd_T78 l1 x13_1).f1)))) = true := c8
         clear c8
         obtain rfl := Option.some.inj H
         have p404 : 0 ≤ (x13_1 : Int) := yD
         have q404 : x13_1 < (l0.length : Int) := yD
         obtain ⟨ad404, e404, hx404_0, hx404_1⟩ := at_T78 HR0.out x13_1 p404 q404
         cases e404
         replace p404 := eq_true p404
         replace q404 := eq_true q404
         have p405 : 0 ≤ (x13_1 : Int) := yD
         have q405 : x13_1 < (l1.length : Int) := yD
         obtain ⟨ad405, e405, hx405_0, hx405_1⟩ := at_T78 HR1.out x13_1 p405 q405
         cases e405
         replace p405 := eq_true p405
         replace q405 := eq_true q405
         go_wp2
         repeat (go_quiet (fail); try go_wp2)
         go_ret
         exact ⟨by first | rfl | (simp; done) | (simp [*]; done), by repeat (first | exact Drawn0.refl _ | apply Drawn0.step)⟩
        rw [if_neg c8] at H
        have c8b0 : (!(((rd_T78 l0 x13_1).f0) == ((rd_T78 l1 x13_1).f0)) || (!(((rd_T78 l0 x13_1).f1) == ((rd_T78 l1 x13_1).f1)))) = false := by simpa using c8
        clear c8
        have H' := Aside0.mk H
        clear H
        have p404 : 0 ≤ (x13_1 : Int) := yD
        have q404 : x13_1 < (l0.length : Int) := yD
        obtain ⟨ad404, e404, hx404_0, hx404_1⟩ := at_T78 HR0.out x13_1 p404 q404
        cases e404
        replace p404 := eq_true p404
        replace q404 := eq_true q404
        have p405 : 0 ≤ (x13_1 : Int) := yD
        have q405 : x13_1 < (l1.length : Int) := yD
        obtain ⟨ad405, e405, hx405_0, hx405_1⟩ := at_T78 HR1.out x13_1 p405 q405
        cases e405
        replace p405 := eq_true p405
        replace q405 := eq_true q405
        go_wp2
        repeat (go_quiet (fail); try go_wp2)
        go_roundg k1
        case measure => have := HK1.out; omega
        case rel => exact ⟨(wrap64 (x13_1 + 1)), yS, H', ⟨by have := HK1.out; omega⟩, by repeat (first | exact Drawn0.refl _ | apply Drawn0.step)⟩
       rw [if_neg c7] at H
       exact absurd H (by simp)
      rw [if_neg c6] at H
      exact absurd H (by simp)
     rw [if_neg c5] at H
     exact absurd H (by simp)
    rw [if_neg c4] at H
    have c4b0 := decide_eq_false c4
    clear c4
    obtain rfl := Option.some.inj H
    go_wp2
    repeat (go_quiet (fail); try go_wp2)
    go_ret
    exact ⟨by first | rfl | (simp; done) | (simp [*]; done), by repeat (first | exact Drawn0.refl _ | apply Drawn0.step)⟩
 rw [if_neg c3] at H
 have c3b0 : ((l0.length : Int) == (l1.length : Int)) = false := beq_eq_false_iff_ne.mpr c3
 have c3b1 : ((l0.length : Int) != (l1.length : Int)) = true := bne_iff_ne.mpr c3
 have c3b2 : (l0.length == l1.length) = false := by first | simpa using c3 | (simp at c3 ⊢; omega)
 obtain rfl := Option.some.inj H
 go_enter Try.func112, Try.ntmps112
 go_wp2
 repeat (go_quiet (fail); try go_wp2)
 go_ret
 exact ⟨by first | rfl | (simp; done) | (simp [*]; done), by repeat (first | exact Drawn0.refl _ | apply Drawn0.step)⟩
end Go.Proofs.Ytehkhbnhmehobaa.P
namespace Go.Proofs.Ytehkhbnhmehobaa.P
open Go.RowKit Go.Proofs.YtehkhbnhmehobaaW.PrintWords Go.Proofs.YtehkhbnhmehobaaW.PrintLast Go.Proofs.YtehkhbnhmehobaaW.PrintMore
attribute [local go_sem] max2_int min2_int max_two min_two max_three min_three max_four min_four
set_option linter.unusedVariables false
set_option linter.unusedSimpArgs false
def block_Equal.f (k : Nat) (a0_0 : Bool) (l0_1 : List (S78)) (a0_2 : ByteArray) (a1_0 : Bool) (l1_1 : List (S78)) (a1_2 : ByteArray) : Option (Bool) := if (a0_0 == a1_0) = true then (if a0_2.toList = a1_2.toList then ((api_Word_112.f k l0_1 l1_1).bind fun t408 => (some t408)) else (some false)) else (some false)
set_option maxHeartbeats 8000000 in
set_option maxRecDepth 100000 in
theorem block_Equal.calls (k : Nat) (a0_0 : Bool) (A0_1 : Option Addr) (c0_1 : Nat) (l0_1 : List (S78)) (a0_2 : ByteArray) (a1_0 : Bool) (A1_1 : Option Addr) (c1_1 : Nat) (l1_1 : List (S78)) (a1_2 : ByteArray) (r : Bool) (w : World) (hr0_1 : Kd.C k78 w A0_1 l0_1.length l0_1) (hc0_1 : l0_1.length ≤ c0_1) (hr1_1 : Kd.C k78 w A1_1 l1_1.length l1_1) (hc1_1 : l1_1.length ≤ c1_1) (h : block_Equal.f k a0_0 l0_1 a0_2 a1_0 l1_1 a1_2 = some r) :
  Calls Try.prog 97 #[.agg #[.bool a0_0, .slice A0_1 l0_1.length c0_1, .string a0_2], .agg #[.bool a1_0, .slice A1_1 l1_1.length c1_1, .string a1_2]] w fun e w' => e = .returned (.bool r) ∧ Below w.heap.size w w' := by
 have hu32 := Try.underlying32
 have HR0_1 := Aside0.mk hr0_1
 have HC0_1 := Aside0.mk hc0_1
 clear hr0_1 hc0_1
 have HR1_1 := Aside0.mk hr1_1
 have HC1_1 := Aside0.mk hc1_1
 clear hr1_1 hc1_1
 have HB := Aside0.mk (Below.refl w.heap.size w)
 have H : (if (a0_0 == a1_0) = true then (if a0_2.toList = a1_2.toList then ((api_Word_112.f k l0_1 l1_1).bind fun t408 => (some t408)) else (some false)) else (some false)) = some r := h
 clear h
 by_cases c3 : (a0_0 == a1_0) = true
 ·rw [if_pos c3] at H
  have c3b0 : (a0_0 == a1_0) = true := c3
  (try (have c3b1 : decide (a0_0 = a1_0) = true := by simpa using c3))
  (try (have c3b2 : (a0_0 == a1_0) = true := by simpa using c3))
  clear c3
  by_cases c4 : a0_2.toList = a1_2.toList
  ·rw [if_pos c4] at H
   have c4b0 : (a0_2.toList == a1_2.toList) = true := beq_iff_eq.mpr c4
   have c4b1 : (a0_2.toList != a1_2.toList) = false := bne_eq_false_iff_eq.mpr c4
   clear c4
   replace H := Option.bind_eq_some_iff.mp H
   obtain ⟨t408, A50, H⟩ := H
   have A5 := Aside0.mk A50
   clear A50
   obtain rfl := Option.some.inj H
   go_enter Try.func97, Try.ntmps97
   go_wp2_with (first | ((with_reducible refine gate_dst (N := 2) rfl ?_); refine yX 2 #[.bool a0_0, .slice A0_1 l0_1.length c0_1, .string a0_2] 32 ?_; intro gb406 hg w6 hbox hb; have BK406 := Aside0.mk (hbox); have GW406 := Aside0.mk ((yG hg : w.heap.size ≤ gb406)); have GE406 := Aside0.mk ((yG hg : w.heap.size ≤ gb406)); replace HB := Aside0.mk (below_step yB hb); clear hb hbox hg) | ((with_reducible refine gate_dst (N := 3) rfl ?_); refine yX 3 #[.bool a1_0, .slice A1_1 l1_1.length c1_1, .string a1_2] 32 ?_; intro gb407 hg w7 hbox hb; have BK407 := Aside0.mk (hbox); have GW407 := Aside0.mk ((yG hg : w.heap.size ≤ gb407)); have GE407 := Aside0.mk ((yG hg : w.heap.size ≤ gb407)); replace HB := Aside0.mk (below_step yB hb); have NB406_407 := Aside0.mk ((yJ hg yK : gb406 ≠ gb407)); have NB407_406 := Aside0.mk ((yI hg yK : gb407 ≠ gb406)); replace BK406 := Aside0.mk (blk_below (g := gb406) yK hb); clear hb hbox hg; have hnb8 := NB406_407.out; have hnc8 := NB407_406.out; have hcz9_0 := yZ0 BK406.out; have hcz9_1 := yZ1 BK406.out; have hcz9_2 := yZ2 BK406.out; have hfz9_0 := blk_frozen BK406.out 0; have hfz9_1 := blk_frozen BK406.out 1; have hfz9_2 := blk_frozen BK406.out 2; have hcz10_0 := yZ0 BK407.out; have hcz10_1 := yZ1 BK407.out; have hcz10_2 := yZ2 BK407.out; have hfz10_0 := blk_frozen BK407.out 0; have hfz10_1 := blk_frozen BK407.out 1; have hfz10_2 := blk_frozen BK407.out 2) | (go_at_call 112; (with_reducible refine (api_Word_112.calls k _ _ l0_1 _ _ l1_1 t408 _ ?side1 ?side2 ?side3 ?side4 A5.out).mono ?_); (case side1 => exact yC HR0_1.out); (case side2 => exact HC0_1.out); (case side3 => exact yC HR1_1.out); (case side4 => exact HC1_1.out); rintro e w' ⟨rfl, ⟨nd, rfl⟩⟩))
   go_ret
   exact ⟨yE, yB⟩
  rw [if_neg c4] at H
  have c4b0 : (a0_2.toList == a1_2.toList) = false := beq_eq_false_iff_ne.mpr c4
  have c4b1 : (a0_2.toList != a1_2.toList) = true := bne_iff_ne.mpr c4
  obtain rfl := Option.some.inj H
  go_enter Try.func97, Try.ntmps97
  go_wp2_with (first | ((with_reducible refine gate_dst (N := 2) rfl ?_); refine yX 2 #[.bool a0_0, .slice A0_1 l0_1.length c0_1, .string a0_2] 32 ?_; intro gb406 hg w11 hbox hb; have BK406 := Aside0.mk (hbox); have GW406 := Aside0.mk ((yG hg : w.heap.size ≤ gb406)); have GE406 := Aside0.mk ((yG hg : w.heap.size ≤ gb406)); replace HB := Aside0.mk (below_step yB hb); clear hb hbox hg) | ((with_reducible refine gate_dst (N := 3) rfl ?_); refine yX 3 #[.bool a1_0, .slice A1_1 l1_1.length c1_1, .string a1_2] 32 ?_; intro gb407 hg w12 hbox hb; have BK407 := Aside0.mk (hbox); have GW407 := Aside0.mk ((yG hg : w.heap.size ≤ gb407)); have GE407 := Aside0.mk ((yG hg : w.heap.size ≤ gb407)); replace HB := Aside0.mk (below_step yB hb); have NB406_407 := Aside0.mk ((yJ hg yK : gb406 ≠ gb407)); have NB407_406 := Aside0.mk ((yI hg yK : gb407 ≠ gb406)); replace BK406 := Aside0.mk (blk_below (g := gb406) yK hb); clear hb hbox hg; have hnb13 := NB406_407.out; have hnc13 := NB407_406.out; have hcz14_0 := yZ0 BK406.out; have hcz14_1 := yZ1 BK406.out; have hcz14_2 := yZ2 BK406.out; have hfz14_0 := blk_frozen BK406.out 0; have hfz14_1 := blk_frozen BK406.out 1; have hfz14_2 := blk_frozen BK406.out 2; have hcz15_0 := yZ0 BK407.out; have hcz15_1 := yZ1 BK407.out; have hcz15_2 := yZ2 BK407.out; have hfz15_0 := blk_frozen BK407.out 0; have hfz15_1 := blk_frozen BK407.out 1; have hfz15_2 := blk_frozen BK407.out 2))
  go_ret
  exact ⟨yE, yB⟩
 rw [if_neg c3] at H
 have c3b0 : (a0_0 == a1_0) = false := by simpa using c3
 (try (have c3b1 : decide (a0_0 = a1_0) = false := by simpa using c3))
 (try (have c3b2 : (a0_0 == a1_0) = false := by simpa using c3))
 (try (have c3b3 : ¬ (a0_0 = a1_0) := by simpa using c3))
 clear c3
 obtain rfl := Option.some.inj H
 go_enter Try.func97, Try.ntmps97
 go_wp2_with (first | ((with_reducible refine gate_dst (N := 2) rfl ?_); refine yX 2 #[.bool a0_0, .slice A0_1 l0_1.length c0_1, .string a0_2] 32 ?_; intro gb406 hg w16 hbox hb; have BK406 := Aside0.mk (hbox); have GW406 := Aside0.mk ((yG hg : w.heap.size ≤ gb406)); have GE406 := Aside0.mk ((yG hg : w.heap.size ≤ gb406)); replace HB := Aside0.mk (below_step yB hb); clear hb hbox hg) | ((with_reducible refine gate_dst (N := 3) rfl ?_); refine yX 3 #[.bool a1_0, .slice A1_1 l1_1.length c1_1, .string a1_2] 32 ?_; intro gb407 hg w17 hbox hb; have BK407 := Aside0.mk (hbox); have GW407 := Aside0.mk ((yG hg : w.heap.size ≤ gb407)); have GE407 := Aside0.mk ((yG hg : w.heap.size ≤ gb407)); replace HB := Aside0.mk (below_step yB hb); have NB406_407 := Aside0.mk ((yJ hg yK : gb406 ≠ gb407)); have NB407_406 := Aside0.mk ((yI hg yK : gb407 ≠ gb406)); replace BK406 := Aside0.mk (blk_below (g := gb406) yK hb); clear hb hbox hg; have hnb18 := NB406_407.out; have hnc18 := NB407_406.out; have hcz19_0 := yZ0 BK406.out; have hcz19_1 := yZ1 BK406.out; have hcz19_2 := yZ2 BK406.out; have hfz19_0 := blk_frozen BK406.out 0; have hfz19_1 := blk_frozen BK406.out 1; have hfz19_2 := blk_frozen BK406.out 2; have hcz20_0 := yZ0 BK407.out; have hcz20_1 := yZ1 BK407.out; have hcz20_2 := yZ2 BK407.out; have hfz20_0 := blk_frozen BK407.out 0; have hfz20_1 := blk_frozen BK407.out 1; have hfz20_2 := blk_frozen BK407.out 2))
 go_ret
 exact ⟨yE, yB⟩
def subprogram_run.l0 : Nat → List (S32) → Int → Int → Int → Int → Option (Bool)
 | 0, _, _, _, _, _ => none
 | k + 1, x0, x1, x2, x10, x11 => if x11 < x10 then (if 0 ≤ (wrap64 (x1 + x11)) then (if (wrap64 (x1 + x11)) < (x0.length : Int) then ((subprogram_foldable.f k ((rd_T32 x0 (wrap64 (x1 + x11))).f0) ((rd_T32 x0 (wrap64 (x1 + x11))).f1) ((rd_T32 x0 (wrap64 (x1 + x11))).f2)).bind fun t410 => (if t410 = true then (if 0 ≤ (wrap64 (x2 + x11)) then (if (wrap64 (x2 + x11)) < (x0.length : Int) then ((block_Equal.f k ((rd_T32 x0 (wrap64 (x1 + x11))).f0) ((rd_T32 x0 (wrap64 (x1 + x11))).f1) ((rd_T32 x0 (wrap64 (x1 + x11))).f2) ((rd_T32 x0 (wrap64 (x2 + x11))).f0) ((rd_T32 x0 (wrap64 (x2 + x11))).f1) ((rd_T32 x0 (wrap64 (x2 + x11))).f2)).bind fun t413 => (if t413 = true then (subprogram_run.l0 k x0 x1 x2 x10 (wrap64 (x11 + 1))) else (some false))) else (none)) else (none)) else (some false))) else (none)) else (none)) else (some true)
def subprogram_run.f (k : Nat) (l0 : List (S32)) (a1 : Int) (a2 : Int) (a3 : Int) : Option (Bool) := subprogram_run.l0 k l0 a1 a2 a3 0
def subprogram_run.T4 : Bool × List (List Nat × List Nat) := (true, [([], []), ([], []), ([], []), ([1, 2], [1, 2]), ([0, 3], [0, 3]), ([4], [4]), ([5], [5]), ([6], [6]), ([7, 6], [7]), ([8], [8]), ([8], [8]), ([8], [8]), ([10, 11, 8], [8, 10, 11]), ([9, 12, 8], [8, 9, 12]), ([13, 8], [8, 13]), ([8], [8]), ([8], [8]), ([8], [8]), ([16, 17, 8], [8, 16, 17]), ([15, 18, 8], [8, 15, 18]), ([19, 8], [8, 19]), ([14, 20, 8, 8], [8, 14, 20]), ([21, 8], [8, 21]), ([8, 22], [8, 22])])
def subprogram_run.B4 : List Nat := [0, 0, 0, 6, 15, 31, 63, 127, 255, 511, 511, 511, 3583, 8191, 16383, 511, 511, 511, 197119, 492031, 1016319, 2097151, 4194303, 8388607]
theorem subprogram_run.tab4 : rtab .any (opsOf Try.f68 4) = subprogram_run.T4 := by kernel_rfl
theorem subprogram_run.bits4 : waitsOk subprogram_run.T4.2 subprogram_run.B4 = true := by kernel_rfl
set_option maxHeartbeats 8000000 in
set_option maxRecDepth 100000 in
theorem subprogram_run.calls (k : Nat) (A0 : Option Addr) (c0 : Nat) (l0 : List (S32)) (a1 : Int) (a2 : Int) (a3 : Int) (r : Bool) (w : World) (hr0 : Kd.C k32 w A0 l0.length l0) (hc0 : l0.length ≤ c0) (h : subprogram_run.f k l0 a1 a2 a3 = some r) :
  Calls Try.prog 68 #[.slice A0 l0.length c0, .int .i64 a1, .int .i64 a2, .int .i64 a3] w fun e w' => e = .returned (.bool r) ∧ Below w.heap.size w w' := by
 have hu32 := Try.underlying32
 have HR0 := Aside0.mk hr0
 have HC0 := Aside0.mk hc0
 clear hr0 hc0
 have HB := Aside0.mk (Below.refl w.heap.size w)
 have H : (subprogram_run.l0 k l0 a1 a2 a3 0) = some r := h
 clear h
 have H' := Aside0.mk H
 clear H
 go_enter Try.func68, Try.ntmps68
 go_wp2
 go_loopg [11] k (fun kq v11 w' => ∃ (x11_1 : Int), v11 = .int .i64 x11_1 ∧ Aside0 (subprogram_run.l0 kq l0 a1 a2 a3 x11_1 = some r) ∧ Aside0 (kq ≤ k) ∧ Aside0 (Below w.heap.size w w'))
 case atStart => exact ⟨(0), yS, H', ⟨Nat.le_refl _⟩, ⟨yB⟩⟩
 case round =>
  clear H'
  try clear p2
  obtain ⟨x11_1, rfl, HA, HK1, HB⟩ := hrel
  cases gk with
  | zero => exact absurd HA.out (by simp [subprogram_run.l0])
  | succ k1 =>
   have H := HA.out
   clear HA
   simp only [subprogram_run.l0] at H
   by_cases c5 : x11_1 < a3
   ·rw [if_pos c5] at H
    have c5b0 := decide_eq_true c5
    clear c5
    obtain ⟨ji6, hji6⟩ : ∃ j_ : Int, (wrap64 (a1 + x11_1)) = j_ := ⟨_, rfl⟩
    replace H : (if 0 ≤ (ji6) then (if (ji6) < (l0.length : Int) then ((subprogram_foldable.f k1 ((rd_T32 l0 (ji6)).f0) ((rd_T32 l0 (ji6)).f1) ((rd_T32 l0 (ji6)).f2)).bind fun t410 => (if t410 = true then (if 0 ≤ (wrap64 (a2 + x11_1)) then (if (wrap64 (a2 + x11_1)) < (l0.length : Int) then ((block_Equal.f k1 ((rd_T32 l0 (ji6)).f0) ((rd_T32 l0 (ji6)).f1) ((rd_T32 l0 (ji6)).f2) ((rd_T32 l0 (wrap64 (a2 + x11_1))).f0) ((rd_T32 l0 (wrap64 (a2 + x11_1))).f1) ((rd_T32 l0 (wrap64 (a2 + x11_1))).f2)).bind fun t413 => (if t413 = true then (subprogram_run.l0 k1 l0 a1 a2 a3 (wrap64 (x11_1 + 1))) else (some false))) else (none)) else (none)) else (some false))) else (none)) else (none)) = some r := by first | (rw [hji6] at H; exact H) | (simp only [hji6] at H ⊢; exact H)
    have hji6w : (IntKind.i64.wrap (a1 + x11_1)) = ji6 := (i64_w _).trans hji6
    by_cases c7 : 0 ≤ (ji6)
    ·rw [if_pos c7] at H
     have c7b0 := decide_eq_true c7
     clear c7
     by_cases c8 : (ji6) < (l0.length : Int)
     ·rw [if_pos c8] at H
      have c8b0 := decide_eq_true c8
      clear c8
      replace H := Option.bind_eq_some_iff.mp H
      obtain ⟨t410, A90, H⟩ := H
      have A9 := Aside0.mk A90
      clear A90
      by_cases c10 : t410 = true
      ·subst c10
       rw [if_pos rfl] at H
       obtain ⟨ji11, hji11⟩ : ∃ j_ : Int, (wrap64 (a2 + x11_1)) = j_ := ⟨_, rfl⟩
       replace H : (if 0 ≤ (ji11) then (if (ji11) < (l0.length : Int) then ((block_Equal.f k1 ((rd_T32 l0 (ji6)).f0) ((rd_T32 l0 (ji6)).f1) ((rd_T32 l0 (ji6)).f2) ((rd_T32 l0 (ji11)).f0) ((rd_T32 l0 (ji11)).f1) ((rd_T32 l0 (ji11)).f2)).bind fun t413 => (if t413 = true then (subprogram_run.l0 k1 l0 a1 a2 a3 (wrap64 (x11_1 + 1))) else (some false))) else (none)) else (none)) = some r := by first | (rw [hji11] at H; exact H) | (simp only [hji11] at H ⊢; exact H)
       (try rw [hji11] at A9)
       have hji11w : (IntKind.i64.wrap (a2 + x11_1)) = ji11 := (i64_w _).trans hji11
       by_cases c12 : 0 ≤ (ji11)
       ·rw [if_pos c12] at H
        have c12b0 := decide_eq_true c12
        clear c12
        by_cases c13 : (ji11) < (l0.length : Int)
        ·rw [if_pos c13] at H
         have c13b0 := decide_eq_true c13
         clear c13
         replace H := Option.bind_eq_some_iff.mp H
         obtain ⟨t413, A140, H⟩ := H
         have A14 := Aside0.mk A140
         clear A140
         by_cases c15 : t413 = true
         ·subst c15
          rw [if_pos rfl] at H
          have H' := Aside0.mk H
          clear H
          try go_wp2
          replace HB := Aside0.mk (below_drew1 HB.out)
          have p409 : 0 ≤ ((ji6) : Int) := yD
          have q409 : (ji6) < (l0.length : Int) := yD
          obtain ⟨ad409, A409_1, c409_1, e409, hx409_0, hx409_1, hx409_2, hl409_1, hi409_1⟩ := at_T32 HR0.out (ji6) p409 q409
          have hw409_2 := hx409_2
          have hw409_1 := hx409_1
          have hw409_0 := hx409_0
          cases e409
          replace hx409_0 := yM HB.out hx409_0
          replace hx409_1 := yM HB.out hx409_1
          replace hx409_2 := yM HB.out hx409_2
          have HR409_1 := Aside0.mk hi409_1
          have HC409_1 := Aside0.mk hl409_1
          clear hi409_1 hl409_1
          replace p409 := eq_true p409
          replace q409 := eq_true q409
          have p411 : 0 ≤ ((ji6) : Int) := yD
          have q411 : (ji6) < (l0.length : Int) := yD
          obtain ⟨ad411, A411_1, c411_1, e411, hx411_0, hx411_1, hx411_2, hl411_1, hi411_1⟩ := at_T32 HR0.out (ji6) p411 q411
          have hw411_2 := hx411_2
          have hw411_1 := hx411_1
          have hw411_0 := hx411_0
          obtain rfl : ad409 = ad411 := (by injection e411)
          first | have HQA411_1 := Aside0.mk (show A411_1 = A409_1 from by first | (have e_ := Option.some.inj (hw409_1.symm.trans hw411_1); injection e_ with e1_ e2_ e3_; exact e1_.symm) | (have e_ := Option.some.inj (hx409_1.symm.trans hx411_1); injection e_ with e1_ e2_ e3_; exact e1_.symm)) | skip
          first | have HQc411_1 := Aside0.mk (show c411_1 = c409_1 from by first | (have e_ := Option.some.inj (hw409_1.symm.trans hw411_1); injection e_ with e1_ e2_ e3_; exact e3_.symm) | (have e_ := Option.some.inj (hx409_1.symm.trans hx411_1); injection e_ with e1_ e2_ e3_; exact e3_.symm)) | skip
          replace hx411_0 := yM HB.out hx411_0
          replace hx411_1 := yM HB.out hx411_1
          replace hx411_2 := yM HB.out hx411_2
          have HR411_1 := Aside0.mk hi411_1
          have HC411_1 := Aside0.mk hl411_1
          clear hi411_1 hl411_1
          replace p411 := eq_true p411
          replace q411 := eq_true q411
          have p412 : 0 ≤ ((ji11) : Int) := yD
          have q412 : (ji11) < (l0.length : Int) := yD
          obtain ⟨ad412, A412_1, c412_1, e412, hx412_0, hx412_1, hx412_2, hl412_1, hi412_1⟩ := at_T32 HR0.out (ji11) p412 q412
          have hw412_2 := hx412_2
          have hw412_1 := hx412_1
          have hw412_0 := hx412_0
          obtain rfl : ad409 = ad412 := (by injection e412)
          replace hx412_0 := yM HB.out hx412_0
          replace hx412_1 := yM HB.out hx412_1
          replace hx412_2 := yM HB.out hx412_2
          have HR412_1 := Aside0.mk hi412_1
          have HC412_1 := Aside0.mk hl412_1
          clear hi412_1 hl412_1
          replace p412 := eq_true p412
          replace q412 := eq_true q412
          refine start_ (n := 24) (S := fun w' => w'.cell? (ad409.add (((ji6)).toNat * 3)) = some (.bool ((rd_T32 l0 (ji6)).f0)) ∧ w'.cell? ⟨(ad409.add (((ji6)).toNat * 3)).block, (ad409.add (((ji6)).toNat * 3)).off + 1, none⟩ = some (.slice A409_1 ((rd_T32 l0 (ji6)).f1).length c409_1) ∧ w'.cell? ⟨(ad409.add (((ji6)).toNat * 3)).block, (ad409.add (((ji6)).toNat * 3)).off + 2, none⟩ = some (.string ((rd_T32 l0 (ji6)).f2)) ∧ w'.cell? (ad409.add (((ji6)).toNat * 3)) = some (.bool ((rd_T32 l0 (ji6)).f0)) ∧ w'.cell? ⟨(ad409.add (((ji6)).toNat * 3)).block, (ad409.add (((ji6)).toNat * 3)).off + 1, none⟩ = some (.slice A411_1 ((rd_T32 l0 (ji6)).f1).length c411_1) ∧ w'.cell? ⟨(ad409.add (((ji6)).toNat * 3)).block, (ad409.add (((ji6)).toNat * 3)).off + 2, none⟩ = some (.string ((rd_T32 l0 (ji6)).f2)) ∧ w'.cell? (ad409.add (((ji11)).toNat * 3)) = some (.bool ((rd_T32 l0 (ji11)).f0)) ∧ w'.cell? ⟨(ad409.add (((ji11)).toNat * 3)).block, (ad409.add (((ji11)).toNat * 3)).off + 1, none⟩ = some (.slice A412_1 ((rd_T32 l0 (ji11)).f1).length c412_1) ∧ w'.cell? ⟨(ad409.add (((ji11)).toNat * 3)).block, (ad409.add (((ji11)).toNat * 3)).off + 2, none⟩ = some (.string ((rd_T32 l0 (ji11)).f2))) (ds := []) #[false, false, false, false, false, false, false, false, false, false, false, false, false, false, false, false, false, false, false, false, false, false, false, false] (by kernel_rfl) rfl rfl ⟨(yM HB.out hw409_0), (yM HB.out hw409_1), (yM HB.out hw409_2), (yM HB.out hw411_0), (yM HB.out hw411_1), (yM HB.out hw411_2), (yM HB.out hw412_0), (yM HB.out hw412_1), (yM HB.out hw412_2)⟩ (fun hHeld => ?_); refine with_tabW subprogram_run.tab4 subprogram_run.bits4 (fun HT_ HW_ => ?_)
          generalize wr.drew = w16 at HB HR409_1 HR411_1 HR412_1 hx409_0 hx409_1 hx409_2 hx411_0 hx411_1 hx411_2 hx412_0 hx412_1 hx412_2 hHeld ⊢
          refine yp 0 14 ?_
          refine yp 1 15 ?_
          refine yp 2 16 ?_
          refine yp 3 17 ?_
          refine yp 4 18 ?_
          refine yt 5 19 hHeld ?_
          refine yo 6 (some 20) (fun K hK => ?_)
          refine goes_ Try.func96 (by kernel_rfl) rfl #[.agg #[.bool ((rd_T32 l0 (ji6)).f0), .slice A409_1 ((rd_T32 l0 (ji6)).f1).length c409_1, .string ((rd_T32 l0 (ji6)).f2)]] (by rfl) rfl rfl (by (try simp only [List.map_toArray, List.map_cons, List.map_nil]); first | done | (simp only [hji6]; rfl) | rfl | (simp only [List.length_drop, List.length_take]; rfl) | (simp only [HQA411_1.out, HQc411_1.out]; rfl) | (simp only [HQA411_1.out, HQc411_1.out, hji6]; rfl)) ?_
          with_reducible refine (subprogram_foldable.calls k1 ((rd_T32 l0 (ji6)).f0) _ _ ((rd_T32 l0 (ji6)).f1) ((rd_T32 l0 (ji6)).f2) true _ ?side1 ?side2 A9.out).mono ?_
          (case side1 => exact yC HR409_1.out)
          (case side2 => exact HC409_1.out)
          rintro e w17 ⟨rfl, hb⟩
          refine ⟨_, rfl, ?_⟩
          replace HB := Aside0.mk (below_step yB hb)
          (try clear hb)
          refine hK.out _ _ ⟨(yM HB.out hw409_0), (yM HB.out hw409_1), (yM HB.out hw409_2), (yM HB.out hw411_0), (yM HB.out hw411_1), (yM HB.out hw411_2), (yM HB.out hw412_0), (yM HB.out hw412_1), (yM HB.out hw412_2)⟩ (fun hHeld => ?_)
          clear hK K
          refine yn 20 ?_
          refine yp 7 21 ?_
          refine yp 8 22 ?_
          refine yp 9 23 ?_
          refine yp 10 24 ?_
          refine yp 11 25 ?_
          refine yp 12 26 ?_
          refine yp 13 27 ?_
          refine yp 15 29 ?_
          refine yp 16 30 ?_
          refine yp 17 31 ?_
          refine yp 18 32 ?_
          refine yp 19 33 ?_
          refine yt 14 28 hHeld ?_
          refine yt 20 34 hHeld ?_
          refine yo 21 (some 35) (fun K hK => ?_)
          refine goes_ Try.func97 (by kernel_rfl) rfl #[.agg #[.bool ((rd_T32 l0 (ji6)).f0), .slice A411_1 ((rd_T32 l0 (ji6)).f1).length c411_1, .string ((rd_T32 l0 (ji6)).f2)], .agg #[.bool ((rd_T32 l0 (ji11)).f0), .slice A412_1 ((rd_T32 l0 (ji11)).f1).length c412_1, .string ((rd_T32 l0 (ji11)).f2)]] (by rfl) rfl rfl (by (try simp only [List.map_toArray, List.map_cons, List.map_nil]); first | done | (simp only [hji11, hji6]; rfl) | rfl | (simp only [List.length_drop, List.length_take]; rfl) | (simp only [HQA411_1.out, HQc411_1.out]; rfl) | (simp only [HQA411_1.out, HQc411_1.out, hji11, hji6]; rfl)) ?_
          with_reducible refine (block_Equal.calls k1 ((rd_T32 l0 (ji6)).f0) _ _ ((rd_T32 l0 (ji6)).f1) ((rd_T32 l0 (ji6)).f2) ((rd_T32 l0 (ji11)).f0) _ _ ((rd_T32 l0 (ji11)).f1) ((rd_T32 l0 (ji11)).f2) true _ ?side1 ?side2 ?side3 ?side4 A14.out).mono ?_
          (case side1 => exact yC HR411_1.out)
          (case side2 => exact HC411_1.out)
          (case side3 => exact yC HR412_1.out)
          (case side4 => exact HC412_1.out)
          rintro e w18 ⟨rfl, hb⟩
          refine ⟨_, rfl, ?_⟩
          replace HB := Aside0.mk (below_step yB hb)
          (try clear hb)
          refine hK.out _ _ ⟨(yM HB.out hw409_0), (yM HB.out hw409_1), (yM HB.out hw409_2), (yM HB.out hw411_0), (yM HB.out hw411_1), (yM HB.out hw411_2), (yM HB.out hw412_0), (yM HB.out hw412_1), (yM HB.out hw412_2)⟩ (fun hHeld => ?_)
          clear hK K
          refine yn 35 ?_
          refine yp 22 36 ?_
          refine yp 23 37 ?_
          refine done_ (done_of HT_.out (by kernel_rfl)) ?_
          try go_wp2
          go_roundg k1
          case measure => have := HK1.out; omega
          case rel => exact ⟨(wrap64 (x11_1 + 1)), yS, H', ⟨by have := HK1.out; omega⟩, ⟨yB⟩⟩
         replace c15 := Bool.eq_false_iff.mpr c15
         subst c15
         replace H : (some false) = some r := by rw [if_neg (show ¬ (false = true) by decide)] at H; exact H
         obtain rfl := Option.some.inj H
         try go_wp2
         replace HB := Aside0.mk (below_drew1 HB.out)
         have p409 : 0 ≤ ((ji6) : Int) := yD
         have q409 : (ji6) < (l0.length : Int) := yD
         obtain ⟨ad409, A409_1, c409_1, e409, hx409_0, hx409_1, hx409_2, hl409_1, hi409_1⟩ := at_T32 HR0.out (ji6) p409 q409
         have hw409_2 := hx409_2
         have hw409_1 := hx409_1
         have hw409_0 := hx409_0
         cases e409
         replace hx409_0 := yM HB.out hx409_0
         replace hx409_1 := yM HB.out hx409_1
         replace hx409_2 := yM HB.out hx409_2
         have HR409_1 := Aside0.mk hi409_1
         have HC409_1 := Aside0.mk hl409_1
         clear hi409_1 hl409_1
         replace p409 := eq_true p409
         replace q409 := eq_true q409
         have p411 : 0 ≤ ((ji6) : Int) := yD
         have q411 : (ji6) < (l0.length : Int) := yD
         obtain ⟨ad411, A411_1, c411_1, e411, hx411_0, hx411_1, hx411_2, hl411_1, hi411_1⟩ := at_T32 HR0.out (ji6) p411 q411
         have hw411_2 := hx411_2
         have hw411_1 := hx411_1
         have hw411_0 := hx411_0
         obtain rfl : ad409 = ad411 := (by injection e411)
         first | have HQA411_1 := Aside0.mk (show A411_1 = A409_1 from by first | (have e_ := Option.some.inj (hw409_1.symm.trans hw411_1); injection e_ with e1_ e2_ e3_; exact e1_.symm) | (have e_ := Option.some.inj (hx409_1.symm.trans hx411_1); injection e_ with e1_ e2_ e3_; exact e1_.symm)) | skip
         first | have HQc411_1 := Aside0.mk (show c411_1 = c409_1 from by first | (have e_ := Option.some.inj (hw409_1.symm.trans hw411_1); injection e_ with e1_ e2_ e3_; exact e3_.symm) | (have e_ := Option.some.inj (hx409_1.symm.trans hx411_1); injection e_ with e1_ e2_ e3_; exact e3_.symm)) | skip
         replace hx411_0 := yM HB.out hx411_0
         replace hx411_1 := yM HB.out hx411_1
         replace hx411_2 := yM HB.out hx411_2
         have HR411_1 := Aside0.mk hi411_1
         have HC411_1 := Aside0.mk hl411_1
         clear hi411_1 hl411_1
         replace p411 := eq_true p411
         replace q411 := eq_true q411
         have p412 : 0 ≤ ((ji11) : Int) := yD
         have q412 : (ji11) < (l0.length : Int) := yD
         obtain ⟨ad412, A412_1, c412_1, e412, hx412_0, hx412_1, hx412_2, hl412_1, hi412_1⟩ := at_T32 HR0.out (ji11) p412 q412
         have hw412_2 := hx412_2
         have hw412_1 := hx412_1
         have hw412_0 := hx412_0
         obtain rfl : ad409 = ad412 := (by injection e412)
         replace hx412_0 := yM HB.out hx412_0
         replace hx412_1 := yM HB.out hx412_1
         replace hx412_2 := yM HB.out hx412_2
         have HR412_1 := Aside0.mk hi412_1
         have HC412_1 := Aside0.mk hl412_1
         clear hi412_1 hl412_1
         replace p412 := eq_true p412
         replace q412 := eq_true q412
         refine start_ (n := 24) (S := fun w' => w'.cell? (ad409.add (((ji6)).toNat * 3)) = some (.bool ((rd_T32 l0 (ji6)).f0)) ∧ w'.cell? ⟨(ad409.add (((ji6)).toNat * 3)).block, (ad409.add (((ji6)).toNat * 3)).off + 1, none⟩ = some (.slice A409_1 ((rd_T32 l0 (ji6)).f1).length c409_1) ∧ w'.cell? ⟨(ad409.add (((ji6)).toNat * 3)).block, (ad409.add (((ji6)).toNat * 3)).off + 2, none⟩ = some (.string ((rd_T32 l0 (ji6)).f2)) ∧ w'.cell? (ad409.add (((ji6)).toNat * 3)) = some (.bool ((rd_T32 l0 (ji6)).f0)) ∧ w'.cell? ⟨(ad409.add (((ji6)).toNat * 3)).block, (ad409.add (((ji6)).toNat * 3)).off + 1, none⟩ = some (.slice A411_1 ((rd_T32 l0 (ji6)).f1).length c411_1) ∧ w'.cell? ⟨(ad409.add (((ji6)).toNat * 3)).block, (ad409.add (((ji6)).toNat * 3)).off + 2, none⟩ = some (.string ((rd_T32 l0 (ji6)).f2)) ∧ w'.cell? (ad409.add (((ji11)).toNat * 3)) = some (.bool ((rd_T32 l0 (ji11)).f0)) ∧ w'.cell? ⟨(ad409.add (((ji11)).toNat * 3)).block, (ad409.add (((ji11)).toNat * 3)).off + 1, none⟩ = some (.slice A412_1 ((rd_T32 l0 (ji11)).f1).length c412_1) ∧ w'.cell? ⟨(ad409.add (((ji11)).toNat * 3)).block, (ad409.add (((ji11)).toNat * 3)).off + 2, none⟩ = some (.string ((rd_T32 l0 (ji11)).f2))) (ds := []) #[false, false, false, false, false, false, false, false, false, false, false, false, false, false, false, false, false, false, false, false, false, false, false, false] (by kernel_rfl) rfl rfl ⟨(yM HB.out hw409_0), (yM HB.out hw409_1), (yM HB.out hw409_2), (yM HB.out hw411_0), (yM HB.out hw411_1), (yM HB.out hw411_2), (yM HB.out hw412_0), (yM HB.out hw412_1), (yM HB.out hw412_2)⟩ (fun hHeld => ?_); refine with_tabW subprogram_run.tab4 subprogram_run.bits4 (fun HT_ HW_ => ?_)
         generalize wr.drew = w19 at HB HR409_1 HR411_1 HR412_1 hx409_0 hx409_1 hx409_2 hx411_0 hx411_1 hx411_2 hx412_0 hx412_1 hx412_2 hHeld ⊢
         refine yp 0 14 ?_
         refine yp 1 15 ?_
         refine yp 2 16 ?_
         refine yp 3 17 ?_
         refine yp 4 18 ?_
         refine yt 5 19 hHeld ?_
         refine yo 6 (some 20) (fun K hK => ?_)
         refine goes_ Try.func96 (by kernel_rfl) rfl #[.agg #[.bool ((rd_T32 l0 (ji6)).f0), .slice A409_1 ((rd_T32 l0 (ji6)).f1).length c409_1, .string ((rd_T32 l0 (ji6)).f2)]] (by rfl) rfl rfl (by (try simp only [List.map_toArray, List.map_cons, List.map_nil]); first | done | (simp only [hji6]; rfl) | rfl | (simp only [List.length_drop, List.length_take]; rfl) | (simp only [HQA411_1.out, HQc411_1.out]; rfl) | (simp only [HQA411_1.out, HQc411_1.out, hji6]; rfl)) ?_
         with_reducible refine (subprogram_foldable.calls k1 ((rd_T32 l0 (ji6)).f0) _ _ ((rd_T32 l0 (ji6)).f1) ((rd_T32 l0 (ji6)).f2) true _ ?side1 ?side2 A9.out).mono ?_
         (case side1 => exact yC HR409_1.out)
         (case side2 => exact HC409_1.out)
         rintro e w20 ⟨rfl, hb⟩
         refine ⟨_, rfl, ?_⟩
         replace HB := Aside0.mk (below_step yB hb)
         (try clear hb)
         refine hK.out _ _ ⟨(yM HB.out hw409_0), (yM HB.out hw409_1), (yM HB.out hw409_2), (yM HB.out hw411_0), (yM HB.out hw411_1), (yM HB.out hw411_2), (yM HB.out hw412_0), (yM HB.out hw412_1), (yM HB.out hw412_2)⟩ (fun hHeld => ?_)
         clear hK K
         refine yn 20 ?_
         refine yp 7 21 ?_
         refine yp 8 22 ?_
         refine yp 9 23 ?_
         refine yp 10 24 ?_
         refine yp 11 25 ?_
         refine yp 12 26 ?_
         refine yp 13 27 ?_
         refine yp 15 29 ?_
         refine yp 16 30 ?_
         refine yp 17 31 ?_
         refine yp 18 32 ?_
         refine yp 19 33 ?_
         refine yt 14 28 hHeld ?_
         refine yt 20 34 hHeld ?_
         refine yo 21 (some 35) (fun K hK => ?_)
         refine goes_ Try.func97 (by kernel_rfl) rfl #[.agg #[.bool ((rd_T32 l0 (ji6)).f0), .slice A411_1 ((rd_T32 l0 (ji6)).f1).length c411_1, .string ((rd_T32 l0 (ji6)).f2)], .agg #[.bool ((rd_T32 l0 (ji11)).f0), .slice A412_1 ((rd_T32 l0 (ji11)).f1).length c412_1, .string ((rd_T32 l0 (ji11)).f2)]] (by rfl) rfl rfl (by (try simp only [List.map_toArray, List.map_cons, List.map_nil]); first | done | (simp only [hji11, hji6]; rfl) | rfl | (simp only [List.length_drop, List.length_take]; rfl) | (simp only [HQA411_1.out, HQc411_1.out]; rfl) | (simp only [HQA411_1.out, HQc411_1.out, hji11, hji6]; rfl)) ?_
         with_reducible refine (block_Equal.calls k1 ((rd_T32 l0 (ji6)).f0) _ _ ((rd_T32 l0 (ji6)).f1) ((rd_T32 l0 (ji6)).f2) ((rd_T32 l0 (ji11)).f0) _ _ ((rd_T32 l0 (ji11)).f1) ((rd_T32 l0 (ji11)).f2) false _ ?side1 ?side2 ?side3 ?side4 A14.out).mono ?_
         (case side1 => exact yC HR411_1.out)
         (case side2 => exact HC411_1.out)
         (case side3 => exact yC HR412_1.out)
         (case side4 => exact HC412_1.out)
         rintro e w21 ⟨rfl, hb⟩
         refine ⟨_, rfl, ?_⟩
         replace HB := Aside0.mk (below_step yB hb)
         (try clear hb)
         refine hK.out _ _ ⟨(yM HB.out hw409_0), (yM HB.out hw409_1), (yM HB.out hw409_2), (yM HB.out hw411_0), (yM HB.out hw411_1), (yM HB.out hw411_2), (yM HB.out hw412_0), (yM HB.out hw412_1), (yM HB.out hw412_2)⟩ (fun hHeld => ?_)
         clear hK K
         refine yn 35 ?_
         refine yp 22 36 ?_
         refine yp 23 37 ?_
         refine done_ (done_of HT_.out (by kernel_rfl)) ?_
         try go_wp2
         go_ret
         exact ⟨by first | rfl | (simp [errW_none, errW_some] <;> rfl) | (simp only [← hji6, ← hji11]; first | rfl | (simp [errW_none, errW_some] <;> rfl)) | (simp [*, errW_none, errW_some] <;> rfl), yB⟩
        rw [if_neg c13] at H
        exact absurd H (by simp)
       rw [if_neg c12] at H
       exact absurd H (by simp)
      replace c10 := Bool.eq_false_iff.mpr c10
      subst c10
      replace H : (some false) = some r := by rw [if_neg (show ¬ (false = true) by decide)] at H; exact H
      obtain rfl := Option.some.inj H
      try go_wp2
      replace HB := Aside0.mk (below_drew1 HB.out)
      have p409 : 0 ≤ ((ji6) : Int) := yD
      have q409 : (ji6) < (l0.length : Int) := yD
      obtain ⟨ad409, A409_1, c409_1, e409, hx409_0, hx409_1, hx409_2, hl409_1, hi409_1⟩ := at_T32 HR0.out (ji6) p409 q409
      have hw409_2 := hx409_2
      have hw409_1 := hx409_1
      have hw409_0 := hx409_0
      cases e409
      replace hx409_0 := yM HB.out hx409_0
      replace hx409_1 := yM HB.out hx409_1
      replace hx409_2 := yM HB.out hx409_2
      have HR409_1 := Aside0.mk hi409_1
      have HC409_1 := Aside0.mk hl409_1
      clear hi409_1 hl409_1
      replace p409 := eq_true p409
      replace q409 := eq_true q409
      refine start_ (n := 24) (S := fun w' => w'.cell? (ad409.add (((ji6)).toNat * 3)) = some (.bool ((rd_T32 l0 (ji6)).f0)) ∧ w'.cell? ⟨(ad409.add (((ji6)).toNat * 3)).block, (ad409.add (((ji6)).toNat * 3)).off + 1, none⟩ = some (.slice A409_1 ((rd_T32 l0 (ji6)).f1).length c409_1) ∧ w'.cell? ⟨(ad409.add (((ji6)).toNat * 3)).block, (ad409.add (((ji6)).toNat * 3)).off + 2, none⟩ = some (.string ((rd_T32 l0 (ji6)).f2))) (ds := []) #[false, false, false, false, false, false, false, false, false, false, false, false, false, false, false, false, false, false, false, false, false, false, false, false] (by kernel_rfl) rfl rfl ⟨(yM HB.out hw409_0), (yM HB.out hw409_1), (yM HB.out hw409_2)⟩ (fun hHeld => ?_); refine with_tabW subprogram_run.tab4 subprogram_run.bits4 (fun HT_ HW_ => ?_)
      generalize wr.drew = w22 at HB HR409_1 hx409_0 hx409_1 hx409_2 hHeld ⊢
      refine yp 0 14 ?_
      refine yp 1 15 ?_
      refine yp 2 16 ?_
      refine yp 3 17 ?_
      refine yp 4 18 ?_
      refine yt 5 19 hHeld ?_
      refine yo 6 (some 20) (fun K hK => ?_)
      refine goes_ Try.func96 (by kernel_rfl) rfl #[.agg #[.bool ((rd_T32 l0 (ji6)).f0), .slice A409_1 ((rd_T32 l0 (ji6)).f1).length c409_1, .string ((rd_T32 l0 (ji6)).f2)]] (by rfl) rfl rfl (by (try simp only [List.map_toArray, List.map_cons, List.map_nil]); first | done | (simp only [hji6]; rfl) | rfl | (simp only [List.length_drop, List.length_take]; rfl)) ?_
      with_reducible refine (subprogram_foldable.calls k1 ((rd_T32 l0 (ji6)).f0) _ _ ((rd_T32 l0 (ji6)).f1) ((rd_T32 l0 (ji6)).f2) false _ ?side1 ?side2 A9.out).mono ?_
      (case side1 => exact yC HR409_1.out)
      (case side2 => exact HC409_1.out)
      rintro e w23 ⟨rfl, hb⟩
      refine ⟨_, rfl, ?_⟩
      replace HB := Aside0.mk (below_step yB hb)
      (try clear hb)
      refine hK.out _ _ ⟨(yM HB.out hw409_0), (yM HB.out hw409_1), (yM HB.out hw409_2)⟩ (fun hHeld => ?_)
      clear hK K
      refine yn 20 ?_
      refine yp 7 21 ?_
      refine yp 8 22 ?_
      refine yu 9 23 ?_
      refine yu 10 24 ?_
      refine yu 11 25 ?_
      refine yu 12 26 ?_
      refine yu 13 27 ?_
      refine yu 14 28 ?_
      refine yu 15 29 ?_
      refine yu 16 30 ?_
      refine yu 17 31 ?_
      refine yu 18 32 ?_
      refine yu 19 33 ?_
      refine yu 20 34 ?_
      refine yu 21 35 ?_
      refine yu 22 36 ?_
      refine yp 23 37 ?_
      refine done_ (done_of HT_.out (by kernel_rfl)) ?_
      try go_wp2
      go_ret
      exact ⟨by first | rfl | (simp [errW_none, errW_some] <;> rfl) | (simp only [← hji6]; first | rfl | (simp [errW_none, errW_some] <;> rfl)) | (simp [*, errW_none, errW_some] <;> rfl), yB⟩
     rw [if_neg c8] at H
     exact absurd H (by simp)
    rw [if_neg c7] at H
    exact absurd H (by simp)
   rw [if_neg c5] at H
   have c5b0 := decide_eq_false c5
   clear c5
   obtain rfl := Option.some.inj H
   go_wp2
   go_ret
   exact ⟨yE, yB⟩
mutual
def subprogram_first.l0 : Nat → List (S32) → Int → Int → Option (Int)
 | 0, _, _, _ => none
 | k + 1, x0, x1, x5 => if (wrap64 (x5 + x1)) ≤ (wrap64 ((x0.length : Int) - x1)) then (subprogram_first.l1 k x0 x1 x5 (wrap64 (x5 + x1))) else (some (-1))
def subprogram_first.l1 : Nat → List (S32) → Int → Int → Int → Option (Int)
 | 0, _, _, _, _ => none
 | k + 1, x0, x1, x5, x6 => if (wrap64 (x6 + x1)) ≤ (x0.length : Int) then ((subprogram_run.f k x0 x5 x6 x1).bind fun t414 => (if t414 = true then (some x5) else (subprogram_first.l1 k x0 x1 x5 (wrap64 (x6 + 1))))) else (subprogram_first.l0 k x0 x1 (wrap64 (x5 + 1)))
end
def subprogram_first.f (k : Nat) (l0 : List (S32)) (a1 : Int) : Option (Int) := subprogram_first.l0 k l0 a1 0
set_option maxHeartbeats 8000000 in
set_option maxRecDepth 100000 in
theorem subprogram_first.calls (k : Nat) (A0 : Option Addr) (c0 : Nat) (l0 : List (S32)) (a1 : Int) (r : Int) (w : World) (hr0 : Kd.C k32 w A0 l0.length l0) (hc0 : l0.length ≤ c0) (h : subprogram_first.f k l0 a1 = some r) :
  Calls Try.prog 67 #[.slice A0 l0.length c0, .int .i64 a1] w fun e w' => e = .returned (.int .i64 r) ∧ Below w.heap.size w w' := by
 have HR0 := Aside0.mk hr0
 have HC0 := Aside0.mk hc0
 clear hr0 hc0
 have HB := Aside0.mk (Below.refl w.heap.size w)
 have H : (subprogram_first.l0 k l0 a1 0) = some r := h
 clear h
 have H' := Aside0.mk H
 clear H
 go_enter Try.func67, Try.ntmps67
 go_wp2
 go_loopg [5] k (fun kq v5 w' => ∃ (x5_1 : Int), v5 = .int .i64 x5_1 ∧ Aside0 (subprogram_first.l0 kq l0 a1 x5_1 = some r) ∧ Aside0 (kq ≤ k) ∧ Aside0 (Below w.heap.size w w'))
 case atStart => exact ⟨(0), yS, H', ⟨Nat.le_refl _⟩, ⟨yB⟩⟩
 case round =>
  clear H'
  try clear p2
  obtain ⟨x5_1, rfl, HA, HK1, HB⟩ := hrel
  cases gk with
  | zero => exact absurd HA.out (by simp [subprogram_first.l0])
  | succ k1 =>
   have H := HA.out
   clear HA
   simp only [subprogram_first.l0] at H
   by_cases c3 : (wrap64 (x5_1 + a1)) ≤ (wrap64 ((l0.length : Int) - a1))
   ·rw [if_pos c3] at H
    have c3b0 := decide_eq_true c3
    clear c3
    have H' := Aside0.mk H
    clear H
    go_wp2
    go_loopg [6] k1 (fun kq v6 w' => ∃ (x6_2 : Int), v6 = .int .i64 x6_2 ∧ Aside0 (subprogram_first.l1 kq l0 a1 x5_1 x6_2 = some r) ∧ Aside0 (kq ≤ k1) ∧ Aside0 (Below w.heap.size w w'))
    case atStart => exact ⟨(wrap64 (x5_1 + a1)), yS, H', ⟨Nat.le_refl _⟩, ⟨yB⟩⟩
    case round =>
     clear H'
     try clear p2
     try clear c3
     try clear c3b0
     try clear p2
     obtain ⟨x6_2, rfl, HA, HK2, HB⟩ := hrel
     cases gk with
     | zero => exact absurd HA.out (by simp [subprogram_first.l1])
     | succ k2 =>
      have H := HA.out
      clear HA
      simp only [subprogram_first.l1] at H
      by_cases c4 : (wrap64 (x6_2 + a1)) ≤ (l0.length : Int)
      ·rw [if_pos c4] at H
       have c4b0 := decide_eq_true c4
       clear c4
       replace H := Option.bind_eq_some_iff.mp H
       obtain ⟨t414, A50, H⟩ := H
       have A5 := Aside0.mk A50
       clear A50
       by_cases c6 : t414 = true
       ·subst c6
        rw [if_pos rfl] at H
        obtain rfl := Option.some.inj H
        go_wp2_with (first | ((with_reducible refine gate_callee (f := 68) rfl ?_); refine goesL_ (some 32) rfl rfl Try.func68 (by kernel_rfl) rfl #[.slice A0 l0.length c0, .int .i64 x5_1, .int .i64 x6_2, .int .i64 a1] rfl yQ ?_; (with_reducible refine (subprogram_run.calls k2 _ _ l0 x5_1 x6_2 a1 true _ ?side1 ?side2 A5.out).mono ?_); (case side1 => exact yC HR0.out); (case side2 => exact HC0.out); rintro e w7 ⟨rfl, hb⟩; refine ⟨_, rfl, ?_⟩; replace HB := Aside0.mk (below_step yB hb); (try clear hb)))
        go_ret
        exact ⟨yE, yB⟩
       replace c6 := Bool.eq_false_iff.mpr c6
       subst c6
       replace H : (subprogram_first.l1 k2 l0 a1 x5_1 (wrap64 (x6_2 + 1))) = some r := by rw [if_neg (show ¬ (false = true) by decide)] at H; exact H
       have H' := Aside0.mk H
       clear H
       go_wp2_with (first | ((with_reducible refine gate_callee (f := 68) rfl ?_); refine goesL_ (some 32) rfl rfl Try.func68 (by kernel_rfl) rfl #[.slice A0 l0.length c0, .int .i64 x5_1, .int .i64 x6_2, .int .i64 a1] rfl yQ ?_; (with_reducible refine (subprogram_run.calls k2 _ _ l0 x5_1 x6_2 a1 false _ ?side1 ?side2 A5.out).mono ?_); (case side1 => exact yC HR0.out); (case side2 => exact HC0.out); rintro e w8 ⟨rfl, hb⟩; refine ⟨_, rfl, ?_⟩; replace HB := Aside0.mk (below_step yB hb); (try clear hb)))
       go_roundg k2
       case measure => have := HK1.out; have := HK2.out; omega
       case rel => exact ⟨(wrap64 (x6_2 + 1)), yS, H', ⟨by have := HK1.out; have := HK2.out; omega⟩, ⟨yB⟩⟩
      rw [if_neg c4] at H
      have c4b0 := decide_eq_false c4
      clear c4
      have H' := Aside0.mk H
      clear H
      go_wp2
      go_roundg k2
      case measure => have := HK1.out; have := HK2.out; omega
      case rel => exact ⟨(wrap64 (x5_1 + 1)), yS, H', ⟨by have := HK1.out; have := HK2.out; omega⟩, ⟨yB⟩⟩
   rw [if_neg c3] at H
   have c3b0 := decide_eq_false c3
   clear c3
   obtain rfl := Option.some.inj H
   go_wp2
   go_ret
   exact ⟨yE, yB⟩
end Go.Proofs.Ytehkhbnhmehobaa.P
