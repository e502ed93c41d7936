/- A part of the proof of ModalLine. -/
import Derived.Maps.OwnSet
import Derived.Maps.OwnOps
import Derived.Maps.Views
import Derived.StillTailTactics
import Derived.Test.YtehkhbnhmehobaaCModalLine1
namespace Go.Proofs.Ytehkhbnhmehobaa.P
open Go.RowKit Go.Proofs.YtehkhbnhmehobaaW.PrintWords Go.Proofs.YtehkhbnhmehobaaW.PrintLast Go.Proofs.YtehkhbnhmehobaaW.PrintMore
open Go.Maps (Keyed)
set_option linter.unusedVariables false
def rawR (v : Value) : Option (DataW Value × List MemPlace) := some (.held v, [])
def MapIs (P : Program) (k : TypeId) (q : IntKind) (w : World) (b n : Nat) (f : Int → Option Value) : Prop :=
  ∃ D : DataW Value, w.ownsMap P k rawR b n D ∧ ∀ a : Int, Maps.has D (.int q a) = (f a).isSome ∧ ∀ z, D.atKey (.int q a) (.held z) = .held ((f a).getD z)
section
variable {P : Program} {k : TypeId} {q : IntKind} {w w1 : World} {b n : Nat} {f : Int → Option Value}
theorem MapIs.made (P : Program) (k : TypeId) (q : IntKind) (w : World) : MapIs P k q (w.alloc (.map #[] 0)) w.heap.size 0 (fun _ => none) :=
  ⟨.map [], World.ownsMap_made w P k rawR, fun a => ⟨rfl, fun z => rfl⟩⟩
theorem MapIs.lt (h : MapIs P k q w b n f) : b < w.heap.size := by
  obtain ⟨D, h, _⟩ := h
  exact h.lt
theorem MapIs.kept {row : Option Nat} (h : MapIs P k q w b n f) (hg : w.grownBy w1 row) (hne : some b ≠ row) : MapIs P k q w1 b n f := by
  obtain ⟨D, h, hf⟩ := h
  exact ⟨D, h.kept hg hne, hf⟩
theorem MapIs.same (h : MapIs P k q w b n f) (hb : w1.heap[b]? = w.heap[b]?) : MapIs P k q w1 b n f := by
  obtain ⟨D, ⟨es, clock, hb0, r⟩, hf⟩ := h
  exact ⟨D, ⟨es, clock, hb.trans hb0, r⟩, hf⟩
theorem MapIs.below (h : MapIs P k q w b n f) (hb : Below w.heap.size w w1) : MapIs P k q w1 b n f := h.same (hb.block b h.lt)
theorem MapIs.alloc (h : MapIs P k q w b n f) (o : Obj) : MapIs P k q (w.alloc o) b n f := h.below (below_alloc (Below.refl _ _) o)
theorem MapIs.drew (h : MapIs P k q w b n f) : MapIs P k q w.drew b n f := h
theorem MapIs.drewN (h : MapIs P k q w b n f) (m : Nat) : MapIs P k q (w.drewN m) b n f := h.same rfl
theorem MapIs.setCell (h : MapIs P k q w b n f) {p : Addr} (hp : b ≠ p.block) (u : Value) : MapIs P k q (w.setCell p u) b n f := h.same (Below.heap_setCell w p u b hp)
theorem MapIs.congr {f' : Int → Option Value} (h : MapIs P k q w b n f) (hf : ∀ x, f x = f' x) : MapIs P k q w b n f' := by
  obtain rfl : f = f' := funext hf
  exact h
theorem MapIs.mono (h : MapIs P k q w b n f) {m : Nat} (hm : n ≤ m) : MapIs P k q w b m f := by
  obtain ⟨D, h, hf⟩ := h
  exact ⟨D, h.mono hm, hf⟩
theorem MapIs.look {t e : TypeId} (h : MapIs P k q w b n f) (hk : P.underlying k = some (.int q)) (ht : P.underlying t = some (.map k e)) {z : Value} (hz : (zeroValue e).run P w = .ok z w) {a : Int} (ha : (Lit.int q a).wf = true) :
    (Instr.lookup t (.map (some b)) (.int q a) false).run P w = .ok ((f a).getD z) w := by
  obtain ⟨D, h, hf⟩ := h
  obtain ⟨v, ps, hrun, hv⟩ := h.lookup (Maps.int_keyed hk) ht hz (R := rawR) rfl (Maps.keyOf_int_mk hk ha)
  rw [(hf a).2 z] at hv
  simp only [rawR, Option.some.injEq, Prod.mk.injEq, DataW.held.injEq] at hv
  rw [hrun, hv.1]
theorem MapIs.put {t e : TypeId} (h : MapIs P k q w b n f) (hk : P.underlying k = some (.int q)) (ht : P.underlying t = some (.map k e)) (hn : n < maxLen) {a : Int} (ha : (Lit.int q a).wf = true) (v : Value) :
    ∃ w1, (Instr.mapUpdate t (.map (some b)) (.int q a) v).run P w = .ok () w1 ∧ MapIs P k q w1 b (n + 1) (fun x => if x = a then some v else f x) ∧ w.grownBy w1 (some b) := by
  obtain ⟨D, h, hf⟩ := h
  have hm := h.isMap
  obtain ⟨w1, hrun, h1, hg⟩ := h.update (Maps.int_keyed hk) ht hn (R := rawR) (Maps.keyOf_int_mk hk ha) (val := v) rfl
  refine ⟨w1, hrun, ⟨_, h1, fun x => ?_⟩, hg⟩
  show Maps.has _ _ = (if x = a then some v else f x).isSome ∧ ∀ z, DataW.atKey _ _ _ = .held ((if x = a then some v else f x).getD z)
  by_cases hx : x = a
  · subst hx
    rw [if_pos rfl]
    exact ⟨Maps.has_put_same hm (show WideAt.IsKeyLit (.int q x) from trivial) _, fun z => Maps.atKey_put_same hm (show WideAt.IsKeyLit (.int q x) from trivial) _ _⟩
  · rw [if_neg hx]
    have hne : Lit.int q x ≠ Lit.int q a := fun e => hx (by injection e)
    exact ⟨(Maps.has_put_other hne _).trans (hf x).1, fun z => (Maps.atKey_put_other hne _ _).trans ((hf x).2 z)⟩
end
section
variable {P : Program} {ops : Array Oper} {rest : List Oper} {o : Oper} {a : Act} {Q : Exit → Act → World → Prop} {W : World} {k e t : TypeId} {q : IntKind} {b n : Nat} {f : Int → Option Value}
theorem map_look (N : Tmp) (hd : o.dst = some N) (hg : o.guard = none) {m x : Operand} (hop : o.op = Op.lookup t m x false) (hk : P.underlying k = some (.int q)) (ht : P.underlying t = some (.map k e)) {z : Value} (hz : ∀ w, (zeroValue e).run P w = .ok z w)
    (h : MapIs P k q W b n f) (hm : a.eval m = .map (some b)) (y : Int) (hx : a.eval x = .int q y) (hy : (Lit.int q y).wf = true) (v : Value) (hv : (f y).getD z = v) (hK : wpList P ops Q rest (a.put (some N) v) W) : wpList P ops Q (o :: rest) a W := by
  subst hv
  refine wpList_plain hg fun K' hK' => ?_
  have hrun := h.look hk ht (hz W) hy
  unfold Oper.wp
  simp [execOp, hop, hm, hx, hrun, Result.andThen]
  rw [← hd] at hK
  exact hK' _ _ hK
theorem map_put (hg : o.guard = none) {m x y : Operand} (hop : o.op = Op.mapUpdate t m x y) (hk : P.underlying k = some (.int q)) (ht : P.underlying t = some (.map k e))
    (h : MapIs P k q W b n f) (hn : n < maxLen) (hm : a.eval m = .map (some b)) (i : Int) (hx : a.eval x = .int q i) (hi : (Lit.int q i).wf = true) (v : Value) (hv : a.eval y = v)
    (hK : ∀ w1, MapIs P k q w1 b (n + 1) (fun x => if x = i then some v else f x) → W.grownBy w1 (some b) → wpList P ops Q rest (a.put o.dst undef) w1) : wpList P ops Q (o :: rest) a W := by
  refine wpList_plain hg fun K' hK' => ?_
  obtain ⟨w1, hrun, h1, h2⟩ := h.put hk ht hn hi v
  unfold Oper.wp
  simp [execOp, hop, hm, hx, hv, hrun, Result.andThen]
  exact hK' _ _ (hK w1 h1 h2)
theorem map_make (N : Tmp) (hd : o.dst = some N) (hg : o.guard = none) (q : IntKind) (k : TypeId) (hop : o.op = Op.makeMap t none)
    (hK : ∀ gm w1, gm = W.heap.size → MapIs P k q w1 gm 0 (fun _ => none) → Below W.heap.size W w1 → wpList P ops Q rest (a.put (some N) (.map (some gm))) w1) : wpList P ops Q (o :: rest) a W := by
  refine wpList_plain hg fun K' hK' => ?_
  unfold Oper.wp
  simp [execOp, hop, run_makeMap, Result.andThen]
  rw [← hd] at hK
  exact hK' _ _ (hK _ _ rfl (MapIs.made P k q W) (below_alloc (Below.refl _ _) _))
end
end Go.Proofs.Ytehkhbnhmehobaa.P
namespace Go.Proofs.Ytehkhbnhmehobaa.P
open Go.RowKit Go.Proofs.YtehkhbnhmehobaaW.PrintWords Go.Proofs.YtehkhbnhmehobaaW.PrintLast Go.Proofs.YtehkhbnhmehobaaW.PrintMore
set_option linter.unusedVariables false
def chkS : List S78 → (Int → Bool) → (Int → Bool) → Int
  | [], _, _ => 0
  | x :: l, L, G =>
    if x.f0 = 71 then (if groupS x.f1 = 0 then 1 else if G (groupS x.f1) = true then 1 else chkS l L (fun y => if y = groupS x.f1 then true else G y))
    else if x.f0 = 70 ∧ x.f1 < 0 then 1
    else if (x.f0 = 84 ∨ x.f0 = 72) ∧ (x.f1 < 0 ∨ ¬ Int.tmod x.f1 1000 = 0) then 1
    else if L x.f0 = true then 1 else chkS l (fun y => if y = x.f0 then true else L y) G
def seenF (L : Int → Bool) (x : Int) : Option Value := if L x = true then some (.bool true) else none
theorem seenF_get (L : Int → Bool) (x : Int) : (seenF L x).getD (.bool false) = .bool (L x) := by unfold seenF; cases L x <;> rfl
theorem seenF_put (L : Int → Bool) (i x : Int) : (if x = i then some (Value.bool true) else seenF L x) = seenF (fun y => if y = i then true else L y) x := by
  unfold seenF
  by_cases h : x = i <;> simp [h]
theorem zero_bool (w : World) : (zeroValue 4).run Try.prog w = .ok (.bool false) w := by kernel_rfl
theorem chk_drop {l : List S78} {j : Nat} (h : j < l.length) (L G : Int → Bool) : chkS (l.drop j) L G = chkS (l[j] :: l.drop (j + 1)) L G := by rw [← List.drop_eq_getElem_cons h]
def bytesW (l : List S78) : Prop := ∀ x ∈ l, 0 ≤ x.f0 ∧ x.f0 ≤ 255
instance (l : List S78) : Decidable (bytesW l) := by unfold bytesW; infer_instance
def modal_Check.f (a0_0 : Bool) (l0_1 : List (S78)) (a0_2 : ByteArray) : Option (Int) := if bytesW l0_1 then some (chkS l0_1 (fun _ => false) (fun _ => false)) else none
theorem chk_G0 {l : List S78} {j : Nat} (h : j < l.length) {L G : Int → Bool} {r : Int} (hr : chkS (l.drop j) L G = r) (hL : l[j].f0 = 71) (hg : groupS l[j].f1 = 0) : r = 1 := by
  rw [chk_drop h, chkS, if_pos hL, if_pos hg] at hr; exact hr.symm
theorem chk_G1 {l : List S78} {j : Nat} (h : j < l.length) {L G : Int → Bool} {r : Int} (hr : chkS (l.drop j) L G = r) (hL : l[j].f0 = 71) (hg : ¬ groupS l[j].f1 = 0) (hG : G (groupS l[j].f1) = true) : r = 1 := by
  rw [chk_drop h, chkS, if_pos hL, if_neg hg, if_pos hG] at hr; exact hr.symm
theorem chk_G2 {l : List S78} {j : Nat} (h : j < l.length) {L G : Int → Bool} {r : Int} (hr : chkS (l.drop j) L G = r) (hL : l[j].f0 = 71) (hg : ¬ groupS l[j].f1 = 0) (hG : ¬ G (groupS l[j].f1) = true) : chkS (l.drop (j + 1)) L (fun y => if y = groupS l[j].f1 then true else G y) = r := by
  rw [chk_drop h, chkS, if_pos hL, if_neg hg, if_neg hG] at hr; exact hr
theorem chk_bad {l : List S78} {j : Nat} (h : j < l.length) {L G : Int → Bool} {r : Int} (hr : chkS (l.drop j) L G = r) (hL : ¬ l[j].f0 = 71) (hb : (l[j].f0 = 70 ∧ l[j].f1 < 0) ∨ ((l[j].f0 = 84 ∨ l[j].f0 = 72) ∧ (l[j].f1 < 0 ∨ ¬ Int.tmod l[j].f1 1000 = 0))) : r = 1 := by
  rw [chk_drop h, chkS, if_neg hL] at hr
  rcases hb with hb | hb
  · rw [if_pos hb] at hr; exact hr.symm
  · by_cases h2 : l[j].f0 = 70 ∧ l[j].f1 < 0
    · rw [if_pos h2] at hr; exact hr.symm
    · rw [if_neg h2, if_pos hb] at hr; exact hr.symm
theorem chk_L1 {l : List S78} {j : Nat} (h : j < l.length) {L G : Int → Bool} {r : Int} (hr : chkS (l.drop j) L G = r) (hL : ¬ l[j].f0 = 71) (hb : ¬ (l[j].f0 = 70 ∧ l[j].f1 < 0)) (hc : ¬ ((l[j].f0 = 84 ∨ l[j].f0 = 72) ∧ (l[j].f1 < 0 ∨ ¬ Int.tmod l[j].f1 1000 = 0))) (hG : L l[j].f0 = true) : r = 1 := by
  rw [chk_drop h, chkS, if_neg hL, if_neg hb, if_neg hc, if_pos hG] at hr; exact hr.symm
theorem chk_L2 {l : List S78} {j : Nat} (h : j < l.length) {L G : Int → Bool} {r : Int} (hr : chkS (l.drop j) L G = r) (hL : ¬ l[j].f0 = 71) (hb : ¬ (l[j].f0 = 70 ∧ l[j].f1 < 0)) (hc : ¬ ((l[j].f0 = 84 ∨ l[j].f0 = 72) ∧ (l[j].f1 < 0 ∨ ¬ Int.tmod l[j].f1 1000 = 0))) (hG : ¬ L l[j].f0 = true) : chkS (l.drop (j + 1)) (fun y => if y = l[j].f0 then true else L y) G = r := by
  rw [chk_drop h, chkS, if_neg hL, if_neg hb, if_neg hc, if_neg hG] at hr; exact hr
theorem wf_group (v : Int) : (Lit.int .i64 (groupS v)).wf = true := by
  have := groupS_range v
  exact WalkArith.wf_i64 (by omega)
set_option maxHeartbeats 4000000 in
set_option maxRecDepth 100000 in
theorem modal_Check.calls (a0_0 : Bool) (A0_1 : Option Addr) (c0_1 : Nat) (l0_1 : List (S78)) (a0_2 : ByteArray) (r : Int) (w : World) (hr0_1 : Kd.C k78 w A0_1 l0_1.length l0_1) (hc0_1 : l0_1.length ≤ c0_1) (h : modal_Check.f a0_0 l0_1 a0_2 = some r) :
    Calls Try.prog 51 #[.agg #[.bool a0_0, .slice A0_1 l0_1.length c0_1, .string a0_2]] w fun e w' => e = .returned (.int .i64 r) ∧ Below w.heap.size w w' := by
  unfold modal_Check.f at h
  by_cases hbw : bytesW l0_1
  rotate_left
  · rw [if_neg hbw] at h; cases h
  rw [if_pos hbw] at h
  have H := Aside0.mk (Option.some.inj h)
  have HW := Aside0.mk hbw
  clear hbw h
  have hu32 := Try.underlying32
  have hu78 := Try.underlying78
  have HR := Aside0.mk hr0_1
  have HM := Aside0.mk (Kd.C_max hr0_1)
  clear hr0_1
  go_enter Try.func51, Try.ntmps51
  go_wp2_with (first | ((with_reducible refine gate_dst (N := 1) rfl ?_); refine box_event ?hg (N := 1) ?hd (cs := #[.bool a0_0, .slice A0_1 l0_1.length c0_1, .string a0_2]) (t := 32) ?hr ?_; (case hd => rfl); (case hg => rfl); (case hr => first | (go_simp; done) | (go_simp; rfl)); intro gb hg w1 hbox hb; have HG := Aside0.mk hg; have BK := Aside0.mk hbox; have HB1 := Aside0.mk hb; clear hg hbox hb) | ((with_reducible refine gate_dst (N := 8) rfl ?_); refine map_make 8 rfl rfl .u8 5 rfl ?_; intro gm w2 hgm hmm hb2; have HGM := Aside0.mk hgm; have HL := Aside0.mk hmm; have HB2 := Aside0.mk hb2; clear hgm hmm hb2) | ((with_reducible refine gate_dst (N := 9) rfl ?_); refine map_make 9 rfl rfl .i64 3 rfl ?_; intro gn w3 hgn hmn hb3; have HGN := Aside0.mk hgn; have HL2 := Aside0.mk (HL.out.below hb3); have HGR := Aside0.mk hmn; have BK3 := Aside0.mk ((hb3.block gb (by have := HG.out; have := HB1.out.size; have := HB2.out.size; have := blk_lt BK.out; omega)).trans ((HB2.out.block gb (blk_lt BK.out)).trans BK.out)); have HB3 := Aside0.mk (below_then HB1.out HB1.out.size (below_then HB2.out HB2.out.size hb3)); have hz1 : w3.cell? ⟨gb, 1, none⟩ = some (.slice A0_1 l0_1.length c0_1) := (blk_cell BK3.out 1).trans rfl; clear hgn hmn hb3))
  have HNE := Aside0.mk (show gm ≠ gn from fun e => by have := HL.out.lt; rw [HGN.out] at e; omega)
  have HGE1 := Aside0.mk (show w.heap.size ≤ gm from by rw [HGM.out]; exact HB1.out.size)
  have HGE2 := Aside0.mk (show w.heap.size ≤ gn from by rw [HGN.out]; exact Nat.le_trans HB1.out.size HB2.out.size)
  go_loopw [13] (fun i w' => ∃ (j : Nat) (L G : Int → Bool), i = .int .i64 j ∧ Aside0 (j ≤ l0_1.length) ∧ Aside0 (chkS (l0_1.drop j) L G = r) ∧ Aside0 (MapIs Try.prog 5 .u8 w' gm j (seenF L)) ∧ Aside0 (MapIs Try.prog 3 .i64 w' gn j (seenF G)) ∧ Aside0 (Below w.heap.size w w')) (fun i _ => l0_1.length - (intOf i).toNat)
  case atStart => exact ⟨0, fun _ => false, fun _ => false, rfl, ⟨Nat.zero_le _⟩, ⟨H.out⟩, ⟨HL2.out.congr (fun _ => rfl)⟩, ⟨HGR.out.congr (fun _ => rfl)⟩, ⟨HB3.out⟩⟩
  case round =>
    obtain ⟨j, L, G, rfl, HJ, HI, HLr, HGr, HBr⟩ := hrel
    clear HL HL2 HGR hz1 BK BK3 HB3 H
    by_cases hlt : j < l0_1.length
    · obtain ⟨ad, e, hx0, hx1⟩ := at_T78 (Kd.C_below HR.out HBr.out) (j : Int) (by omega) (by omega)
      cases e
      have hrd : rd_T78 l0_1 (j : Int) = l0_1[j] := by simp [rd_T78, hlt]
      rw [hrd] at hx0 hx1
      have hwl := HW.out l0_1[j] (List.getElem_mem hlt)
      have HK := Aside0.mk (chk_G0 hlt HI.out)
      have HK1 := Aside0.mk (chk_G1 hlt HI.out)
      have HK2 := Aside0.mk (chk_G2 hlt HI.out)
      have HK3 := Aside0.mk (chk_bad hlt HI.out)
      have HK4 := Aside0.mk (chk_L1 hlt HI.out)
      have HK5 := Aside0.mk (chk_L2 hlt HI.out)
      clear hrd
      generalize l0_1[j] = x at *
      have WFL := Aside0.mk (show (Lit.int .u8 x.f0).wf = true from WalkArith.wf_u8 (by omega))
      have NJ := Aside0.mk (show j < maxLen from by have := HM.out; unfold maxLen; omega)
      have HBS := Aside0.mk (show w.heap.size ≤ (wr.alloc (.cells #[.int .u8 x.f0, .int .i64 x.f1] 78)).heap.size from Nat.le_trans HBr.out.size (below_alloc (Below.refl _ _) _).size)
      clear hwl
      simp only [Int.toNat_natCast] at hx0 hx1
      have hlt' : decide ((j : Int) < (l0_1.length : Int)) = true := by simp; omega
      by_cases c71 : x.f0 = 71
      · have t71 : (x.f0 == 71) = true := beq_iff_eq.mpr c71
        have C71 := Aside0.mk c71
        clear c71
        by_cases c0 : groupS x.f1 = 0
        · have t0 : (groupS x.f1 == 0) = true := beq_iff_eq.mpr c0
          have E := Aside0.mk (HK.out C71.out c0)
          clear c0
          go_wp2_with (first | (go_at_call 14; refine (Group_is _ _).mono ?_; rintro e w' ⟨rfl, rfl⟩) | ((with_reducible refine gate_dst (N := 29) rfl ?_); (try (refine gate_guard (by rfl) ?_; dsimp only)); refine map_look 29 rfl rfl rfl Try.underlying3 Try.underlying124 zero_bool (HGr.out.alloc _) rfl (groupS x.f1) rfl (wf_group _) (.bool (G (groupS x.f1))) (seenF_get G _) ?_))
          have e_ := E.out
          subst e_
          go_ret
          exact ⟨rfl, below_alloc HBr.out _⟩
        · have t0 : (groupS x.f1 == 0) = false := beq_eq_false_iff_ne.mpr c0
          have C0 := Aside0.mk c0
          clear c0
          cases cG : G (groupS x.f1) with
          | true =>
            have E := Aside0.mk (HK1.out C71.out C0.out cG)
            go_wp2_with (first | (go_at_call 14; refine (Group_is _ _).mono ?_; rintro e w' ⟨rfl, rfl⟩) | ((with_reducible refine gate_dst (N := 29) rfl ?_); (try (refine gate_guard (by rfl) ?_; dsimp only)); refine map_look 29 rfl rfl rfl Try.underlying3 Try.underlying124 zero_bool (HGr.out.alloc _) rfl (groupS x.f1) rfl (wf_group _) (.bool (G (groupS x.f1))) (seenF_get G _) ?_))
            have e_ := E.out
            subst e_
            go_ret
            exact ⟨rfl, below_alloc HBr.out _⟩
          | false =>
            have E := Aside0.mk (HK2.out C71.out C0.out (by rw [cG]; decide))
            go_wp2_with (first | (go_at_call 14; refine (Group_is _ _).mono ?_; rintro e w' ⟨rfl, rfl⟩) | ((with_reducible refine gate_dst (N := 29) rfl ?_); (try (refine gate_guard (by rfl) ?_; dsimp only)); refine map_look 29 rfl rfl rfl Try.underlying3 Try.underlying124 zero_bool (HGr.out.alloc _) rfl (groupS x.f1) rfl (wf_group _) (.bool (G (groupS x.f1))) (seenF_get G _) ?_) | (refine map_put rfl rfl Try.underlying3 Try.underlying124 (HGr.out.alloc _) NJ.out rfl (groupS x.f1) rfl (wf_group _) (.bool true) rfl ?_; intro w4 hm4 hg4; have HM4 := Aside0.mk (hm4.congr (seenF_put G (groupS x.f1))); have HO4 := Aside0.mk ((HLr.out.alloc _).kept hg4 (by simpa using HNE.out)); have HB4 := Aside0.mk ((below_alloc HBr.out _).grown hg4 HBS.out (fun k_ e_ => by injection e_ with e_; rw [← e_]; exact HGE2.out)); clear hm4 hg4))
            go_roundw
            case rel => exact ⟨j + 1, L, (fun y => if y = groupS x.f1 then true else G y), by rw [wrap_succ hlt HM.out], ⟨by omega⟩, ⟨E.out⟩, ⟨HO4.out.mono (Nat.le_succ _)⟩, ⟨HM4.out⟩, ⟨HB4.out⟩⟩
            case measure => rw [wrap_succ hlt HM.out]; simp only [intOf, Int.toNat_natCast]; omega
      · have t71 : (x.f0 == 71) = false := beq_eq_false_iff_ne.mpr c71
        have C71 := Aside0.mk c71
        clear c71
        by_cases c70 : x.f0 = 70
        · have t70 : (x.f0 == 70) = true := beq_iff_eq.mpr c70
          have C70 := Aside0.mk c70
          clear c70
          by_cases cn : x.f1 < 0
          · have tn : decide (x.f1 < 0) = true := decide_eq_true cn
            have E := Aside0.mk (HK3.out C71.out (.inl ⟨C70.out, cn⟩))
            clear cn
            go_wp2
            have e_ := E.out
            subst e_
            go_ret
            exact ⟨rfl, below_alloc HBr.out _⟩
          · have tn : decide (x.f1 < 0) = false := decide_eq_false cn
            have CN := Aside0.mk cn
            clear cn
            cases cL : L x.f0 with
            | true =>
              have E := Aside0.mk (HK4.out C71.out (fun h => CN.out h.2) (fun h => by have := C70.out; omega) cL)
              go_wp2_with (first | ((with_reducible refine gate_dst (N := 53) rfl ?_); refine map_look 53 rfl rfl rfl Try.underlying5 Try.underlying123 zero_bool (HLr.out.alloc _) rfl x.f0 rfl WFL.out (.bool true) ((seenF_get L _).trans (congrArg Value.bool cL)) ?_))
              have e_ := E.out
              subst e_
              go_ret
              exact ⟨rfl, below_alloc HBr.out _⟩
            | false =>
              have E := Aside0.mk (HK5.out C71.out (fun h => CN.out h.2) (fun h => by have := C70.out; omega) (by rw [cL]; decide))
              go_wp2_with (first | ((with_reducible refine gate_dst (N := 53) rfl ?_); refine map_look 53 rfl rfl rfl Try.underlying5 Try.underlying123 zero_bool (HLr.out.alloc _) rfl x.f0 rfl WFL.out (.bool false) ((seenF_get L _).trans (congrArg Value.bool cL)) ?_) | (refine map_put rfl rfl Try.underlying5 Try.underlying123 (HLr.out.alloc _) NJ.out rfl x.f0 rfl WFL.out (.bool true) rfl ?_; intro w4 hm4 hg4; have HM4 := Aside0.mk (hm4.congr (seenF_put L x.f0)); have HO4 := Aside0.mk ((HGr.out.alloc _).kept hg4 (by simpa using HNE.out.symm)); have HB4 := Aside0.mk ((below_alloc HBr.out _).grown hg4 HBS.out (fun k_ e_ => by injection e_ with e_; rw [← e_]; exact HGE1.out)); clear hm4 hg4))
              go_roundw
              case rel => exact ⟨j + 1, (fun y => if y = x.f0 then true else L y), G, by rw [wrap_succ hlt HM.out], ⟨by omega⟩, ⟨E.out⟩, ⟨HM4.out⟩, ⟨HO4.out.mono (Nat.le_succ _)⟩, ⟨HB4.out⟩⟩
              case measure => rw [wrap_succ hlt HM.out]; simp only [intOf, Int.toNat_natCast]; omega
        · have t70 : (x.f0 == 70) = false := beq_eq_false_iff_ne.mpr c70
          have C70 := Aside0.mk c70
          clear c70
          by_cases c84 : x.f0 = 84
          · have t84 : (x.f0 == 84) = true := beq_iff_eq.mpr c84
            have C84 := Aside0.mk c84
            clear c84
            by_cases cn : x.f1 < 0
            · have tn : decide (x.f1 < 0) = true := decide_eq_true cn
              have E := Aside0.mk (HK3.out C71.out (.inr ⟨(.inl C84.out), .inl cn⟩))
              clear cn
              go_wp2
              have e_ := E.out
              subst e_
              go_ret
              exact ⟨rfl, below_alloc HBr.out _⟩
            · have tn : decide (x.f1 < 0) = false := decide_eq_false cn
              have CN := Aside0.mk cn
              clear cn
              by_cases cm : Int.tmod x.f1 1000 = 0
              · have tm : (Int.tmod x.f1 1000 != 0) = false := bne_eq_false_iff_eq.mpr cm
                have CM := Aside0.mk cm
                clear cm
                cases cL : L x.f0 with
                | true =>
                  have E := Aside0.mk (HK4.out C71.out (fun h => C70.out h.1) (fun h => h.2.elim CN.out (fun h2 => h2 CM.out)) cL)
                  go_wp2_with (first | ((with_reducible refine gate_dst (N := 53) rfl ?_); refine map_look 53 rfl rfl rfl Try.underlying5 Try.underlying123 zero_bool (HLr.out.alloc _) rfl x.f0 rfl WFL.out (.bool true) ((seenF_get L _).trans (congrArg Value.bool cL)) ?_))
                  have e_ := E.out
                  subst e_
                  go_ret
                  exact ⟨rfl, below_alloc HBr.out _⟩
                | false =>
                  have E := Aside0.mk (HK5.out C71.out (fun h => C70.out h.1) (fun h => h.2.elim CN.out (fun h2 => h2 CM.out)) (by rw [cL]; decide))
                  go_wp2_with (first | ((with_reducible refine gate_dst (N := 53) rfl ?_); refine map_look 53 rfl rfl rfl Try.underlying5 Try.underlying123 zero_bool (HLr.out.alloc _) rfl x.f0 rfl WFL.out (.bool false) ((seenF_get L _).trans (congrArg Value.bool cL)) ?_) | (refine map_put rfl rfl Try.underlying5 Try.underlying123 (HLr.out.alloc _) NJ.out rfl x.f0 rfl WFL.out (.bool true) rfl ?_; intro w4 hm4 hg4; have HM4 := Aside0.mk (hm4.congr (seenF_put L x.f0)); have HO4 := Aside0.mk ((HGr.out.alloc _).kept hg4 (by simpa using HNE.out.symm)); have HB4 := Aside0.mk ((below_alloc HBr.out _).grown hg4 HBS.out (fun k_ e_ => by injection e_ with e_; rw [← e_]; exact HGE1.out)); clear hm4 hg4))
                  go_roundw
                  case rel => exact ⟨j + 1, (fun y => if y = x.f0 then true else L y), G, by rw [wrap_succ hlt HM.out], ⟨by omega⟩, ⟨E.out⟩, ⟨HM4.out⟩, ⟨HO4.out.mono (Nat.le_succ _)⟩, ⟨HB4.out⟩⟩
                  case measure => rw [wrap_succ hlt HM.out]; simp only [intOf, Int.toNat_natCast]; omega
              · have tm : (Int.tmod x.f1 1000 != 0) = true := bne_iff_ne.mpr cm
                have E := Aside0.mk (HK3.out C71.out (.inr ⟨(.inl C84.out), .inr cm⟩))
                clear cm
                go_wp2
                have e_ := E.out
                subst e_
                go_ret
                exact ⟨rfl, below_alloc HBr.out _⟩
          · have t84 : (x.f0 == 84) = false := beq_eq_false_iff_ne.mpr c84
            have C84 := Aside0.mk c84
            clear c84
            by_cases c72 : x.f0 = 72
            · have t72 : (x.f0 == 72) = true := beq_iff_eq.mpr c72
              have C72 := Aside0.mk c72
              clear c72
              by_cases cn : x.f1 < 0
              · have tn : decide (x.f1 < 0) = true := decide_eq_true cn
                have E := Aside0.mk (HK3.out C71.out (.inr ⟨(.inr C72.out), .inl cn⟩))
                clear cn
                go_wp2
                have e_ := E.out
                subst e_
                go_ret
                exact ⟨rfl, below_alloc HBr.out _⟩
              · have tn : decide (x.f1 < 0) = false := decide_eq_false cn
                have CN := Aside0.mk cn
                clear cn
                by_cases cm : Int.tmod x.f1 1000 = 0
                · have tm : (Int.tmod x.f1 1000 != 0) = false := bne_eq_false_iff_eq.mpr cm
                  have CM := Aside0.mk cm
                  clear cm
                  cases cL : L x.f0 with
                  | true =>
                    have E := Aside0.mk (HK4.out C71.out (fun h => C70.out h.1) (fun h => h.2.elim CN.out (fun h2 => h2 CM.out)) cL)
                    go_wp2_with (first | ((with_reducible refine gate_dst (N := 53) rfl ?_); refine map_look 53 rfl rfl rfl Try.underlying5 Try.underlying123 zero_bool (HLr.out.alloc _) rfl x.f0 rfl WFL.out (.bool true) ((seenF_get L _).trans (congrArg Value.bool cL)) ?_))
                    have e_ := E.out
                    subst e_
                    go_ret
                    exact ⟨rfl, below_alloc HBr.out _⟩
                  | false =>
                    have E := Aside0.mk (HK5.out C71.out (fun h => C70.out h.1) (fun h => h.2.elim CN.out (fun h2 => h2 CM.out)) (by rw [cL]; decide))
                    go_wp2_with (first | ((with_reducible refine gate_dst (N := 53) rfl ?_); refine map_look 53 rfl rfl rfl Try.underlying5 Try.underlying123 zero_bool (HLr.out.alloc _) rfl x.f0 rfl WFL.out (.bool false) ((seenF_get L _).trans (congrArg Value.bool cL)) ?_) | (refine map_put rfl rfl Try.underlying5 Try.underlying123 (HLr.out.alloc _) NJ.out rfl x.f0 rfl WFL.out (.bool true) rfl ?_; intro w4 hm4 hg4; have HM4 := Aside0.mk (hm4.congr (seenF_put L x.f0)); have HO4 := Aside0.mk ((HGr.out.alloc _).kept hg4 (by simpa using HNE.out.symm)); have HB4 := Aside0.mk ((below_alloc HBr.out _).grown hg4 HBS.out (fun k_ e_ => by injection e_ with e_; rw [← e_]; exact HGE1.out)); clear hm4 hg4))
                    go_roundw
                    case rel => exact ⟨j + 1, (fun y => if y = x.f0 then true else L y), G, by rw [wrap_succ hlt HM.out], ⟨by omega⟩, ⟨E.out⟩, ⟨HM4.out⟩, ⟨HO4.out.mono (Nat.le_succ _)⟩, ⟨HB4.out⟩⟩
                    case measure => rw [wrap_succ hlt HM.out]; simp only [intOf, Int.toNat_natCast]; omega
                · have tm : (Int.tmod x.f1 1000 != 0) = true := bne_iff_ne.mpr cm
                  have E := Aside0.mk (HK3.out C71.out (.inr ⟨(.inr C72.out), .inr cm⟩))
                  clear cm
                  go_wp2
                  have e_ := E.out
                  subst e_
                  go_ret
                  exact ⟨rfl, below_alloc HBr.out _⟩
            · have t72 : (x.f0 == 72) = false := beq_eq_false_iff_ne.mpr c72
              have C72 := Aside0.mk c72
              clear c72
              cases cL : L x.f0 with
              | true =>
                have E := Aside0.mk (HK4.out C71.out (fun h => C70.out h.1) (fun h => h.1.elim C84.out C72.out) cL)
                go_wp2_with (first | ((with_reducible refine gate_dst (N := 53) rfl ?_); refine map_look 53 rfl rfl rfl Try.underlying5 Try.underlying123 zero_bool (HLr.out.alloc _) rfl x.f0 rfl WFL.out (.bool true) ((seenF_get L _).trans (congrArg Value.bool cL)) ?_))
                have e_ := E.out
                subst e_
                go_ret
                exact ⟨rfl, below_alloc HBr.out _⟩
              | false =>
                have E := Aside0.mk (HK5.out C71.out (fun h => C70.out h.1) (fun h => h.1.elim C84.out C72.out) (by rw [cL]; decide))
                go_wp2_with (first | ((with_reducible refine gate_dst (N := 53) rfl ?_); refine map_look 53 rfl rfl rfl Try.underlying5 Try.underlying123 zero_bool (HLr.out.alloc _) rfl x.f0 rfl WFL.out (.bool false) ((seenF_get L _).trans (congrArg Value.bool cL)) ?_) | (refine map_put rfl rfl Try.underlying5 Try.underlying123 (HLr.out.alloc _) NJ.out rfl x.f0 rfl WFL.out (.bool true) rfl ?_; intro w4 hm4 hg4; have HM4 := Aside0.mk (hm4.congr (seenF_put L x.f0)); have HO4 := Aside0.mk ((HGr.out.alloc _).kept hg4 (by simpa using HNE.out.symm)); have HB4 := Aside0.mk ((below_alloc HBr.out _).grown hg4 HBS.out (fun k_ e_ => by injection e_ with e_; rw [← e_]; exact HGE1.out)); clear hm4 hg4))
                go_roundw
                case rel => exact ⟨j + 1, (fun y => if y = x.f0 then true else L y), G, by rw [wrap_succ hlt HM.out], ⟨by omega⟩, ⟨E.out⟩, ⟨HM4.out⟩, ⟨HO4.out.mono (Nat.le_succ _)⟩, ⟨HB4.out⟩⟩
                case measure => rw [wrap_succ hlt HM.out]; simp only [intOf, Int.toNat_natCast]; omega
    · have hlt' : decide ((j : Int) < (l0_1.length : Int)) = false := by simp; omega
      have hI := HI.out
      rw [List.drop_eq_nil_of_le (by omega)] at hI
      simp only [chkS] at hI
      subst hI
      go_wp2
      go_ret
      exact ⟨rfl, HBr.out⟩
end Go.Proofs.Ytehkhbnhmehobaa.P
namespace Go.Proofs.Ytehkhbnhmehobaa.P
open Go.RowKit Go.Proofs.YtehkhbnhmehobaaW.PrintWords Go.Proofs.YtehkhbnhmehobaaW.PrintLast Go.Proofs.YtehkhbnhmehobaaW.PrintMore
set_option linter.unusedVariables false
section
variable {P : Program} {ops : Array Oper} {rest : List Oper} {o : Oper} {a : Act} {Q : Exit → Act → World → Prop}
theorem slice_event {W : World} (hgd : o.guard = none) {N : Tmp} (_hd : o.dst = some N) {cs : Array Value} {t : TypeId} {n : Nat}
    (hrun : (execOp a.eval o).run P W = .ok (.value (.slice (some ⟨W.heap.size, 0, none⟩) n n)) (W.alloc (.cells cs t (0, 0))))
    (h : ∀ g, g = W.heap.size → ∀ w1, w1.heap[g]? = some (.cells cs t (0, 0)) → Below W.heap.size W w1 → wpList P ops Q rest (a.put o.dst (.slice (some ⟨g, 0, none⟩) n n)) w1) : wpList P ops Q (o :: rest) a W :=
  Kd.event_run hgd hrun (h _ rfl _ (blk_new W _) (below_alloc (Below.refl _ _) _))
end
def modal_put.f (a0_0 : Int) (a0_1 : Int) (a0_2 : Int) (a0_3 : Int) (a0_4 : Int) (a0_5 : Int) (a0_6 : Int) (a0_7 : Int) (a1_0 : Int) (a1_1 : Int) : Option (Int × Int × Int × Int × Int × Int × Int × Int) :=
  if a1_0 = 71 then (
    if groupS a1_1 = 1 then some (a1_1, a0_1, a0_2, a0_3, a0_4, a0_5, a0_6, a0_7) else
    if groupS a1_1 = 2 then some (a0_0, a1_1, a0_2, a0_3, a0_4, a0_5, a0_6, a0_7) else
    if groupS a1_1 = 3 then some (a0_0, a0_1, a1_1, a0_3, a0_4, a0_5, a0_6, a0_7) else
    if groupS a1_1 = 4 then some (a0_0, a0_1, a0_2, a1_1, a0_4, a0_5, a0_6, a0_7) else
    if groupS a1_1 = 5 then some (a0_0, a0_1, a0_2, a0_3, a1_1, a0_5, a0_6, a0_7) else
    none) else
  if a1_0 = 70 then some (a0_0, a0_1, a0_2, a0_3, a0_4, a1_1, a0_6, a0_7) else
  if a1_0 = 84 then some (a0_0, a0_1, a0_2, a0_3, a0_4, a0_5, a1_1, a0_7) else
  if a1_0 = 72 then some (a0_0, a0_1, a0_2, a0_3, a0_4, a0_5, a0_6, a1_1) else
  some (a0_0, a0_1, a0_2, a0_3, a0_4, a0_5, a0_6, a0_7)
set_option maxHeartbeats 1000000 in
set_option maxRecDepth 100000 in
theorem put_1 (a0_0 : Int) (a0_1 : Int) (a0_2 : Int) (a0_3 : Int) (a0_4 : Int) (a0_5 : Int) (a0_6 : Int) (a0_7 : Int) (a1_0 : Int) (a1_1 : Int) (w : World) (h : (a1_0 == 71) = true) (hg : groupS a1_1 = 1) : Calls Try.prog 54 #[.agg #[.int .i64 a0_0, .int .i64 a0_1, .int .i64 a0_2, .int .i64 a0_3, .int .i64 a0_4, .int .i64 a0_5, .int .i64 a0_6, .int .i64 a0_7], .agg #[.int .u8 a1_0, .int .i64 a1_1]] w fun e w' => e = .returned (.agg #[.int .i64 a1_1, .int .i64 a0_1, .int .i64 a0_2, .int .i64 a0_3, .int .i64 a0_4, .int .i64 a0_5, .int .i64 a0_6, .int .i64 a0_7]) ∧ Below w.heap.size w w' := by
  have hu26 := Try.underlying26
  have hu78 := Try.underlying78
  have HGc : Aside0 (∀ W, Calls Try.prog 14 #[.int .i64 a1_1] W fun e w' => e = .returned (.int .i64 1) ∧ w' = W) := ⟨fun W => hg ▸ Group_is a1_1 W⟩
  clear hg
  have HB := Aside0.mk (Below.refl w.heap.size w)
  go_enter Try.func54, Try.ntmps54
  go_wp2_with (first | ((with_reducible refine gate_dst (N := 2) rfl ?_); refine box_event ?hg (N := 2) ?hd (cs := #[.int .i64 a0_0, .int .i64 a0_1, .int .i64 a0_2, .int .i64 a0_3, .int .i64 a0_4, .int .i64 a0_5, .int .i64 a0_6, .int .i64 a0_7]) (t := 26) ?hr ?_; (case hd => rfl); (case hg => rfl); (case hr => first | (go_simp; done) | (go_simp; rfl)); intro ga hg w1 hbox hb; have KA := Aside0.mk hbox; have HGga := Aside0.mk (by rw [hg]; exact HB.out.size : w.heap.size ≤ ga); have HB := Aside0.mk (below_step HB.out hb); clear hg hbox hb) | ((with_reducible refine gate_dst (N := 3) rfl ?_); refine box_event ?hg (N := 3) ?hd (cs := #[.int .u8 a1_0, .int .i64 a1_1]) (t := 78) ?hr ?_; (case hd => rfl); (case hg => rfl); (case hr => first | (go_simp; done) | (go_simp; rfl)); intro gb hg w2 hbox hb; have KA := Aside0.mk ((hb.block ga (blk_lt KA.out)).trans KA.out); have KB := Aside0.mk hbox; have HGgb := Aside0.mk (by rw [hg]; exact HB.out.size : w.heap.size ≤ gb); have HB := Aside0.mk (below_step HB.out hb); have HN0 := Aside0.mk (show ga < w2.heap.size from blk_lt KA.out); clear hg hbox hb) | ((with_reducible refine gate_dst (N := 4) rfl ?_); refine box_event ?hg (N := 4) ?hd (cs := #[.int .i64 0, .int .i64 0, .int .i64 0, .int .i64 0, .int .i64 0, .int .i64 0, .int .i64 0, .int .i64 0]) (t := 26) ?hr ?_; (case hd => rfl); (case hg => rfl); (case hr => first | (go_simp; done) | (go_simp; rfl)); intro gc hg w3 hbox hb; have KA := Aside0.mk ((hb.block ga (blk_lt KA.out)).trans KA.out); have KB := Aside0.mk ((hb.block gb (blk_lt KB.out)).trans KB.out); have KC := Aside0.mk hbox; have HGgc := Aside0.mk (by rw [hg]; exact HB.out.size : w.heap.size ≤ gc); have HB := Aside0.mk (below_step HB.out hb); have HN1 := Aside0.mk (show gc = w2.heap.size from hg); have HN2 := Aside0.mk (show ga < w2.heap.size from HN0.out); have hw0 : w3.cell? ⟨gb, 0, none⟩ = some (.int .u8 a1_0) := (blk_cell KB.out 0).trans rfl; have hw1 : w3.cell? ⟨gb, 1, none⟩ = some (.int .i64 a1_1) := (blk_cell KB.out 1).trans rfl; clear hg hbox hb) | ((with_reducible refine gate_dst (N := 15) rfl ?_); refine slice_event ?hg (N := 15) ?hd (cs := #[.pointer (some ⟨ga, 0, none⟩), .pointer (some ⟨ga, 1, none⟩), .pointer (some ⟨ga, 2, none⟩), .pointer (some ⟨ga, 3, none⟩), .pointer (some ⟨ga, 4, none⟩)]) (t := 125) (n := 5) ?hr ?_; (case hd => rfl); (case hg => rfl); (case hr => first | (go_simp; done) | (go_simp; rfl)); intro gd hg w4 hbox hb; have KA := Aside0.mk ((hb.block ga (blk_lt KA.out)).trans KA.out); have KB := Aside0.mk ((hb.block gb (blk_lt KB.out)).trans KB.out); have KC := Aside0.mk ((hb.block gc (blk_lt KC.out)).trans KC.out); have KD := Aside0.mk hbox; have HGgd := Aside0.mk (by rw [hg]; exact HB.out.size : w.heap.size ≤ gd); have HB := Aside0.mk (below_step HB.out hb); clear hg hbox hb))
  have hd0 : w4.drew.cell? ⟨gb, 0, none⟩ = some (.int .u8 a1_0) := (blk_cell KB.out 0).trans rfl
  have hd1 : w4.drew.cell? ⟨gb, 1, none⟩ = some (.int .i64 a1_1) := (blk_cell KB.out 1).trans rfl
  have hd2 : w4.drew.cell? ⟨gd, 0, none⟩ = some (.pointer (some ⟨ga, 0, none⟩)) := (blk_cell KD.out 0).trans rfl
  have hd3 : w4.drew.cell? ⟨ga, 0, none⟩ = some (.int .i64 a0_0) := (blk_cell KA.out 0).trans rfl
  have hf3 : w4.drew.frozen? ⟨ga, 0, none⟩ = false := blk_frozen KA.out 0
  have KA := Aside0.mk (show w4.drew.heap[ga]? = _ from KA.out)
  have KC := Aside0.mk (show w4.drew.heap[gc]? = _ from KC.out)
  have HB := Aside0.mk (below_drew1 HB.out)
  have hwz : IntKind.i64.wrap 0 = 0 := by decide
  have HNE := Aside0.mk (show gc ≠ ga from fun e => by have h1 := HN1.out; have h2 := HN2.out; omega)
  refine wp_region_still_tail 10 (by kernel_rfl) (by kernel_rfl) ?_
  change wpStill _ _ w4.drew (fun a' => wpList _ _ _ _ a' w4.drew) _ _
  generalize w4.drew = w5 at *
  simp only [List.take_succ_cons, List.take_zero, List.drop_succ_cons, List.drop_zero]
  still_step
  still_step
  still_step
  still_call (HGc.out _)
  repeat still_step
  refine wpStill_nil ?_
  go_wp2_with ((with_reducible refine gate_store (p := 25) rfl ?_); refine store_event (w1 := w5.setCell ⟨ga, 0, none⟩ (.int .i64 a1_1)) rfl rfl rfl ?hr ?_; (case hr => first | (go_simp; done) | (go_simp; rfl)); intro w6 e6; have KA6 := Aside0.mk (show w6.heap[ga]? = some (.cells #[.int .i64 a1_1, .int .i64 a0_1, .int .i64 a0_2, .int .i64 a0_3, .int .i64 a0_4, .int .i64 a0_5, .int .i64 a0_6, .int .i64 a0_7] 26 (0, 0)) from by rw [e6]; exact blk_put (cs := #[.int .i64 a0_0, .int .i64 a0_1, .int .i64 a0_2, .int .i64 a0_3, .int .i64 a0_4, .int .i64 a0_5, .int .i64 a0_6, .int .i64 a0_7]) KA.out 0 _ rfl); have KC6 := Aside0.mk (show w6.heap[gc]? = some (.cells #[.int .i64 0, .int .i64 0, .int .i64 0, .int .i64 0, .int .i64 0, .int .i64 0, .int .i64 0, .int .i64 0] 26 (0, 0)) from by rw [e6]; exact blk_far KC.out HNE.out _); have HB6 := Aside0.mk (show Below w.heap.size w w6 from by rw [e6]; exact below_set HB.out HGga.out); have hzga_0 : w6.cell? ⟨ga, 0, none⟩ = some (.int .i64 a1_1) := (blk_cell KA6.out 0).trans rfl; have hzga_1 : w6.cell? ⟨ga, 1, none⟩ = some (.int .i64 a0_1) := (blk_cell KA6.out 1).trans rfl; have hzga_2 : w6.cell? ⟨ga, 2, none⟩ = some (.int .i64 a0_2) := (blk_cell KA6.out 2).trans rfl; have hzga_3 : w6.cell? ⟨ga, 3, none⟩ = some (.int .i64 a0_3) := (blk_cell KA6.out 3).trans rfl; have hzga_4 : w6.cell? ⟨ga, 4, none⟩ = some (.int .i64 a0_4) := (blk_cell KA6.out 4).trans rfl; have hzga_5 : w6.cell? ⟨ga, 5, none⟩ = some (.int .i64 a0_5) := (blk_cell KA6.out 5).trans rfl; have hzga_6 : w6.cell? ⟨ga, 6, none⟩ = some (.int .i64 a0_6) := (blk_cell KA6.out 6).trans rfl; have hzga_7 : w6.cell? ⟨ga, 7, none⟩ = some (.int .i64 a0_7) := (blk_cell KA6.out 7).trans rfl; have hzgc_0 : w6.cell? ⟨gc, 0, none⟩ = some (.int .i64 0) := (blk_cell KC6.out 0).trans rfl; have hzgc_1 : w6.cell? ⟨gc, 1, none⟩ = some (.int .i64 0) := (blk_cell KC6.out 1).trans rfl; have hzgc_2 : w6.cell? ⟨gc, 2, none⟩ = some (.int .i64 0) := (blk_cell KC6.out 2).trans rfl; have hzgc_3 : w6.cell? ⟨gc, 3, none⟩ = some (.int .i64 0) := (blk_cell KC6.out 3).trans rfl; have hzgc_4 : w6.cell? ⟨gc, 4, none⟩ = some (.int .i64 0) := (blk_cell KC6.out 4).trans rfl; have hzgc_5 : w6.cell? ⟨gc, 5, none⟩ = some (.int .i64 0) := (blk_cell KC6.out 5).trans rfl; have hzgc_6 : w6.cell? ⟨gc, 6, none⟩ = some (.int .i64 0) := (blk_cell KC6.out 6).trans rfl; have hzgc_7 : w6.cell? ⟨gc, 7, none⟩ = some (.int .i64 0) := (blk_cell KC6.out 7).trans rfl; have hfgc_0 : w6.frozen? ⟨gc, 0, none⟩ = false := blk_frozen KC6.out 0; have hfgc_1 : w6.frozen? ⟨gc, 1, none⟩ = false := blk_frozen KC6.out 1; have hfgc_2 : w6.frozen? ⟨gc, 2, none⟩ = false := blk_frozen KC6.out 2; have hfgc_3 : w6.frozen? ⟨gc, 3, none⟩ = false := blk_frozen KC6.out 3; have hfgc_4 : w6.frozen? ⟨gc, 4, none⟩ = false := blk_frozen KC6.out 4; have hfgc_5 : w6.frozen? ⟨gc, 5, none⟩ = false := blk_frozen KC6.out 5; have hfgc_6 : w6.frozen? ⟨gc, 6, none⟩ = false := blk_frozen KC6.out 6; have hfgc_7 : w6.frozen? ⟨gc, 7, none⟩ = false := blk_frozen KC6.out 7; clear e6)
  refine bodyPost_ret (results_cell_row rfl _ _ gc 26 #[.int .i64 a1_1, .int .i64 a0_1, .int .i64 a0_2, .int .i64 a0_3, .int .i64 a0_4, .int .i64 a0_5, .int .i64 a0_6, .int .i64 a0_7] (0, 0) _ rfl (by refine blk_put (cs := #[.int .i64 a1_1, .int .i64 a0_1, .int .i64 a0_2, .int .i64 a0_3, .int .i64 a0_4, .int .i64 a0_5, .int .i64 a0_6, .int .i64 0]) ?_ 7 _ rfl; refine blk_put (cs := #[.int .i64 a1_1, .int .i64 a0_1, .int .i64 a0_2, .int .i64 a0_3, .int .i64 a0_4, .int .i64 a0_5, .int .i64 0, .int .i64 0]) ?_ 6 _ rfl; refine blk_put (cs := #[.int .i64 a1_1, .int .i64 a0_1, .int .i64 a0_2, .int .i64 a0_3, .int .i64 a0_4, .int .i64 0, .int .i64 0, .int .i64 0]) ?_ 5 _ rfl; refine blk_put (cs := #[.int .i64 a1_1, .int .i64 a0_1, .int .i64 a0_2, .int .i64 a0_3, .int .i64 0, .int .i64 0, .int .i64 0, .int .i64 0]) ?_ 4 _ rfl; refine blk_put (cs := #[.int .i64 a1_1, .int .i64 a0_1, .int .i64 a0_2, .int .i64 0, .int .i64 0, .int .i64 0, .int .i64 0, .int .i64 0]) ?_ 3 _ rfl; refine blk_put (cs := #[.int .i64 a1_1, .int .i64 a0_1, .int .i64 0, .int .i64 0, .int .i64 0, .int .i64 0, .int .i64 0, .int .i64 0]) ?_ 2 _ rfl; refine blk_put (cs := #[.int .i64 a1_1, .int .i64 0, .int .i64 0, .int .i64 0, .int .i64 0, .int .i64 0, .int .i64 0, .int .i64 0]) ?_ 1 _ rfl; refine blk_put (cs := #[.int .i64 0, .int .i64 0, .int .i64 0, .int .i64 0, .int .i64 0, .int .i64 0, .int .i64 0, .int .i64 0]) ?_ 0 _ rfl; exact KC6.out) Try.underlying26 rfl (by kernel_rfl)) rfl ?_
  exact ⟨rfl, by repeat (with_reducible first | exact HB6.out | refine below_set ?_ HGgc.out)⟩
set_option maxHeartbeats 1000000 in
set_option maxRecDepth 100000 in
theorem put_2 (a0_0 : Int) (a0_1 : Int) (a0_2 : Int) (a0_3 : Int) (a0_4 : Int) (a0_5 : Int) (a0_6 : Int) (a0_7 : Int) (a1_0 : Int) (a1_1 : Int) (w : World) (h : (a1_0 == 71) = true) (hg : groupS a1_1 = 2) : Calls Try.prog 54 #[.agg #[.int .i64 a0_0, .int .i64 a0_1, .int .i64 a0_2, .int .i64 a0_3, .int .i64 a0_4, .int .i64 a0_5, .int .i64 a0_6, .int .i64 a0_7], .agg #[.int .u8 a1_0, .int .i64 a1_1]] w fun e w' => e = .returned (.agg #[.int .i64 a0_0, .int .i64 a1_1, .int .i64 a0_2, .int .i64 a0_3, .int .i64 a0_4, .int .i64 a0_5, .int .i64 a0_6, .int .i64 a0_7]) ∧ Below w.heap.size w w' := by
  have hu26 := Try.underlying26
  have hu78 := Try.underlying78
  have HGc : Aside0 (∀ W, Calls Try.prog 14 #[.int .i64 a1_1] W fun e w' => e = .returned (.int .i64 2) ∧ w' = W) := ⟨fun W => hg ▸ Group_is a1_1 W⟩
  clear hg
  have HB := Aside0.mk (Below.refl w.heap.size w)
  go_enter Try.func54, Try.ntmps54
  go_wp2_with (first | ((with_reducible refine gate_dst (N := 2) rfl ?_); refine box_event ?hg (N := 2) ?hd (cs := #[.int .i64 a0_0, .int .i64 a0_1, .int .i64 a0_2, .int .i64 a0_3, .int .i64 a0_4, .int .i64 a0_5, .int .i64 a0_6, .int .i64 a0_7]) (t := 26) ?hr ?_; (case hd => rfl); (case hg => rfl); (case hr => first | (go_simp; done) | (go_simp; rfl)); intro ga hg w1 hbox hb; have KA := Aside0.mk hbox; have HGga := Aside0.mk (by rw [hg]; exact HB.out.size : w.heap.size ≤ ga); have HB := Aside0.mk (below_step HB.out hb); clear hg hbox hb) | ((with_reducible refine gate_dst (N := 3) rfl ?_); refine box_event ?hg (N := 3) ?hd (cs := #[.int .u8 a1_0, .int .i64 a1_1]) (t := 78) ?hr ?_; (case hd => rfl); (case hg => rfl); (case hr => first | (go_simp; done) | (go_simp; rfl)); intro gb hg w2 hbox hb; have KA := Aside0.mk ((hb.block ga (blk_lt KA.out)).trans KA.out); have KB := Aside0.mk hbox; have HGgb := Aside0.mk (by rw [hg]; exact HB.out.size : w.heap.size ≤ gb); have HB := Aside0.mk (below_step HB.out hb); have HN0 := Aside0.mk (show ga < w2.heap.size from blk_lt KA.out); clear hg hbox hb) | ((with_reducible refine gate_dst (N := 4) rfl ?_); refine box_event ?hg (N := 4) ?hd (cs := #[.int .i64 0, .int .i64 0, .int .i64 0, .int .i64 0, .int .i64 0, .int .i64 0, .int .i64 0, .int .i64 0]) (t := 26) ?hr ?_; (case hd => rfl); (case hg => rfl); (case hr => first | (go_simp; done) | (go_simp; rfl)); intro gc hg w3 hbox hb; have KA := Aside0.mk ((hb.block ga (blk_lt KA.out)).trans KA.out); have KB := Aside0.mk ((hb.block gb (blk_lt KB.out)).trans KB.out); have KC := Aside0.mk hbox; have HGgc := Aside0.mk (by rw [hg]; exact HB.out.size : w.heap.size ≤ gc); have HB := Aside0.mk (below_step HB.out hb); have HN1 := Aside0.mk (show gc = w2.heap.size from hg); have HN2 := Aside0.mk (show ga < w2.heap.size from HN0.out); have hw0 : w3.cell? ⟨gb, 0, none⟩ = some (.int .u8 a1_0) := (blk_cell KB.out 0).trans rfl; have hw1 : w3.cell? ⟨gb, 1, none⟩ = some (.int .i64 a1_1) := (blk_cell KB.out 1).trans rfl; clear hg hbox hb) | ((with_reducible refine gate_dst (N := 15) rfl ?_); refine slice_event ?hg (N := 15) ?hd (cs := #[.pointer (some ⟨ga, 0, none⟩), .pointer (some ⟨ga, 1, none⟩), .pointer (some ⟨ga, 2, none⟩), .pointer (some ⟨ga, 3, none⟩), .pointer (some ⟨ga, 4, none⟩)]) (t := 125) (n := 5) ?hr ?_; (case hd => rfl); (case hg => rfl); (case hr => first | (go_simp; done) | (go_simp; rfl)); intro gd hg w4 hbox hb; have KA := Aside0.mk ((hb.block ga (blk_lt KA.out)).trans KA.out); have KB := Aside0.mk ((hb.block gb (blk_lt KB.out)).trans KB.out); have KC := Aside0.mk ((hb.block gc (blk_lt KC.out)).trans KC.out); have KD := Aside0.mk hbox; have HGgd := Aside0.mk (by rw [hg]; exact HB.out.size : w.heap.size ≤ gd); have HB := Aside0.mk (below_step HB.out hb); clear hg hbox hb))
  have hd0 : w4.drew.cell? ⟨gb, 0, none⟩ = some (.int .u8 a1_0) := (blk_cell KB.out 0).trans rfl
  have hd1 : w4.drew.cell? ⟨gb, 1, none⟩ = some (.int .i64 a1_1) := (blk_cell KB.out 1).trans rfl
  have hd2 : w4.drew.cell? ⟨gd, 1, none⟩ = some (.pointer (some ⟨ga, 1, none⟩)) := (blk_cell KD.out 1).trans rfl
  have hd3 : w4.drew.cell? ⟨ga, 1, none⟩ = some (.int .i64 a0_1) := (blk_cell KA.out 1).trans rfl
  have hf3 : w4.drew.frozen? ⟨ga, 1, none⟩ = false := blk_frozen KA.out 1
  have KA := Aside0.mk (show w4.drew.heap[ga]? = _ from KA.out)
  have KC := Aside0.mk (show w4.drew.heap[gc]? = _ from KC.out)
  have HB := Aside0.mk (below_drew1 HB.out)
  have hwz : IntKind.i64.wrap 1 = 1 := by decide
  have HNE := Aside0.mk (show gc ≠ ga from fun e => by have h1 := HN1.out; have h2 := HN2.out; omega)
  refine wp_region_still_tail 10 (by kernel_rfl) (by kernel_rfl) ?_
  change wpStill _ _ w4.drew (fun a' => wpList _ _ _ _ a' w4.drew) _ _
  generalize w4.drew = w5 at *
  simp only [List.take_succ_cons, List.take_zero, List.drop_succ_cons, List.drop_zero]
  still_step
  still_step
  still_step
  still_call (HGc.out _)
  repeat still_step
  refine wpStill_nil ?_
  go_wp2_with ((with_reducible refine gate_store (p := 25) rfl ?_); refine store_event (w1 := w5.setCell ⟨ga, 1, none⟩ (.int .i64 a1_1)) rfl rfl rfl ?hr ?_; (case hr => first | (go_simp; done) | (go_simp; rfl)); intro w6 e6; have KA6 := Aside0.mk (show w6.heap[ga]? = some (.cells #[.int .i64 a0_0, .int .i64 a1_1, .int .i64 a0_2, .int .i64 a0_3, .int .i64 a0_4, .int .i64 a0_5, .int .i64 a0_6, .int .i64 a0_7] 26 (0, 0)) from by rw [e6]; exact blk_put (cs := #[.int .i64 a0_0, .int .i64 a0_1, .int .i64 a0_2, .int .i64 a0_3, .int .i64 a0_4, .int .i64 a0_5, .int .i64 a0_6, .int .i64 a0_7]) KA.out 1 _ rfl); have KC6 := Aside0.mk (show w6.heap[gc]? = some (.cells #[.int .i64 0, .int .i64 0, .int .i64 0, .int .i64 0, .int .i64 0, .int .i64 0, .int .i64 0, .int .i64 0] 26 (0, 0)) from by rw [e6]; exact blk_far KC.out HNE.out _); have HB6 := Aside0.mk (show Below w.heap.size w w6 from by rw [e6]; exact below_set HB.out HGga.out); have hzga_0 : w6.cell? ⟨ga, 0, none⟩ = some (.int .i64 a0_0) := (blk_cell KA6.out 0).trans rfl; have hzga_1 : w6.cell? ⟨ga, 1, none⟩ = some (.int .i64 a1_1) := (blk_cell KA6.out 1).trans rfl; have hzga_2 : w6.cell? ⟨ga, 2, none⟩ = some (.int .i64 a0_2) := (blk_cell KA6.out 2).trans rfl; have hzga_3 : w6.cell? ⟨ga, 3, none⟩ = some (.int .i64 a0_3) := (blk_cell KA6.out 3).trans rfl; have hzga_4 : w6.cell? ⟨ga, 4, none⟩ = some (.int .i64 a0_4) := (blk_cell KA6.out 4).trans rfl; have hzga_5 : w6.cell? ⟨ga, 5, none⟩ = some (.int .i64 a0_5) := (blk_cell KA6.out 5).trans rfl; have hzga_6 : w6.cell? ⟨ga, 6, none⟩ = some (.int .i64 a0_6) := (blk_cell KA6.out 6).trans rfl; have hzga_7 : w6.cell? ⟨ga, 7, none⟩ = some (.int .i64 a0_7) := (blk_cell KA6.out 7).trans rfl; have hzgc_0 : w6.cell? ⟨gc, 0, none⟩ = some (.int .i64 0) := (blk_cell KC6.out 0).trans rfl; have hzgc_1 : w6.cell? ⟨gc, 1, none⟩ = some (.int .i64 0) := (blk_cell KC6.out 1).trans rfl; have hzgc_2 : w6.cell? ⟨gc, 2, none⟩ = some (.int .i64 0) := (blk_cell KC6.out 2).trans rfl; have hzgc_3 : w6.cell? ⟨gc, 3, none⟩ = some (.int .i64 0) := (blk_cell KC6.out 3).trans rfl; have hzgc_4 : w6.cell? ⟨gc, 4, none⟩ = some (.int .i64 0) := (blk_cell KC6.out 4).trans rfl; have hzgc_5 : w6.cell? ⟨gc, 5, none⟩ = some (.int .i64 0) := (blk_cell KC6.out 5).trans rfl; have hzgc_6 : w6.cell? ⟨gc, 6, none⟩ = some (.int .i64 0) := (blk_cell KC6.out 6).trans rfl; have hzgc_7 : w6.cell? ⟨gc, 7, none⟩ = some (.int .i64 0) := (blk_cell KC6.out 7).trans rfl; have hfgc_0 : w6.frozen? ⟨gc, 0, none⟩ = false := blk_frozen KC6.out 0; have hfgc_1 : w6.frozen? ⟨gc, 1, none⟩ = false := blk_frozen KC6.out 1; have hfgc_2 : w6.frozen? ⟨gc, 2, none⟩ = false := blk_frozen KC6.out 2; have hfgc_3 : w6.frozen? ⟨gc, 3, none⟩ = false := blk_frozen KC6.out 3; have hfgc_4 : w6.frozen? ⟨gc, 4, none⟩ = false := blk_frozen KC6.out 4; have hfgc_5 : w6.frozen? ⟨gc, 5, none⟩ = false := blk_frozen KC6.out 5; have hfgc_6 : w6.frozen? ⟨gc, 6, none⟩ = false := blk_frozen KC6.out 6; have hfgc_7 : w6.frozen? ⟨gc, 7, none⟩ = false := blk_frozen KC6.out 7; clear e6)
  refine bodyPost_ret (results_cell_row rfl _ _ gc 26 #[.int .i64 a0_0, .int .i64 a1_1, .int .i64 a0_2, .int .i64 a0_3, .int .i64 a0_4, .int .i64 a0_5, .int .i64 a0_6, .int .i64 a0_7] (0, 0) _ rfl (by refine blk_put (cs := #[.int .i64 a0_0, .int .i64 a1_1, .int .i64 a0_2, .int .i64 a0_3, .int .i64 a0_4, .int .i64 a0_5, .int .i64 a0_6, .int .i64 0]) ?_ 7 _ rfl; refine blk_put (cs := #[.int .i64 a0_0, .int .i64 a1_1, .int .i64 a0_2, .int .i64 a0_3, .int .i64 a0_4, .int .i64 a0_5, .int .i64 0, .int .i64 0]) ?_ 6 _ rfl; refine blk_put (cs := #[.int .i64 a0_0, .int .i64 a1_1, .int .i64 a0_2, .int .i64 a0_3, .int .i64 a0_4, .int .i64 0, .int .i64 0, .int .i64 0]) ?_ 5 _ rfl; refine blk_put (cs := #[.int .i64 a0_0, .int .i64 a1_1, .int .i64 a0_2, .int .i64 a0_3, .int .i64 0, .int .i64 0, .int .i64 0, .int .i64 0]) ?_ 4 _ rfl; refine blk_put (cs := #[.int .i64 a0_0, .int .i64 a1_1, .int .i64 a0_2, .int .i64 0, .int .i64 0, .int .i64 0, .int .i64 0, .int .i64 0]) ?_ 3 _ rfl; refine blk_put (cs := #[.int .i64 a0_0, .int .i64 a1_1, .int .i64 0, .int .i64 0, .int .i64 0, .int .i64 0, .int .i64 0, .int .i64 0]) ?_ 2 _ rfl; refine blk_put (cs := #[.int .i64 a0_0, .int .i64 0, .int .i64 0, .int .i64 0, .int .i64 0, .int .i64 0, .int .i64 0, .int .i64 0]) ?_ 1 _ rfl; refine blk_put (cs := #[.int .i64 0, .int .i64 0, .int .i64 0, .int .i64 0, .int .i64 0, .int .i64 0, .int .i64 0, .int .i64 0]) ?_ 0 _ rfl; exact KC6.out) Try.underlying26 rfl (by kernel_rfl)) rfl ?_
  exact ⟨rfl, by repeat (with_reducible first | exact HB6.out | refine below_set ?_ HGgc.out)⟩
set_option maxHeartbeats 1000000 in
set_option maxRecDepth 100000 in
theorem put_3 (a0_0 : Int) (a0_1 : Int) (a0_2 : Int) (a0_3 : Int) (a0_4 : Int) (a0_5 : Int) (a0_6 : Int) (a0_7 : Int) (a1_0 : Int) (a1_1 : Int) (w : World) (h : (a1_0 == 71) = true) (hg : groupS a1_1 = 3) : Calls Try.prog 54 #[.agg #[.int .i64 a0_0, .int .i64 a0_1, .int .i64 a0_2, .int .i64 a0_3, .int .i64 a0_4, .int .i64 a0_5, .int .i64 a0_6, .int .i64 a0_7], .agg #[.int .u8 a1_0, .int .i64 a1_1]] w fun e w' => e = .returned (.agg #[.int .i64 a0_0, .int .i64 a0_1, .int .i64 a1_1, .int .i64 a0_3, .int .i64 a0_4, .int .i64 a0_5, .int .i64 a0_6, .int .i64 a0_7]) ∧ Below w.heap.size w w' := by
  have hu26 := Try.underlying26
  have hu78 := Try.underlying78
  have HGc : Aside0 (∀ W, Calls Try.prog 14 #[.int .i64 a1_1] W fun e w' => e = .returned (.int .i64 3) ∧ w' = W) := ⟨fun W => hg ▸ Group_is a1_1 W⟩
  clear hg
  have HB := Aside0.mk (Below.refl w.heap.size w)
  go_enter Try.func54, Try.ntmps54
  go_wp2_with (first | ((with_reducible refine gate_dst (N := 2) rfl ?_); refine box_event ?hg (N := 2) ?hd (cs := #[.int .i64 a0_0, .int .i64 a0_1, .int .i64 a0_2, .int .i64 a0_3, .int .i64 a0_4, .int .i64 a0_5, .int .i64 a0_6, .int .i64 a0_7]) (t := 26) ?hr ?_; (case hd => rfl); (case hg => rfl); (case hr => first | (go_simp; done) | (go_simp; rfl)); intro ga hg w1 hbox hb; have KA := Aside0.mk hbox; have HGga := Aside0.mk (by rw [hg]; exact HB.out.size : w.heap.size ≤ ga); have HB := Aside0.mk (below_step HB.out hb); clear hg hbox hb) | ((with_reducible refine gate_dst (N := 3) rfl ?_); refine box_event ?hg (N := 3) ?hd (cs := #[.int .u8 a1_0, .int .i64 a1_1]) (t := 78) ?hr ?_; (case hd => rfl); (case hg => rfl); (case hr => first | (go_simp; done) | (go_simp; rfl)); intro gb hg w2 hbox hb; have KA := Aside0.mk ((hb.block ga (blk_lt KA.out)).trans KA.out); have KB := Aside0.mk hbox; have HGgb := Aside0.mk (by rw [hg]; exact HB.out.size : w.heap.size ≤ gb); have HB := Aside0.mk (below_step HB.out hb); have HN0 := Aside0.mk (show ga < w2.heap.size from blk_lt KA.out); clear hg hbox hb) | ((with_reducible refine gate_dst (N := 4) rfl ?_); refine box_event ?hg (N := 4) ?hd (cs := #[.int .i64 0, .int .i64 0, .int .i64 0, .int .i64 0, .int .i64 0, .int .i64 0, .int .i64 0, .int .i64 0]) (t := 26) ?hr ?_; (case hd => rfl); (case hg => rfl); (case hr => first | (go_simp; done) | (go_simp; rfl)); intro gc hg w3 hbox hb; have KA := Aside0.mk ((hb.block ga (blk_lt KA.out)).trans KA.out); have KB := Aside0.mk ((hb.block gb (blk_lt KB.out)).trans KB.out); have KC := Aside0.mk hbox; have HGgc := Aside0.mk (by rw [hg]; exact HB.out.size : w.heap.size ≤ gc); have HB := Aside0.mk (below_step HB.out hb); have HN1 := Aside0.mk (show gc = w2.heap.size from hg); have HN2 := Aside0.mk (show ga < w2.heap.size from HN0.out); have hw0 : w3.cell? ⟨gb, 0, none⟩ = some (.int .u8 a1_0) := (blk_cell KB.out 0).trans rfl; have hw1 : w3.cell? ⟨gb, 1, none⟩ = some (.int .i64 a1_1) := (blk_cell KB.out 1).trans rfl; clear hg hbox hb) | ((with_reducible refine gate_dst (N := 15) rfl ?_); refine slice_event ?hg (N := 15) ?hd (cs := #[.pointer (some ⟨ga, 0, none⟩), .pointer (some ⟨ga, 1, none⟩), .pointer (some ⟨ga, 2, none⟩), .pointer (some ⟨ga, 3, none⟩), .pointer (some ⟨ga, 4, none⟩)]) (t := 125) (n := 5) ?hr ?_; (case hd => rfl); (case hg => rfl); (case hr => first | (go_simp; done) | (go_simp; rfl)); intro gd hg w4 hbox hb; have KA := Aside0.mk ((hb.block ga (blk_lt KA.out)).trans KA.out); have KB := Aside0.mk ((hb.block gb (blk_lt KB.out)).trans KB.out); have KC := Aside0.mk ((hb.block gc (blk_lt KC.out)).trans KC.out); have KD := Aside0.mk hbox; have HGgd := Aside0.mk (by rw [hg]; exact HB.out.size : w.heap.size ≤ gd); have HB := Aside0.mk (below_step HB.out hb); clear hg hbox hb))
  have hd0 : w4.drew.cell? ⟨gb, 0, none⟩ = some (.int .u8 a1_0) := (blk_cell KB.out 0).trans rfl
  have hd1 : w4.drew.cell? ⟨gb, 1, none⟩ = some (.int .i64 a1_1) := (blk_cell KB.out 1).trans rfl
  have hd2 : w4.drew.cell? ⟨gd, 2, none⟩ = some (.pointer (some ⟨ga, 2, none⟩)) := (blk_cell KD.out 2).trans rfl
  have hd3 : w4.drew.cell? ⟨ga, 2, none⟩ = some (.int .i64 a0_2) := (blk_cell KA.out 2).trans rfl
  have hf3 : w4.drew.frozen? ⟨ga, 2, none⟩ = false := blk_frozen KA.out 2
  have KA := Aside0.mk (show w4.drew.heap[ga]? = _ from KA.out)
  have KC := Aside0.mk (show w4.drew.heap[gc]? = _ from KC.out)
  have HB := Aside0.mk (below_drew1 HB.out)
  have hwz : IntKind.i64.wrap 2 = 2 := by decide
  have HNE := Aside0.mk (show gc ≠ ga from fun e => by have h1 := HN1.out; have h2 := HN2.out; omega)
  refine wp_region_still_tail 10 (by kernel_rfl) (by kernel_rfl) ?_
  change wpStill _ _ w4.drew (fun a' => wpList _ _ _ _ a' w4.drew) _ _
  generalize w4.drew = w5 at *
  simp only [List.take_succ_cons, List.take_zero, List.drop_succ_cons, List.drop_zero]
  still_step
  still_step
  still_step
  still_call (HGc.out _)
  repeat still_step
  refine wpStill_nil ?_
  go_wp2_with ((with_reducible refine gate_store (p := 25) rfl ?_); refine store_event (w1 := w5.setCell ⟨ga, 2, none⟩ (.int .i64 a1_1)) rfl rfl rfl ?hr ?_; (case hr => first | (go_simp; done) | (go_simp; rfl)); intro w6 e6; have KA6 := Aside0.mk (show w6.heap[ga]? = some (.cells #[.int .i64 a0_0, .int .i64 a0_1, .int .i64 a1_1, .int .i64 a0_3, .int .i64 a0_4, .int .i64 a0_5, .int .i64 a0_6, .int .i64 a0_7] 26 (0, 0)) from by rw [e6]; exact blk_put (cs := #[.int .i64 a0_0, .int .i64 a0_1, .int .i64 a0_2, .int .i64 a0_3, .int .i64 a0_4, .int .i64 a0_5, .int .i64 a0_6, .int .i64 a0_7]) KA.out 2 _ rfl); have KC6 := Aside0.mk (show w6.heap[gc]? = some (.cells #[.int .i64 0, .int .i64 0, .int .i64 0, .int .i64 0, .int .i64 0, .int .i64 0, .int .i64 0, .int .i64 0] 26 (0, 0)) from by rw [e6]; exact blk_far KC.out HNE.out _); have HB6 := Aside0.mk (show Below w.heap.size w w6 from by rw [e6]; exact below_set HB.out HGga.out); have hzga_0 : w6.cell? ⟨ga, 0, none⟩ = some (.int .i64 a0_0) := (blk_cell KA6.out 0).trans rfl; have hzga_1 : w6.cell? ⟨ga, 1, none⟩ = some (.int .i64 a0_1) := (blk_cell KA6.out 1).trans rfl; have hzga_2 : w6.cell? ⟨ga, 2, none⟩ = some (.int .i64 a1_1) := (blk_cell KA6.out 2).trans rfl; have hzga_3 : w6.cell? ⟨ga, 3, none⟩ = some (.int .i64 a0_3) := (blk_cell KA6.out 3).trans rfl; have hzga_4 : w6.cell? ⟨ga, 4, none⟩ = some (.int .i64 a0_4) := (blk_cell KA6.out 4).trans rfl; have hzga_5 : w6.cell? ⟨ga, 5, none⟩ = some (.int .i64 a0_5) := (blk_cell KA6.out 5).trans rfl; have hzga_6 : w6.cell? ⟨ga, 6, none⟩ = some (.int .i64 a0_6) := (blk_cell KA6.out 6).trans rfl; have hzga_7 : w6.cell? ⟨ga, 7, none⟩ = some (.int .i64 a0_7) := (blk_cell KA6.out 7).trans rfl; have hzgc_0 : w6.cell? ⟨gc, 0, none⟩ = some (.int .i64 0) := (blk_cell KC6.out 0).trans rfl; have hzgc_1 : w6.cell? ⟨gc, 1, none⟩ = some (.int .i64 0) := (blk_cell KC6.out 1).trans rfl; have hzgc_2 : w6.cell? ⟨gc, 2, none⟩ = some (.int .i64 0) := (blk_cell KC6.out 2).trans rfl; have hzgc_3 : w6.cell? ⟨gc, 3, none⟩ = some (.int .i64 0) := (blk_cell KC6.out 3).trans rfl; have hzgc_4 : w6.cell? ⟨gc, 4, none⟩ = some (.int .i64 0) := (blk_cell KC6.out 4).trans rfl; have hzgc_5 : w6.cell? ⟨gc, 5, none⟩ = some (.int .i64 0) := (blk_cell KC6.out 5).trans rfl; have hzgc_6 : w6.cell? ⟨gc, 6, none⟩ = some (.int .i64 0) := (blk_cell KC6.out 6).trans rfl; have hzgc_7 : w6.cell? ⟨gc, 7, none⟩ = some (.int .i64 0) := (blk_cell KC6.out 7).trans rfl; have hfgc_0 : w6.frozen? ⟨gc, 0, none⟩ = false := blk_frozen KC6.out 0; have hfgc_1 : w6.frozen? ⟨gc, 1, none⟩ = false := blk_frozen KC6.out 1; have hfgc_2 : w6.frozen? ⟨gc, 2, none⟩ = false := blk_frozen KC6.out 2; have hfgc_3 : w6.frozen? ⟨gc, 3, none⟩ = false := blk_frozen KC6.out 3; have hfgc_4 : w6.frozen? ⟨gc, 4, none⟩ = false := blk_frozen KC6.out 4; have hfgc_5 : w6.frozen? ⟨gc, 5, none⟩ = false := blk_frozen KC6.out 5; have hfgc_6 : w6.frozen? ⟨gc, 6, none⟩ = false := blk_frozen KC6.out 6; have hfgc_7 : w6.frozen? ⟨gc, 7, none⟩ = false := blk_frozen KC6.out 7; clear e6)
  refine bodyPost_ret (results_cell_row rfl _ _ gc 26 #[.int .i64 a0_0, .int .i64 a0_1, .int .i64 a1_1, .int .i64 a0_3, .int .i64 a0_4, .int .i64 a0_5, .int .i64 a0_6, .int .i64 a0_7] (0, 0) _ rfl (by refine blk_put (cs := #[.int .i64 a0_0, .int .i64 a0_1, .int .i64 a1_1, .int .i64 a0_3, .int .i64 a0_4, .int .i64 a0_5, .int .i64 a0_6, .int .i64 0]) ?_ 7 _ rfl; refine blk_put (cs := #[.int .i64 a0_0, .int .i64 a0_1, .int .i64 a1_1, .int .i64 a0_3, .int .i64 a0_4, .int .i64 a0_5, .int .i64 0, .int .i64 0]) ?_ 6 _ rfl; refine blk_put (cs := #[.int .i64 a0_0, .int .i64 a0_1, .int .i64 a1_1, .int .i64 a0_3, .int .i64 a0_4, .int .i64 0, .int .i64 0, .int .i64 0]) ?_ 5 _ rfl; refine blk_put (cs := #[.int .i64 a0_0, .int .i64 a0_1, .int .i64 a1_1, .int .i64 a0_3, .int .i64 0, .int .i64 0, .int .i64 0, .int .i64 0]) ?_ 4 _ rfl; refine blk_put (cs := #[.int .i64 a0_0, .int .i64 a0_1, .int .i64 a1_1, .int .i64 0, .int .i64 0, .int .i64 0, .int .i64 0, .int .i64 0]) ?_ 3 _ rfl; refine blk_put (cs := #[.int .i64 a0_0, .int .i64 a0_1, .int .i64 0, .int .i64 0, .int .i64 0, .int .i64 0, .int .i64 0, .int .i64 0]) ?_ 2 _ rfl; refine blk_put (cs := #[.int .i64 a0_0, .int .i64 0, .int .i64 0, .int .i64 0, .int .i64 0, .int .i64 0, .int .i64 0, .int .i64 0]) ?_ 1 _ rfl; refine blk_put (cs := #[.int .i64 0, .int .i64 0, .int .i64 0, .int .i64 0, .int .i64 0, .int .i64 0, .int .i64 0, .int .i64 0]) ?_ 0 _ rfl; exact KC6.out) Try.underlying26 rfl (by kernel_rfl)) rfl ?_
  exact ⟨rfl, by repeat (with_reducible first | exact HB6.out | refine below_set ?_ HGgc.out)⟩
set_option maxHeartbeats 1000000 in
set_option maxRecDepth 100000 in
theorem put_4 (a0_0 : Int) (a0_1 : Int) (a0_2 : Int) (a0_3 : Int) (a0_4 : Int) (a0_5 : Int) (a0_6 : Int) (a0_7 : Int) (a1_0 : Int) (a1_1 : Int) (w : World) (h : (a1_0 == 71) = true) (hg : groupS a1_1 = 4) : Calls Try.prog 54 #[.agg #[.int .i64 a0_0, .int .i64 a0_1, .int .i64 a0_2, .int .i64 a0_3, .int .i64 a0_4, .int .i64 a0_5, .int .i64 a0_6, .int .i64 a0_7], .agg #[.int .u8 a1_0, .int .i64 a1_1]] w fun e w' => e = .returned (.agg #[.int .i64 a0_0, .int .i64 a0_1, .int .i64 a0_2, .int .i64 a1_1, .int .i64 a0_4, .int .i64 a0_5, .int .i64 a0_6, .int .i64 a0_7]) ∧ Below w.heap.size w w' := by
  have hu26 := Try.underlying26
  have hu78 := Try.underlying78
  have HGc : Aside0 (∀ W, Calls Try.prog 14 #[.int .i64 a1_1] W fun e w' => e = .returned (.int .i64 4) ∧ w' = W) := ⟨fun W => hg ▸ Group_is a1_1 W⟩
  clear hg
  have HB := Aside0.mk (Below.refl w.heap.size w)
  go_enter Try.func54, Try.ntmps54
  go_wp2_with (first | ((with_reducible refine gate_dst (N := 2) rfl ?_); refine box_event ?hg (N := 2) ?hd (cs := #[.int .i64 a0_0, .int .i64 a0_1, .int .i64 a0_2, .int .i64 a0_3, .int .i64 a0_4, .int .i64 a0_5, .int .i64 a0_6, .int .i64 a0_7]) (t := 26) ?hr ?_; (case hd => rfl); (case hg => rfl); (case hr => first | (go_simp; done) | (go_simp; rfl)); intro ga hg w1 hbox hb; have KA := Aside0.mk hbox; have HGga := Aside0.mk (by rw [hg]; exact HB.out.size : w.heap.size ≤ ga); have HB := Aside0.mk (below_step HB.out hb); clear hg hbox hb) | ((with_reducible refine gate_dst (N := 3) rfl ?_); refine box_event ?hg (N := 3) ?hd (cs := #[.int .u8 a1_0, .int .i64 a1_1]) (t := 78) ?hr ?_; (case hd => rfl); (case hg => rfl); (case hr => first | (go_simp; done) | (go_simp; rfl)); intro gb hg w2 hbox hb; have KA := Aside0.mk ((hb.block ga (blk_lt KA.out)).trans KA.out); have KB := Aside0.mk hbox; have HGgb := Aside0.mk (by rw [hg]; exact HB.out.size : w.heap.size ≤ gb); have HB := Aside0.mk (below_step HB.out hb); have HN0 := Aside0.mk (show ga < w2.heap.size from blk_lt KA.out); clear hg hbox hb) | ((with_reducible refine gate_dst (N := 4) rfl ?_); refine box_event ?hg (N := 4) ?hd (cs := #[.int .i64 0, .int .i64 0, .int .i64 0, .int .i64 0, .int .i64 0, .int .i64 0, .int .i64 0, .int .i64 0]) (t := 26) ?hr ?_; (case hd => rfl); (case hg => rfl); (case hr => first | (go_simp; done) | (go_simp; rfl)); intro gc hg w3 hbox hb; have KA := Aside0.mk ((hb.block ga (blk_lt KA.out)).trans KA.out); have KB := Aside0.mk ((hb.block gb (blk_lt KB.out)).trans KB.out); have KC := Aside0.mk hbox; have HGgc := Aside0.mk (by rw [hg]; exact HB.out.size : w.heap.size ≤ gc); have HB := Aside0.mk (below_step HB.out hb); have HN1 := Aside0.mk (show gc = w2.heap.size from hg); have HN2 := Aside0.mk (show ga < w2.heap.size from HN0.out); have hw0 : w3.cell? ⟨gb, 0, none⟩ = some (.int .u8 a1_0) := (blk_cell KB.out 0).trans rfl; have hw1 : w3.cell? ⟨gb, 1, none⟩ = some (.int .i64 a1_1) := (blk_cell KB.out 1).trans rfl; clear hg hbox hb) | ((with_reducible refine gate_dst (N := 15) rfl ?_); refine slice_event ?hg (N := 15) ?hd (cs := #[.pointer (some ⟨ga, 0, none⟩), .pointer (some ⟨ga, 1, none⟩), .pointer (some ⟨ga, 2, none⟩), .pointer (some ⟨ga, 3, none⟩), .pointer (some ⟨ga, 4, none⟩)]) (t := 125) (n := 5) ?hr ?_; (case hd => rfl); (case hg => rfl); (case hr => first | (go_simp; done) | (go_simp; rfl)); intro gd hg w4 hbox hb; have KA := Aside0.mk ((hb.block ga (blk_lt KA.out)).trans KA.out); have KB := Aside0.mk ((hb.block gb (blk_lt KB.out)).trans KB.out); have KC := Aside0.mk ((hb.block gc (blk_lt KC.out)).trans KC.out); have KD := Aside0.mk hbox; have HGgd := Aside0.mk (by rw [hg]; exact HB.out.size : w.heap.size ≤ gd); have HB := Aside0.mk (below_step HB.out hb); clear hg hbox hb))
  have hd0 : w4.drew.cell? ⟨gb, 0, none⟩ = some (.int .u8 a1_0) := (blk_cell KB.out 0).trans rfl
  have hd1 : w4.drew.cell? ⟨gb, 1, none⟩ = some (.int .i64 a1_1) := (blk_cell KB.out 1).trans rfl
  have hd2 : w4.drew.cell? ⟨gd, 3, none⟩ = some (.pointer (some ⟨ga, 3, none⟩)) := (blk_cell KD.out 3).trans rfl
  have hd3 : w4.drew.cell? ⟨ga, 3, none⟩ = some (.int .i64 a0_3) := (blk_cell KA.out 3).trans rfl
  have hf3 : w4.drew.frozen? ⟨ga, 3, none⟩ = false := blk_frozen KA.out 3
  have KA := Aside0.mk (show w4.drew.heap[ga]? = _ from KA.out)
  have KC := Aside0.mk (show w4.drew.heap[gc]? = _ from KC.out)
  have HB := Aside0.mk (below_drew1 HB.out)
  have hwz : IntKind.i64.wrap 3 = 3 := by decide
  have HNE := Aside0.mk (show gc ≠ ga from fun e => by have h1 := HN1.out; have h2 := HN2.out; omega)
  refine wp_region_still_tail 10 (by kernel_rfl) (by kernel_rfl) ?_
  change wpStill _ _ w4.drew (fun a' => wpList _ _ _ _ a' w4.drew) _ _
  generalize w4.drew = w5 at *
  simp only [List.take_succ_cons, List.take_zero, List.drop_succ_cons, List.drop_zero]
  still_step
  still_step
  still_step
  still_call (HGc.out _)
  repeat still_step
  refine wpStill_nil ?_
  go_wp2_with ((with_reducible refine gate_store (p := 25) rfl ?_); refine store_event (w1 := w5.setCell ⟨ga, 3, none⟩ (.int .i64 a1_1)) rfl rfl rfl ?hr ?_; (case hr => first | (go_simp; done) | (go_simp; rfl)); intro w6 e6; have KA6 := Aside0.mk (show w6.heap[ga]? = some (.cells #[.int .i64 a0_0, .int .i64 a0_1, .int .i64 a0_2, .int .i64 a1_1, .int .i64 a0_4, .int .i64 a0_5, .int .i64 a0_6, .int .i64 a0_7] 26 (0, 0)) from by rw [e6]; exact blk_put (cs := #[.int .i64 a0_0, .int .i64 a0_1, .int .i64 a0_2, .int .i64 a0_3, .int .i64 a0_4, .int .i64 a0_5, .int .i64 a0_6, .int .i64 a0_7]) KA.out 3 _ rfl); have KC6 := Aside0.mk (show w6.heap[gc]? = some (.cells #[.int .i64 0, .int .i64 0, .int .i64 0, .int .i64 0, .int .i64 0, .int .i64 0, .int .i64 0, .int .i64 0] 26 (0, 0)) from by rw [e6]; exact blk_far KC.out HNE.out _); have HB6 := Aside0.mk (show Below w.heap.size w w6 from by rw [e6]; exact below_set HB.out HGga.out); have hzga_0 : w6.cell? ⟨ga, 0, none⟩ = some (.int .i64 a0_0) := (blk_cell KA6.out 0).trans rfl; have hzga_1 : w6.cell? ⟨ga, 1, none⟩ = some (.int .i64 a0_1) := (blk_cell KA6.out 1).trans rfl; have hzga_2 : w6.cell? ⟨ga, 2, none⟩ = some (.int .i64 a0_2) := (blk_cell KA6.out 2).trans rfl; have hzga_3 : w6.cell? ⟨ga, 3, none⟩ = some (.int .i64 a1_1) := (blk_cell KA6.out 3).trans rfl; have hzga_4 : w6.cell? ⟨ga, 4, none⟩ = some (.int .i64 a0_4) := (blk_cell KA6.out 4).trans rfl; have hzga_5 : w6.cell? ⟨ga, 5, none⟩ = some (.int .i64 a0_5) := (blk_cell KA6.out 5).trans rfl; have hzga_6 : w6.cell? ⟨ga, 6, none⟩ = some (.int .i64 a0_6) := (blk_cell KA6.out 6).trans rfl; have hzga_7 : w6.cell? ⟨ga, 7, none⟩ = some (.int .i64 a0_7) := (blk_cell KA6.out 7).trans rfl; have hzgc_0 : w6.cell? ⟨gc, 0, none⟩ = some (.int .i64 0) := (blk_cell KC6.out 0).trans rfl; have hzgc_1 : w6.cell? ⟨gc, 1, none⟩ = some (.int .i64 0) := (blk_cell KC6.out 1).trans rfl; have hzgc_2 : w6.cell? ⟨gc, 2, none⟩ = some (.int .i64 0) := (blk_cell KC6.out 2).trans rfl; have hzgc_3 : w6.cell? ⟨gc, 3, none⟩ = some (.int .i64 0) := (blk_cell KC6.out 3).trans rfl; have hzgc_4 : w6.cell? ⟨gc, 4, none⟩ = some (.int .i64 0) := (blk_cell KC6.out 4).trans rfl; have hzgc_5 : w6.cell? ⟨gc, 5, none⟩ = some (.int .i64 0) := (blk_cell KC6.out 5).trans rfl; have hzgc_6 : w6.cell? ⟨gc, 6, none⟩ = some (.int .i64 0) := (blk_cell KC6.out 6).trans rfl; have hzgc_7 : w6.cell? ⟨gc, 7, none⟩ = some (.int .i64 0) := (blk_cell KC6.out 7).trans rfl; have hfgc_0 : w6.frozen? ⟨gc, 0, none⟩ = false := blk_frozen KC6.out 0; have hfgc_1 : w6.frozen? ⟨gc, 1, none⟩ = false := blk_frozen KC6.out 1; have hfgc_2 : w6.frozen? ⟨gc, 2, none⟩ = false := blk_frozen KC6.out 2; have hfgc_3 : w6.frozen? ⟨gc, 3, none⟩ = false := blk_frozen KC6.out 3; have hfgc_4 : w6.frozen? ⟨gc, 4, none⟩ = false := blk_frozen KC6.out 4; have hfgc_5 : w6.frozen? ⟨gc, 5, none⟩ = false := blk_frozen KC6.out 5; have hfgc_6 : w6.frozen? ⟨gc, 6, none⟩ = false := blk_frozen KC6.out 6; have hfgc_7 : w6.frozen? ⟨gc, 7, none⟩ = false := blk_frozen KC6.out 7; clear e6)
  refine bodyPost_ret (results_cell_row rfl _ _ gc 26 #[.int .i64 a0_0, .int .i64 a0_1, .int .i64 a0_2, .int .i64 a1_1, .int .i64 a0_4, .int .i64 a0_5, .int .i64 a0_6, .int .i64 a0_7] (0, 0) _ rfl (by refine blk_put (cs := #[.int .i64 a0_0, .int .i64 a0_1, .int .i64 a0_2, .int .i64 a1_1, .int .i64 a0_4, .int .i64 a0_5, .int .i64 a0_6, .int .i64 0]) ?_ 7 _ rfl; refine blk_put (cs := #[.int .i64 a0_0, .int .i64 a0_1, .int .i64 a0_2, .int .i64 a1_1, .int .i64 a0_4, .int .i64 a0_5, .int .i64 0, .int .i64 0]) ?_ 6 _ rfl; refine blk_put (cs := #[.int .i64 a0_0, .int .i64 a0_1, .int .i64 a0_2, .int .i64 a1_1, .int .i64 a0_4, .int .i64 0, .int .i64 0, .int .i64 0]) ?_ 5 _ rfl; refine blk_put (cs := #[.int .i64 a0_0, .int .i64 a0_1, .int .i64 a0_2, .int .i64 a1_1, .int .i64 0, .int .i64 0, .int .i64 0, .int .i64 0]) ?_ 4 _ rfl; refine blk_put (cs := #[.int .i64 a0_0, .int .i64 a0_1, .int .i64 a0_2, .int .i64 0, .int .i64 0, .int .i64 0, .int .i64 0, .int .i64 0]) ?_ 3 _ rfl; refine blk_put (cs := #[.int .i64 a0_0, .int .i64 a0_1, .int .i64 0, .int .i64 0, .int .i64 0, .int .i64 0, .int .i64 0, .int .i64 0]) ?_ 2 _ rfl; refine blk_put (cs := #[.int .i64 a0_0, .int .i64 0, .int .i64 0, .int .i64 0, .int .i64 0, .int .i64 0, .int .i64 0, .int .i64 0]) ?_ 1 _ rfl; refine blk_put (cs := #[.int .i64 0, .int .i64 0, .int .i64 0, .int .i64 0, .int .i64 0, .int .i64 0, .int .i64 0, .int .i64 0]) ?_ 0 _ rfl; exact KC6.out) Try.underlying26 rfl (by kernel_rfl)) rfl ?_
  exact ⟨rfl, by repeat (with_reducible first | exact HB6.out | refine below_set ?_ HGgc.out)⟩
set_option maxHeartbeats 1000000 in
set_option maxRecDepth 100000 in
theorem put_5 (a0_0 : Int) (a0_1 : Int) (a0_2 : Int) (a0_3 : Int) (a0_4 : Int) (a0_5 : Int) (a0_6 : Int) (a0_7 : Int) (a1_0 : Int) (a1_1 : Int) (w : World) (h : (a1_0 == 71) = true) (hg : groupS a1_1 = 5) : Calls Try.prog 54 #[.agg #[.int .i64 a0_0, .int .i64 a0_1, .int .i64 a0_2, .int .i64 a0_3, .int .i64 a0_4, .int .i64 a0_5, .int .i64 a0_6, .int .i64 a0_7], .agg #[.int .u8 a1_0, .int .i64 a1_1]] w fun e w' => e = .returned (.agg #[.int .i64 a0_0, .int .i64 a0_1, .int .i64 a0_2, .int .i64 a0_3, .int .i64 a1_1, .int .i64 a0_5, .int .i64 a0_6, .int .i64 a0_7]) ∧ Below w.heap.size w w' := by
  have hu26 := Try.underlying26
  have hu78 := Try.underlying78
  have HGc : Aside0 (∀ W, Calls Try.prog 14 #[.int .i64 a1_1] W fun e w' => e = .returned (.int .i64 5) ∧ w' = W) := ⟨fun W => hg ▸ Group_is a1_1 W⟩
  clear hg
  have HB := Aside0.mk (Below.refl w.heap.size w)
  go_enter Try.func54, Try.ntmps54
  go_wp2_with (first | ((with_reducible refine gate_dst (N := 2) rfl ?_); refine box_event ?hg (N := 2) ?hd (cs := #[.int .i64 a0_0, .int .i64 a0_1, .int .i64 a0_2, .int .i64 a0_3, .int .i64 a0_4, .int .i64 a0_5, .int .i64 a0_6, .int .i64 a0_7]) (t := 26) ?hr ?_; (case hd => rfl); (case hg => rfl); (case hr => first | (go_simp; done) | (go_simp; rfl)); intro ga hg w1 hbox hb; have KA := Aside0.mk hbox; have HGga := Aside0.mk (by rw [hg]; exact HB.out.size : w.heap.size ≤ ga); have HB := Aside0.mk (below_step HB.out hb); clear hg hbox hb) | ((with_reducible refine gate_dst (N := 3) rfl ?_); refine box_event ?hg (N := 3) ?hd (cs := #[.int .u8 a1_0, .int .i64 a1_1]) (t := 78) ?hr ?_; (case hd => rfl); (case hg => rfl); (case hr => first | (go_simp; done) | (go_simp; rfl)); intro gb hg w2 hbox hb; have KA := Aside0.mk ((hb.block ga (blk_lt KA.out)).trans KA.out); have KB := Aside0.mk hbox; have HGgb := Aside0.mk (by rw [hg]; exact HB.out.size : w.heap.size ≤ gb); have HB := Aside0.mk (below_step HB.out hb); have HN0 := Aside0.mk (show ga < w2.heap.size from blk_lt KA.out); clear hg hbox hb) | ((with_reducible refine gate_dst (N := 4) rfl ?_); refine box_event ?hg (N := 4) ?hd (cs := #[.int .i64 0, .int .i64 0, .int .i64 0, .int .i64 0, .int .i64 0, .int .i64 0, .int .i64 0, .int .i64 0]) (t := 26) ?hr ?_; (case hd => rfl); (case hg => rfl); (case hr => first | (go_simp; done) | (go_simp; rfl)); intro gc hg w3 hbox hb; have KA := Aside0.mk ((hb.block ga (blk_lt KA.out)).trans KA.out); have KB := Aside0.mk ((hb.block gb (blk_lt KB.out)).trans KB.out); have KC := Aside0.mk hbox; have HGgc := Aside0.mk (by rw [hg]; exact HB.out.size : w.heap.size ≤ gc); have HB := Aside0.mk (below_step HB.out hb); have HN1 := Aside0.mk (show gc = w2.heap.size from hg); have HN2 := Aside0.mk (show ga < w2.heap.size from HN0.out); have hw0 : w3.cell? ⟨gb, 0, none⟩ = some (.int .u8 a1_0) := (blk_cell KB.out 0).trans rfl; have hw1 : w3.cell? ⟨gb, 1, none⟩ = some (.int .i64 a1_1) := (blk_cell KB.out 1).trans rfl; clear hg hbox hb) | ((with_reducible refine gate_dst (N := 15) rfl ?_); refine slice_event ?hg (N := 15) ?hd (cs := #[.pointer (some ⟨ga, 0, none⟩), .pointer (some ⟨ga, 1, none⟩), .pointer (some ⟨ga, 2, none⟩), .pointer (some ⟨ga, 3, none⟩), .pointer (some ⟨ga, 4, none⟩)]) (t := 125) (n := 5) ?hr ?_; (case hd => rfl); (case hg => rfl); (case hr => first | (go_simp; done) | (go_simp; rfl)); intro gd hg w4 hbox hb; have KA := Aside0.mk ((hb.block ga (blk_lt KA.out)).trans KA.out); have KB := Aside0.mk ((hb.block gb (blk_lt KB.out)).trans KB.out); have KC := Aside0.mk ((hb.block gc (blk_lt KC.out)).trans KC.out); have KD := Aside0.mk hbox; have HGgd := Aside0.mk (by rw [hg]; exact HB.out.size : w.heap.size ≤ gd); have HB := Aside0.mk (below_step HB.out hb); clear hg hbox hb))
  have hd0 : w4.drew.cell? ⟨gb, 0, none⟩ = some (.int .u8 a1_0) := (blk_cell KB.out 0).trans rfl
  have hd1 : w4.drew.cell? ⟨gb, 1, none⟩ = some (.int .i64 a1_1) := (blk_cell KB.out 1).trans rfl
  have hd2 : w4.drew.cell? ⟨gd, 4, none⟩ = some (.pointer (some ⟨ga, 4, none⟩)) := (blk_cell KD.out 4).trans rfl
  have hd3 : w4.drew.cell? ⟨ga, 4, none⟩ = some (.int .i64 a0_4) := (blk_cell KA.out 4).trans rfl
  have hf3 : w4.drew.frozen? ⟨ga, 4, none⟩ = false := blk_frozen KA.out 4
  have KA := Aside0.mk (show w4.drew.heap[ga]? = _ from KA.out)
  have KC := Aside0.mk (show w4.drew.heap[gc]? = _ from KC.out)
  have HB := Aside0.mk (below_drew1 HB.out)
  have hwz : IntKind.i64.wrap 4 = 4 := by decide
  have HNE := Aside0.mk (show gc ≠ ga from fun e => by have h1 := HN1.out; have h2 := HN2.out; omega)
  refine wp_region_still_tail 10 (by kernel_rfl) (by kernel_rfl) ?_
  change wpStill _ _ w4.drew (fun a' => wpList _ _ _ _ a' w4.drew) _ _
  generalize w4.drew = w5 at *
  simp only [List.take_succ_cons, List.take_zero, List.drop_succ_cons, List.drop_zero]
  still_step
  still_step
  still_step
  still_call (HGc.out _)
  repeat still_step
  refine wpStill_nil ?_
  go_wp2_with ((with_reducible refine gate_store (p := 25) rfl ?_); refine store_event (w1 := w5.setCell ⟨ga, 4, none⟩ (.int .i64 a1_1)) rfl rfl rfl ?hr ?_; (case hr => first | (go_simp; done) | (go_simp; rfl)); intro w6 e6; have KA6 := Aside0.mk (show w6.heap[ga]? = some (.cells #[.int .i64 a0_0, .int .i64 a0_1, .int .i64 a0_2, .int .i64 a0_3, .int .i64 a1_1, .int .i64 a0_5, .int .i64 a0_6, .int .i64 a0_7] 26 (0, 0)) from by rw [e6]; exact blk_put (cs := #[.int .i64 a0_0, .int .i64 a0_1, .int .i64 a0_2, .int .i64 a0_3, .int .i64 a0_4, .int .i64 a0_5, .int .i64 a0_6, .int .i64 a0_7]) KA.out 4 _ rfl); have KC6 := Aside0.mk (show w6.heap[gc]? = some (.cells #[.int .i64 0, .int .i64 0, .int .i64 0, .int .i64 0, .int .i64 0, .int .i64 0, .int .i64 0, .int .i64 0] 26 (0, 0)) from by rw [e6]; exact blk_far KC.out HNE.out _); have HB6 := Aside0.mk (show Below w.heap.size w w6 from by rw [e6]; exact below_set HB.out HGga.out); have hzga_0 : w6.cell? ⟨ga, 0, none⟩ = some (.int .i64 a0_0) := (blk_cell KA6.out 0).trans rfl; have hzga_1 : w6.cell? ⟨ga, 1, none⟩ = some (.int .i64 a0_1) := (blk_cell KA6.out 1).trans rfl; have hzga_2 : w6.cell? ⟨ga, 2, none⟩ = some (.int .i64 a0_2) := (blk_cell KA6.out 2).trans rfl; have hzga_3 : w6.cell? ⟨ga, 3, none⟩ = some (.int .i64 a0_3) := (blk_cell KA6.out 3).trans rfl; have hzga_4 : w6.cell? ⟨ga, 4, none⟩ = some (.int .i64 a1_1) := (blk_cell KA6.out 4).trans rfl; have hzga_5 : w6.cell? ⟨ga, 5, none⟩ = some (.int .i64 a0_5) := (blk_cell KA6.out 5).trans rfl; have hzga_6 : w6.cell? ⟨ga, 6, none⟩ = some (.int .i64 a0_6) := (blk_cell KA6.out 6).trans rfl; have hzga_7 : w6.cell? ⟨ga, 7, none⟩ = some (.int .i64 a0_7) := (blk_cell KA6.out 7).trans rfl; have hzgc_0 : w6.cell? ⟨gc, 0, none⟩ = some (.int .i64 0) := (blk_cell KC6.out 0).trans rfl; have hzgc_1 : w6.cell? ⟨gc, 1, none⟩ = some (.int .i64 0) := (blk_cell KC6.out 1).trans rfl; have hzgc_2 : w6.cell? ⟨gc, 2, none⟩ = some (.int .i64 0) := (blk_cell KC6.out 2).trans rfl; have hzgc_3 : w6.cell? ⟨gc, 3, none⟩ = some (.int .i64 0) := (blk_cell KC6.out 3).trans rfl; have hzgc_4 : w6.cell? ⟨gc, 4, none⟩ = some (.int .i64 0) := (blk_cell KC6.out 4).trans rfl; have hzgc_5 : w6.cell? ⟨gc, 5, none⟩ = some (.int .i64 0) := (blk_cell KC6.out 5).trans rfl; have hzgc_6 : w6.cell? ⟨gc, 6, none⟩ = some (.int .i64 0) := (blk_cell KC6.out 6).trans rfl; have hzgc_7 : w6.cell? ⟨gc, 7, none⟩ = some (.int .i64 0) := (blk_cell KC6.out 7).trans rfl; have hfgc_0 : w6.frozen? ⟨gc, 0, none⟩ = false := blk_frozen KC6.out 0; have hfgc_1 : w6.frozen? ⟨gc, 1, none⟩ = false := blk_frozen KC6.out 1; have hfgc_2 : w6.frozen? ⟨gc, 2, none⟩ = false := blk_frozen KC6.out 2; have hfgc_3 : w6.frozen? ⟨gc, 3, none⟩ = false := blk_frozen KC6.out 3; have hfgc_4 : w6.frozen? ⟨gc, 4, none⟩ = false := blk_frozen KC6.out 4; have hfgc_5 : w6.frozen? ⟨gc, 5, none⟩ = false := blk_frozen KC6.out 5; have hfgc_6 : w6.frozen? ⟨gc, 6, none⟩ = false := blk_frozen KC6.out 6; have hfgc_7 : w6.frozen? ⟨gc, 7, none⟩ = false := blk_frozen KC6.out 7; clear e6)
  refine bodyPost_ret (results_cell_row rfl _ _ gc 26 #[.int .i64 a0_0, .int .i64 a0_1, .int .i64 a0_2, .int .i64 a0_3, .int .i64 a1_1, .int .i64 a0_5, .int .i64 a0_6, .int .i64 a0_7] (0, 0) _ rfl (by refine blk_put (cs := #[.int .i64 a0_0, .int .i64 a0_1, .int .i64 a0_2, .int .i64 a0_3, .int .i64 a1_1, .int .i64 a0_5, .int .i64 a0_6, .int .i64 0]) ?_ 7 _ rfl; refine blk_put (cs := #[.int .i64 a0_0, .int .i64 a0_1, .int .i64 a0_2, .int .i64 a0_3, .int .i64 a1_1, .int .i64 a0_5, .int .i64 0, .int .i64 0]) ?_ 6 _ rfl; refine blk_put (cs := #[.int .i64 a0_0, .int .i64 a0_1, .int .i64 a0_2, .int .i64 a0_3, .int .i64 a1_1, .int .i64 0, .int .i64 0, .int .i64 0]) ?_ 5 _ rfl; refine blk_put (cs := #[.int .i64 a0_0, .int .i64 a0_1, .int .i64 a0_2, .int .i64 a0_3, .int .i64 0, .int .i64 0, .int .i64 0, .int .i64 0]) ?_ 4 _ rfl; refine blk_put (cs := #[.int .i64 a0_0, .int .i64 a0_1, .int .i64 a0_2, .int .i64 0, .int .i64 0, .int .i64 0, .int .i64 0, .int .i64 0]) ?_ 3 _ rfl; refine blk_put (cs := #[.int .i64 a0_0, .int .i64 a0_1, .int .i64 0, .int .i64 0, .int .i64 0, .int .i64 0, .int .i64 0, .int .i64 0]) ?_ 2 _ rfl; refine blk_put (cs := #[.int .i64 a0_0, .int .i64 0, .int .i64 0, .int .i64 0, .int .i64 0, .int .i64 0, .int .i64 0, .int .i64 0]) ?_ 1 _ rfl; refine blk_put (cs := #[.int .i64 0, .int .i64 0, .int .i64 0, .int .i64 0, .int .i64 0, .int .i64 0, .int .i64 0, .int .i64 0]) ?_ 0 _ rfl; exact KC6.out) Try.underlying26 rfl (by kernel_rfl)) rfl ?_
  exact ⟨rfl, by repeat (with_reducible first | exact HB6.out | refine below_set ?_ HGgc.out)⟩
set_option maxHeartbeats 1000000 in
set_option maxRecDepth 100000 in
theorem put_F (a0_0 : Int) (a0_1 : Int) (a0_2 : Int) (a0_3 : Int) (a0_4 : Int) (a0_5 : Int) (a0_6 : Int) (a0_7 : Int) (a1_0 : Int) (a1_1 : Int) (w : World) (h : (a1_0 == 71) = false) (h1 : (a1_0 == 70) = true) : Calls Try.prog 54 #[.agg #[.int .i64 a0_0, .int .i64 a0_1, .int .i64 a0_2, .int .i64 a0_3, .int .i64 a0_4, .int .i64 a0_5, .int .i64 a0_6, .int .i64 a0_7], .agg #[.int .u8 a1_0, .int .i64 a1_1]] w fun e w' => e = .returned (.agg #[.int .i64 a0_0, .int .i64 a0_1, .int .i64 a0_2, .int .i64 a0_3, .int .i64 a0_4, .int .i64 a1_1, .int .i64 a0_6, .int .i64 a0_7]) ∧ Below w.heap.size w w' := by
  have hu26 := Try.underlying26
  have hu78 := Try.underlying78
  have HB := Aside0.mk (Below.refl w.heap.size w)
  go_enter Try.func54, Try.ntmps54
  go_wp2_with (first | ((with_reducible refine gate_dst (N := 2) rfl ?_); refine box_event ?hg (N := 2) ?hd (cs := #[.int .i64 a0_0, .int .i64 a0_1, .int .i64 a0_2, .int .i64 a0_3, .int .i64 a0_4, .int .i64 a0_5, .int .i64 a0_6, .int .i64 a0_7]) (t := 26) ?hr ?_; (case hd => rfl); (case hg => rfl); (case hr => first | (go_simp; done) | (go_simp; rfl)); intro ga hg w1 hbox hb; have KA := Aside0.mk hbox; have HGga := Aside0.mk (by rw [hg]; exact HB.out.size : w.heap.size ≤ ga); have HB := Aside0.mk (below_step HB.out hb); clear hg hbox hb) | ((with_reducible refine gate_dst (N := 3) rfl ?_); refine box_event ?hg (N := 3) ?hd (cs := #[.int .u8 a1_0, .int .i64 a1_1]) (t := 78) ?hr ?_; (case hd => rfl); (case hg => rfl); (case hr => first | (go_simp; done) | (go_simp; rfl)); intro gb hg w2 hbox hb; have KA := Aside0.mk ((hb.block ga (blk_lt KA.out)).trans KA.out); have KB := Aside0.mk hbox; have HGgb := Aside0.mk (by rw [hg]; exact HB.out.size : w.heap.size ≤ gb); have HB := Aside0.mk (below_step HB.out hb); have HN0 := Aside0.mk (show ga < w2.heap.size from blk_lt KA.out); clear hg hbox hb) | ((with_reducible refine gate_dst (N := 4) rfl ?_); refine box_event ?hg (N := 4) ?hd (cs := #[.int .i64 0, .int .i64 0, .int .i64 0, .int .i64 0, .int .i64 0, .int .i64 0, .int .i64 0, .int .i64 0]) (t := 26) ?hr ?_; (case hd => rfl); (case hg => rfl); (case hr => first | (go_simp; done) | (go_simp; rfl)); intro gc hg w3 hbox hb; have KA := Aside0.mk ((hb.block ga (blk_lt KA.out)).trans KA.out); have KB := Aside0.mk ((hb.block gb (blk_lt KB.out)).trans KB.out); have KC := Aside0.mk hbox; have HGgc := Aside0.mk (by rw [hg]; exact HB.out.size : w.heap.size ≤ gc); have HB := Aside0.mk (below_step HB.out hb); have HN1 := Aside0.mk (show gc = w2.heap.size from hg); have HN2 := Aside0.mk (show ga < w2.heap.size from HN0.out); have hw0 : w3.cell? ⟨gb, 0, none⟩ = some (.int .u8 a1_0) := (blk_cell KB.out 0).trans rfl; have hw1 : w3.cell? ⟨gb, 1, none⟩ = some (.int .i64 a1_1) := (blk_cell KB.out 1).trans rfl; have hzga_0 : w3.cell? ⟨ga, 0, none⟩ = some (.int .i64 a0_0) := (blk_cell KA.out 0).trans rfl; have hzga_1 : w3.cell? ⟨ga, 1, none⟩ = some (.int .i64 a0_1) := (blk_cell KA.out 1).trans rfl; have hzga_2 : w3.cell? ⟨ga, 2, none⟩ = some (.int .i64 a0_2) := (blk_cell KA.out 2).trans rfl; have hzga_3 : w3.cell? ⟨ga, 3, none⟩ = some (.int .i64 a0_3) := (blk_cell KA.out 3).trans rfl; have hzga_4 : w3.cell? ⟨ga, 4, none⟩ = some (.int .i64 a0_4) := (blk_cell KA.out 4).trans rfl; have hzga_5 : w3.cell? ⟨ga, 5, none⟩ = some (.int .i64 a0_5) := (blk_cell KA.out 5).trans rfl; have hzga_6 : w3.cell? ⟨ga, 6, none⟩ = some (.int .i64 a0_6) := (blk_cell KA.out 6).trans rfl; have hzga_7 : w3.cell? ⟨ga, 7, none⟩ = some (.int .i64 a0_7) := (blk_cell KA.out 7).trans rfl; have hfga_0 : w3.frozen? ⟨ga, 0, none⟩ = false := blk_frozen KA.out 0; have hfga_1 : w3.frozen? ⟨ga, 1, none⟩ = false := blk_frozen KA.out 1; have hfga_2 : w3.frozen? ⟨ga, 2, none⟩ = false := blk_frozen KA.out 2; have hfga_3 : w3.frozen? ⟨ga, 3, none⟩ = false := blk_frozen KA.out 3; have hfga_4 : w3.frozen? ⟨ga, 4, none⟩ = false := blk_frozen KA.out 4; have hfga_5 : w3.frozen? ⟨ga, 5, none⟩ = false := blk_frozen KA.out 5; have hfga_6 : w3.frozen? ⟨ga, 6, none⟩ = false := blk_frozen KA.out 6; have hfga_7 : w3.frozen? ⟨ga, 7, none⟩ = false := blk_frozen KA.out 7; have hzgc_0 : w3.cell? ⟨gc, 0, none⟩ = some (.int .i64 0) := (blk_cell KC.out 0).trans rfl; have hzgc_1 : w3.cell? ⟨gc, 1, none⟩ = some (.int .i64 0) := (blk_cell KC.out 1).trans rfl; have hzgc_2 : w3.cell? ⟨gc, 2, none⟩ = some (.int .i64 0) := (blk_cell KC.out 2).trans rfl; have hzgc_3 : w3.cell? ⟨gc, 3, none⟩ = some (.int .i64 0) := (blk_cell KC.out 3).trans rfl; have hzgc_4 : w3.cell? ⟨gc, 4, none⟩ = some (.int .i64 0) := (blk_cell KC.out 4).trans rfl; have hzgc_5 : w3.cell? ⟨gc, 5, none⟩ = some (.int .i64 0) := (blk_cell KC.out 5).trans rfl; have hzgc_6 : w3.cell? ⟨gc, 6, none⟩ = some (.int .i64 0) := (blk_cell KC.out 6).trans rfl; have hzgc_7 : w3.cell? ⟨gc, 7, none⟩ = some (.int .i64 0) := (blk_cell KC.out 7).trans rfl; have hfgc_0 : w3.frozen? ⟨gc, 0, none⟩ = false := blk_frozen KC.out 0; have hfgc_1 : w3.frozen? ⟨gc, 1, none⟩ = false := blk_frozen KC.out 1; have hfgc_2 : w3.frozen? ⟨gc, 2, none⟩ = false := blk_frozen KC.out 2; have hfgc_3 : w3.frozen? ⟨gc, 3, none⟩ = false := blk_frozen KC.out 3; have hfgc_4 : w3.frozen? ⟨gc, 4, none⟩ = false := blk_frozen KC.out 4; have hfgc_5 : w3.frozen? ⟨gc, 5, none⟩ = false := blk_frozen KC.out 5; have hfgc_6 : w3.frozen? ⟨gc, 6, none⟩ = false := blk_frozen KC.out 6; have hfgc_7 : w3.frozen? ⟨gc, 7, none⟩ = false := blk_frozen KC.out 7; have HNE := Aside0.mk (show gc ≠ ga from fun e => by have h1 := HN1.out; have h2 := HN2.out; omega); clear hg hbox hb) | ((with_reducible refine gate_store (p := 30) rfl ?_); refine store_event (w1 := w3.setCell ⟨ga, 5, none⟩ (.int .i64 a1_1)) rfl rfl rfl ?hr ?_; (case hr => first | (go_simp; done) | (go_simp; rfl)); intro w6 e6; have KA6 := Aside0.mk (show w6.heap[ga]? = some (.cells #[.int .i64 a0_0, .int .i64 a0_1, .int .i64 a0_2, .int .i64 a0_3, .int .i64 a0_4, .int .i64 a1_1, .int .i64 a0_6, .int .i64 a0_7] 26 (0, 0)) from by rw [e6]; exact blk_put (cs := #[.int .i64 a0_0, .int .i64 a0_1, .int .i64 a0_2, .int .i64 a0_3, .int .i64 a0_4, .int .i64 a0_5, .int .i64 a0_6, .int .i64 a0_7]) KA.out 5 _ rfl); have KC6 := Aside0.mk (show w6.heap[gc]? = some (.cells #[.int .i64 0, .int .i64 0, .int .i64 0, .int .i64 0, .int .i64 0, .int .i64 0, .int .i64 0, .int .i64 0] 26 (0, 0)) from by rw [e6]; exact blk_far KC.out HNE.out _); have HB6 := Aside0.mk (show Below w.heap.size w w6 from by rw [e6]; exact below_set HB.out HGga.out); have hzga_0 : w6.cell? ⟨ga, 0, none⟩ = some (.int .i64 a0_0) := (blk_cell KA6.out 0).trans rfl; have hzga_1 : w6.cell? ⟨ga, 1, none⟩ = some (.int .i64 a0_1) := (blk_cell KA6.out 1).trans rfl; have hzga_2 : w6.cell? ⟨ga, 2, none⟩ = some (.int .i64 a0_2) := (blk_cell KA6.out 2).trans rfl; have hzga_3 : w6.cell? ⟨ga, 3, none⟩ = some (.int .i64 a0_3) := (blk_cell KA6.out 3).trans rfl; have hzga_4 : w6.cell? ⟨ga, 4, none⟩ = some (.int .i64 a0_4) := (blk_cell KA6.out 4).trans rfl; have hzga_5 : w6.cell? ⟨ga, 5, none⟩ = some (.int .i64 a1_1) := (blk_cell KA6.out 5).trans rfl; have hzga_6 : w6.cell? ⟨ga, 6, none⟩ = some (.int .i64 a0_6) := (blk_cell KA6.out 6).trans rfl; have hzga_7 : w6.cell? ⟨ga, 7, none⟩ = some (.int .i64 a0_7) := (blk_cell KA6.out 7).trans rfl; have hzgc_0 : w6.cell? ⟨gc, 0, none⟩ = some (.int .i64 0) := (blk_cell KC6.out 0).trans rfl; have hzgc_1 : w6.cell? ⟨gc, 1, none⟩ = some (.int .i64 0) := (blk_cell KC6.out 1).trans rfl; have hzgc_2 : w6.cell? ⟨gc, 2, none⟩ = some (.int .i64 0) := (blk_cell KC6.out 2).trans rfl; have hzgc_3 : w6.cell? ⟨gc, 3, none⟩ = some (.int .i64 0) := (blk_cell KC6.out 3).trans rfl; have hzgc_4 : w6.cell? ⟨gc, 4, none⟩ = some (.int .i64 0) := (blk_cell KC6.out 4).trans rfl; have hzgc_5 : w6.cell? ⟨gc, 5, none⟩ = some (.int .i64 0) := (blk_cell KC6.out 5).trans rfl; have hzgc_6 : w6.cell? ⟨gc, 6, none⟩ = some (.int .i64 0) := (blk_cell KC6.out 6).trans rfl; have hzgc_7 : w6.cell? ⟨gc, 7, none⟩ = some (.int .i64 0) := (blk_cell KC6.out 7).trans rfl; have hfgc_0 : w6.frozen? ⟨gc, 0, none⟩ = false := blk_frozen KC6.out 0; have hfgc_1 : w6.frozen? ⟨gc, 1, none⟩ = false := blk_frozen KC6.out 1; have hfgc_2 : w6.frozen? ⟨gc, 2, none⟩ = false := blk_frozen KC6.out 2; have hfgc_3 : w6.frozen? ⟨gc, 3, none⟩ = false := blk_frozen KC6.out 3; have hfgc_4 : w6.frozen? ⟨gc, 4, none⟩ = false := blk_frozen KC6.out 4; have hfgc_5 : w6.frozen? ⟨gc, 5, none⟩ = false := blk_frozen KC6.out 5; have hfgc_6 : w6.frozen? ⟨gc, 6, none⟩ = false := blk_frozen KC6.out 6; have hfgc_7 : w6.frozen? ⟨gc, 7, none⟩ = false := blk_frozen KC6.out 7; clear e6))
  refine bodyPost_ret (results_cell_row rfl _ _ gc 26 #[.int .i64 a0_0, .int .i64 a0_1, .int .i64 a0_2, .int .i64 a0_3, .int .i64 a0_4, .int .i64 a1_1, .int .i64 a0_6, .int .i64 a0_7] (0, 0) _ rfl (by refine blk_put (cs := #[.int .i64 a0_0, .int .i64 a0_1, .int .i64 a0_2, .int .i64 a0_3, .int .i64 a0_4, .int .i64 a1_1, .int .i64 a0_6, .int .i64 0]) ?_ 7 _ rfl; refine blk_put (cs := #[.int .i64 a0_0, .int .i64 a0_1, .int .i64 a0_2, .int .i64 a0_3, .int .i64 a0_4, .int .i64 a1_1, .int .i64 0, .int .i64 0]) ?_ 6 _ rfl; refine blk_put (cs := #[.int .i64 a0_0, .int .i64 a0_1, .int .i64 a0_2, .int .i64 a0_3, .int .i64 a0_4, .int .i64 0, .int .i64 0, .int .i64 0]) ?_ 5 _ rfl; refine blk_put (cs := #[.int .i64 a0_0, .int .i64 a0_1, .int .i64 a0_2, .int .i64 a0_3, .int .i64 0, .int .i64 0, .int .i64 0, .int .i64 0]) ?_ 4 _ rfl; refine blk_put (cs := #[.int .i64 a0_0, .int .i64 a0_1, .int .i64 a0_2, .int .i64 0, .int .i64 0, .int .i64 0, .int .i64 0, .int .i64 0]) ?_ 3 _ rfl; refine blk_put (cs := #[.int .i64 a0_0, .int .i64 a0_1, .int .i64 0, .int .i64 0, .int .i64 0, .int .i64 0, .int .i64 0, .int .i64 0]) ?_ 2 _ rfl; refine blk_put (cs := #[.int .i64 a0_0, .int .i64 0, .int .i64 0, .int .i64 0, .int .i64 0, .int .i64 0, .int .i64 0, .int .i64 0]) ?_ 1 _ rfl; refine blk_put (cs := #[.int .i64 0, .int .i64 0, .int .i64 0, .int .i64 0, .int .i64 0, .int .i64 0, .int .i64 0, .int .i64 0]) ?_ 0 _ rfl; exact KC6.out) Try.underlying26 rfl (by kernel_rfl)) rfl ?_
  exact ⟨rfl, by repeat (with_reducible first | exact HB6.out | refine below_set ?_ HGgc.out)⟩
set_option maxHeartbeats 1000000 in
set_option maxRecDepth 100000 in
theorem put_T (a0_0 : Int) (a0_1 : Int) (a0_2 : Int) (a0_3 : Int) (a0_4 : Int) (a0_5 : Int) (a0_6 : Int) (a0_7 : Int) (a1_0 : Int) (a1_1 : Int) (w : World) (h : (a1_0 == 71) = false) (h1 : (a1_0 == 70) = false) (h2 : (a1_0 == 84) = true) : Calls Try.prog 54 #[.agg #[.int .i64 a0_0, .int .i64 a0_1, .int .i64 a0_2, .int .i64 a0_3, .int .i64 a0_4, .int .i64 a0_5, .int .i64 a0_6, .int .i64 a0_7], .agg #[.int .u8 a1_0, .int .i64 a1_1]] w fun e w' => e = .returned (.agg #[.int .i64 a0_0, .int .i64 a0_1, .int .i64 a0_2, .int .i64 a0_3, .int .i64 a0_4, .int .i64 a0_5, .int .i64 a1_1, .int .i64 a0_7]) ∧ Below w.heap.size w w' := by
  have hu26 := Try.underlying26
  have hu78 := Try.underlying78
  have HB := Aside0.mk (Below.refl w.heap.size w)
  go_enter Try.func54, Try.ntmps54
  go_wp2_with (first | ((with_reducible refine gate_dst (N := 2) rfl ?_); refine box_event ?hg (N := 2) ?hd (cs := #[.int .i64 a0_0, .int .i64 a0_1, .int .i64 a0_2, .int .i64 a0_3, .int .i64 a0_4, .int .i64 a0_5, .int .i64 a0_6, .int .i64 a0_7]) (t := 26) ?hr ?_; (case hd => rfl); (case hg => rfl); (case hr => first | (go_simp; done) | (go_simp; rfl)); intro ga hg w1 hbox hb; have KA := Aside0.mk hbox; have HGga := Aside0.mk (by rw [hg]; exact HB.out.size : w.heap.size ≤ ga); have HB := Aside0.mk (below_step HB.out hb); clear hg hbox hb) | ((with_reducible refine gate_dst (N := 3) rfl ?_); refine box_event ?hg (N := 3) ?hd (cs := #[.int .u8 a1_0, .int .i64 a1_1]) (t := 78) ?hr ?_; (case hd => rfl); (case hg => rfl); (case hr => first | (go_simp; done) | (go_simp; rfl)); intro gb hg w2 hbox hb; have KA := Aside0.mk ((hb.block ga (blk_lt KA.out)).trans KA.out); have KB := Aside0.mk hbox; have HGgb := Aside0.mk (by rw [hg]; exact HB.out.size : w.heap.size ≤ gb); have HB := Aside0.mk (below_step HB.out hb); have HN0 := Aside0.mk (show ga < w2.heap.size from blk_lt KA.out); clear hg hbox hb) | ((with_reducible refine gate_dst (N := 4) rfl ?_); refine box_event ?hg (N := 4) ?hd (cs := #[.int .i64 0, .int .i64 0, .int .i64 0, .int .i64 0, .int .i64 0, .int .i64 0, .int .i64 0, .int .i64 0]) (t := 26) ?hr ?_; (case hd => rfl); (case hg => rfl); (case hr => first | (go_simp; done) | (go_simp; rfl)); intro gc hg w3 hbox hb; have KA := Aside0.mk ((hb.block ga (blk_lt KA.out)).trans KA.out); have KB := Aside0.mk ((hb.block gb (blk_lt KB.out)).trans KB.out); have KC := Aside0.mk hbox; have HGgc := Aside0.mk (by rw [hg]; exact HB.out.size : w.heap.size ≤ gc); have HB := Aside0.mk (below_step HB.out hb); have HN1 := Aside0.mk (show gc = w2.heap.size from hg); have HN2 := Aside0.mk (show ga < w2.heap.size from HN0.out); have hw0 : w3.cell? ⟨gb, 0, none⟩ = some (.int .u8 a1_0) := (blk_cell KB.out 0).trans rfl; have hw1 : w3.cell? ⟨gb, 1, none⟩ = some (.int .i64 a1_1) := (blk_cell KB.out 1).trans rfl; have hzga_0 : w3.cell? ⟨ga, 0, none⟩ = some (.int .i64 a0_0) := (blk_cell KA.out 0).trans rfl; have hzga_1 : w3.cell? ⟨ga, 1, none⟩ = some (.int .i64 a0_1) := (blk_cell KA.out 1).trans rfl; have hzga_2 : w3.cell? ⟨ga, 2, none⟩ = some (.int .i64 a0_2) := (blk_cell KA.out 2).trans rfl; have hzga_3 : w3.cell? ⟨ga, 3, none⟩ = some (.int .i64 a0_3) := (blk_cell KA.out 3).trans rfl; have hzga_4 : w3.cell? ⟨ga, 4, none⟩ = some (.int .i64 a0_4) := (blk_cell KA.out 4).trans rfl; have hzga_5 : w3.cell? ⟨ga, 5, none⟩ = some (.int .i64 a0_5) := (blk_cell KA.out 5).trans rfl; have hzga_6 : w3.cell? ⟨ga, 6, none⟩ = some (.int .i64 a0_6) := (blk_cell KA.out 6).trans rfl; have hzga_7 : w3.cell? ⟨ga, 7, none⟩ = some (.int .i64 a0_7) := (blk_cell KA.out 7).trans rfl; have hfga_0 : w3.frozen? ⟨ga, 0, none⟩ = false := blk_frozen KA.out 0; have hfga_1 : w3.frozen? ⟨ga, 1, none⟩ = false := blk_frozen KA.out 1; have hfga_2 : w3.frozen? ⟨ga, 2, none⟩ = false := blk_frozen KA.out 2; have hfga_3 : w3.frozen? ⟨ga, 3, none⟩ = false := blk_frozen KA.out 3; have hfga_4 : w3.frozen? ⟨ga, 4, none⟩ = false := blk_frozen KA.out 4; have hfga_5 : w3.frozen? ⟨ga, 5, none⟩ = false := blk_frozen KA.out 5; have hfga_6 : w3.frozen? ⟨ga, 6, none⟩ = false := blk_frozen KA.out 6; have hfga_7 : w3.frozen? ⟨ga, 7, none⟩ = false := blk_frozen KA.out 7; have hzgc_0 : w3.cell? ⟨gc, 0, none⟩ = some (.int .i64 0) := (blk_cell KC.out 0).trans rfl; have hzgc_1 : w3.cell? ⟨gc, 1, none⟩ = some (.int .i64 0) := (blk_cell KC.out 1).trans rfl; have hzgc_2 : w3.cell? ⟨gc, 2, none⟩ = some (.int .i64 0) := (blk_cell KC.out 2).trans rfl; have hzgc_3 : w3.cell? ⟨gc, 3, none⟩ = some (.int .i64 0) := (blk_cell KC.out 3).trans rfl; have hzgc_4 : w3.cell? ⟨gc, 4, none⟩ = some (.int .i64 0) := (blk_cell KC.out 4).trans rfl; have hzgc_5 : w3.cell? ⟨gc, 5, none⟩ = some (.int .i64 0) := (blk_cell KC.out 5).trans rfl; have hzgc_6 : w3.cell? ⟨gc, 6, none⟩ = some (.int .i64 0) := (blk_cell KC.out 6).trans rfl; have hzgc_7 : w3.cell? ⟨gc, 7, none⟩ = some (.int .i64 0) := (blk_cell KC.out 7).trans rfl; have hfgc_0 : w3.frozen? ⟨gc, 0, none⟩ = false := blk_frozen KC.out 0; have hfgc_1 : w3.frozen? ⟨gc, 1, none⟩ = false := blk_frozen KC.out 1; have hfgc_2 : w3.frozen? ⟨gc, 2, none⟩ = false := blk_frozen KC.out 2; have hfgc_3 : w3.frozen? ⟨gc, 3, none⟩ = false := blk_frozen KC.out 3; have hfgc_4 : w3.frozen? ⟨gc, 4, none⟩ = false := blk_frozen KC.out 4; have hfgc_5 : w3.frozen? ⟨gc, 5, none⟩ = false := blk_frozen KC.out 5; have hfgc_6 : w3.frozen? ⟨gc, 6, none⟩ = false := blk_frozen KC.out 6; have hfgc_7 : w3.frozen? ⟨gc, 7, none⟩ = false := blk_frozen KC.out 7; have HNE := Aside0.mk (show gc ≠ ga from fun e => by have h1 := HN1.out; have h2 := HN2.out; omega); clear hg hbox hb) | ((with_reducible refine gate_store (p := 35) rfl ?_); refine store_event (w1 := w3.setCell ⟨ga, 6, none⟩ (.int .i64 a1_1)) rfl rfl rfl ?hr ?_; (case hr => first | (go_simp; done) | (go_simp; rfl)); intro w6 e6; have KA6 := Aside0.mk (show w6.heap[ga]? = some (.cells #[.int .i64 a0_0, .int .i64 a0_1, .int .i64 a0_2, .int .i64 a0_3, .int .i64 a0_4, .int .i64 a0_5, .int .i64 a1_1, .int .i64 a0_7] 26 (0, 0)) from by rw [e6]; exact blk_put (cs := #[.int .i64 a0_0, .int .i64 a0_1, .int .i64 a0_2, .int .i64 a0_3, .int .i64 a0_4, .int .i64 a0_5, .int .i64 a0_6, .int .i64 a0_7]) KA.out 6 _ rfl); have KC6 := Aside0.mk (show w6.heap[gc]? = some (.cells #[.int .i64 0, .int .i64 0, .int .i64 0, .int .i64 0, .int .i64 0, .int .i64 0, .int .i64 0, .int .i64 0] 26 (0, 0)) from by rw [e6]; exact blk_far KC.out HNE.out _); have HB6 := Aside0.mk (show Below w.heap.size w w6 from by rw [e6]; exact below_set HB.out HGga.out); have hzga_0 : w6.cell? ⟨ga, 0, none⟩ = some (.int .i64 a0_0) := (blk_cell KA6.out 0).trans rfl; have hzga_1 : w6.cell? ⟨ga, 1, none⟩ = some (.int .i64 a0_1) := (blk_cell KA6.out 1).trans rfl; have hzga_2 : w6.cell? ⟨ga, 2, none⟩ = some (.int .i64 a0_2) := (blk_cell KA6.out 2).trans rfl; have hzga_3 : w6.cell? ⟨ga, 3, none⟩ = some (.int .i64 a0_3) := (blk_cell KA6.out 3).trans rfl; have hzga_4 : w6.cell? ⟨ga, 4, none⟩ = some (.int .i64 a0_4) := (blk_cell KA6.out 4).trans rfl; have hzga_5 : w6.cell? ⟨ga, 5, none⟩ = some (.int .i64 a0_5) := (blk_cell KA6.out 5).trans rfl; have hzga_6 : w6.cell? ⟨ga, 6, none⟩ = some (.int .i64 a1_1) := (blk_cell KA6.out 6).trans rfl; have hzga_7 : w6.cell? ⟨ga, 7, none⟩ = some (.int .i64 a0_7) := (blk_cell KA6.out 7).trans rfl; have hzgc_0 : w6.cell? ⟨gc, 0, none⟩ = some (.int .i64 0) := (blk_cell KC6.out 0).trans rfl; have hzgc_1 : w6.cell? ⟨gc, 1, none⟩ = some (.int .i64 0) := (blk_cell KC6.out 1).trans rfl; have hzgc_2 : w6.cell? ⟨gc, 2, none⟩ = some (.int .i64 0) := (blk_cell KC6.out 2).trans rfl; have hzgc_3 : w6.cell? ⟨gc, 3, none⟩ = some (.int .i64 0) := (blk_cell KC6.out 3).trans rfl; have hzgc_4 : w6.cell? ⟨gc, 4, none⟩ = some (.int .i64 0) := (blk_cell KC6.out 4).trans rfl; have hzgc_5 : w6.cell? ⟨gc, 5, none⟩ = some (.int .i64 0) := (blk_cell KC6.out 5).trans rfl; have hzgc_6 : w6.cell? ⟨gc, 6, none⟩ = some (.int .i64 0) := (blk_cell KC6.out 6).trans rfl; have hzgc_7 : w6.cell? ⟨gc, 7, none⟩ = some (.int .i64 0) := (blk_cell KC6.out 7).trans rfl; have hfgc_0 : w6.frozen? ⟨gc, 0, none⟩ = false := blk_frozen KC6.out 0; have hfgc_1 : w6.frozen? ⟨gc, 1, none⟩ = false := blk_frozen KC6.out 1; have hfgc_2 : w6.frozen? ⟨gc, 2, none⟩ = false := blk_frozen KC6.out 2; have hfgc_3 : w6.frozen? ⟨gc, 3, none⟩ = false := blk_frozen KC6.out 3; have hfgc_4 : w6.frozen? ⟨gc, 4, none⟩ = false := blk_frozen KC6.out 4; have hfgc_5 : w6.frozen? ⟨gc, 5, none⟩ = false := blk_frozen KC6.out 5; have hfgc_6 : w6.frozen? ⟨gc, 6, none⟩ = false := blk_frozen KC6.out 6; have hfgc_7 : w6.frozen? ⟨gc, 7, none⟩ = false := blk_frozen KC6.out 7; clear e6))
  refine bodyPost_ret (results_cell_row rfl _ _ gc 26 #[.int .i64 a0_0, .int .i64 a0_1, .int .i64 a0_2, .int .i64 a0_3, .int .i64 a0_4, .int .i64 a0_5, .int .i64 a1_1, .int .i64 a0_7] (0, 0) _ rfl (by refine blk_put (cs := #[.int .i64 a0_0, .int .i64 a0_1, .int .i64 a0_2, .int .i64 a0_3, .int .i64 a0_4, .int .i64 a0_5, .int .i64 a1_1, .int .i64 0]) ?_ 7 _ rfl; refine blk_put (cs := #[.int .i64 a0_0, .int .i64 a0_1, .int .i64 a0_2, .int .i64 a0_3, .int .i64 a0_4, .int .i64 a0_5, .int .i64 0, .int .i64 0]) ?_ 6 _ rfl; refine blk_put (cs := #[.int .i64 a0_0, .int .i64 a0_1, .int .i64 a0_2, .int .i64 a0_3, .int .i64 a0_4, .int .i64 0, .int .i64 0, .int .i64 0]) ?_ 5 _ rfl; refine blk_put (cs := #[.int .i64 a0_0, .int .i64 a0_1, .int .i64 a0_2, .int .i64 a0_3, .int .i64 0, .int .i64 0, .int .i64 0, .int .i64 0]) ?_ 4 _ rfl; refine blk_put (cs := #[.int .i64 a0_0, .int .i64 a0_1, .int .i64 a0_2, .int .i64 0, .int .i64 0, .int .i64 0, .int .i64 0, .int .i64 0]) ?_ 3 _ rfl; refine blk_put (cs := #[.int .i64 a0_0, .int .i64 a0_1, .int .i64 0, .int .i64 0, .int .i64 0, .int .i64 0, .int .i64 0, .int .i64 0]) ?_ 2 _ rfl; refine blk_put (cs := #[.int .i64 a0_0, .int .i64 0, .int .i64 0, .int .i64 0, .int .i64 0, .int .i64 0, .int .i64 0, .int .i64 0]) ?_ 1 _ rfl; refine blk_put (cs := #[.int .i64 0, .int .i64 0, .int .i64 0, .int .i64 0, .int .i64 0, .int .i64 0, .int .i64 0, .int .i64 0]) ?_ 0 _ rfl; exact KC6.out) Try.underlying26 rfl (by kernel_rfl)) rfl ?_
  exact ⟨rfl, by repeat (with_reducible first | exact HB6.out | refine below_set ?_ HGgc.out)⟩
set_option maxHeartbeats 1000000 in
set_option maxRecDepth 100000 in
theorem put_H (a0_0 : Int) (a0_1 : Int) (a0_2 : Int) (a0_3 : Int) (a0_4 : Int) (a0_5 : Int) (a0_6 : Int) (a0_7 : Int) (a1_0 : Int) (a1_1 : Int) (w : World) (h : (a1_0 == 71) = false) (h1 : (a1_0 == 70) = false) (h2 : (a1_0 == 84) = false) (h3 : (a1_0 == 72) = true) : Calls Try.prog 54 #[.agg #[.int .i64 a0_0, .int .i64 a0_1, .int .i64 a0_2, .int .i64 a0_3, .int .i64 a0_4, .int .i64 a0_5, .int .i64 a0_6, .int .i64 a0_7], .agg #[.int .u8 a1_0, .int .i64 a1_1]] w fun e w' => e = .returned (.agg #[.int .i64 a0_0, .int .i64 a0_1, .int .i64 a0_2, .int .i64 a0_3, .int .i64 a0_4, .int .i64 a0_5, .int .i64 a0_6, .int .i64 a1_1]) ∧ Below w.heap.size w w' := by
  have hu26 := Try.underlying26
  have hu78 := Try.underlying78
  have HB := Aside0.mk (Below.refl w.heap.size w)
  go_enter Try.func54, Try.ntmps54
  go_wp2_with (first | ((with_reducible refine gate_dst (N := 2) rfl ?_); refine box_event ?hg (N := 2) ?hd (cs := #[.int .i64 a0_0, .int .i64 a0_1, .int .i64 a0_2, .int .i64 a0_3, .int .i64 a0_4, .int .i64 a0_5, .int .i64 a0_6, .int .i64 a0_7]) (t := 26) ?hr ?_; (case hd => rfl); (case hg => rfl); (case hr => first | (go_simp; done) | (go_simp; rfl)); intro ga hg w1 hbox hb; have KA := Aside0.mk hbox; have HGga := Aside0.mk (by rw [hg]; exact HB.out.size : w.heap.size ≤ ga); have HB := Aside0.mk (below_step HB.out hb); clear hg hbox hb) | ((with_reducible refine gate_dst (N := 3) rfl ?_); refine box_event ?hg (N := 3) ?hd (cs := #[.int .u8 a1_0, .int .i64 a1_1]) (t := 78) ?hr ?_; (case hd => rfl); (case hg => rfl); (case hr => first | (go_simp; done) | (go_simp; rfl)); intro gb hg w2 hbox hb; have KA := Aside0.mk ((hb.block ga (blk_lt KA.out)).trans KA.out); have KB := Aside0.mk hbox; have HGgb := Aside0.mk (by rw [hg]; exact HB.out.size : w.heap.size ≤ gb); have HB := Aside0.mk (below_step HB.out hb); have HN0 := Aside0.mk (show ga < w2.heap.size from blk_lt KA.out); clear hg hbox hb) | ((with_reducible refine gate_dst (N := 4) rfl ?_); refine box_event ?hg (N := 4) ?hd (cs := #[.int .i64 0, .int .i64 0, .int .i64 0, .int .i64 0, .int .i64 0, .int .i64 0, .int .i64 0, .int .i64 0]) (t := 26) ?hr ?_; (case hd => rfl); (case hg => rfl); (case hr => first | (go_simp; done) | (go_simp; rfl)); intro gc hg w3 hbox hb; have KA := Aside0.mk ((hb.block ga (blk_lt KA.out)).trans KA.out); have KB := Aside0.mk ((hb.block gb (blk_lt KB.out)).trans KB.out); have KC := Aside0.mk hbox; have HGgc := Aside0.mk (by rw [hg]; exact HB.out.size : w.heap.size ≤ gc); have HB := Aside0.mk (below_step HB.out hb); have HN1 := Aside0.mk (show gc = w2.heap.size from hg); have HN2 := Aside0.mk (show ga < w2.heap.size from HN0.out); have hw0 : w3.cell? ⟨gb, 0, none⟩ = some (.int .u8 a1_0) := (blk_cell KB.out 0).trans rfl; have hw1 : w3.cell? ⟨gb, 1, none⟩ = some (.int .i64 a1_1) := (blk_cell KB.out 1).trans rfl; have hzga_0 : w3.cell? ⟨ga, 0, none⟩ = some (.int .i64 a0_0) := (blk_cell KA.out 0).trans rfl; have hzga_1 : w3.cell? ⟨ga, 1, none⟩ = some (.int .i64 a0_1) := (blk_cell KA.out 1).trans rfl; have hzga_2 : w3.cell? ⟨ga, 2, none⟩ = some (.int .i64 a0_2) := (blk_cell KA.out 2).trans rfl; have hzga_3 : w3.cell? ⟨ga, 3, none⟩ = some (.int .i64 a0_3) := (blk_cell KA.out 3).trans rfl; have hzga_4 : w3.cell? ⟨ga, 4, none⟩ = some (.int .i64 a0_4) := (blk_cell KA.out 4).trans rfl; have hzga_5 : w3.cell? ⟨ga, 5, none⟩ = some (.int .i64 a0_5) := (blk_cell KA.out 5).trans rfl; have hzga_6 : w3.cell? ⟨ga, 6, none⟩ = some (.int .i64 a0_6) := (blk_cell KA.out 6).trans rfl; have hzga_7 : w3.cell? ⟨ga, 7, none⟩ = some (.int .i64 a0_7) := (blk_cell KA.out 7).trans rfl; have hfga_0 : w3.frozen? ⟨ga, 0, none⟩ = false := blk_frozen KA.out 0; have hfga_1 : w3.frozen? ⟨ga, 1, none⟩ = false := blk_frozen KA.out 1; have hfga_2 : w3.frozen? ⟨ga, 2, none⟩ = false := blk_frozen KA.out 2; have hfga_3 : w3.frozen? ⟨ga, 3, none⟩ = false := blk_frozen KA.out 3; have hfga_4 : w3.frozen? ⟨ga, 4, none⟩ = false := blk_frozen KA.out 4; have hfga_5 : w3.frozen? ⟨ga, 5, none⟩ = false := blk_frozen KA.out 5; have hfga_6 : w3.frozen? ⟨ga, 6, none⟩ = false := blk_frozen KA.out 6; have hfga_7 : w3.frozen? ⟨ga, 7, none⟩ = false := blk_frozen KA.out 7; have hzgc_0 : w3.cell? ⟨gc, 0, none⟩ = some (.int .i64 0) := (blk_cell KC.out 0).trans rfl; have hzgc_1 : w3.cell? ⟨gc, 1, none⟩ = some (.int .i64 0) := (blk_cell KC.out 1).trans rfl; have hzgc_2 : w3.cell? ⟨gc, 2, none⟩ = some (.int .i64 0) := (blk_cell KC.out 2).trans rfl; have hzgc_3 : w3.cell? ⟨gc, 3, none⟩ = some (.int .i64 0) := (blk_cell KC.out 3).trans rfl; have hzgc_4 : w3.cell? ⟨gc, 4, none⟩ = some (.int .i64 0) := (blk_cell KC.out 4).trans rfl; have hzgc_5 : w3.cell? ⟨gc, 5, none⟩ = some (.int .i64 0) := (blk_cell KC.out 5).trans rfl; have hzgc_6 : w3.cell? ⟨gc, 6, none⟩ = some (.int .i64 0) := (blk_cell KC.out 6).trans rfl; have hzgc_7 : w3.cell? ⟨gc, 7, none⟩ = some (.int .i64 0) := (blk_cell KC.out 7).trans rfl; have hfgc_0 : w3.frozen? ⟨gc, 0, none⟩ = false := blk_frozen KC.out 0; have hfgc_1 : w3.frozen? ⟨gc, 1, none⟩ = false := blk_frozen KC.out 1; have hfgc_2 : w3.frozen? ⟨gc, 2, none⟩ = false := blk_frozen KC.out 2; have hfgc_3 : w3.frozen? ⟨gc, 3, none⟩ = false := blk_frozen KC.out 3; have hfgc_4 : w3.frozen? ⟨gc, 4, none⟩ = false := blk_frozen KC.out 4; have hfgc_5 : w3.frozen? ⟨gc, 5, none⟩ = false := blk_frozen KC.out 5; have hfgc_6 : w3.frozen? ⟨gc, 6, none⟩ = false := blk_frozen KC.out 6; have hfgc_7 : w3.frozen? ⟨gc, 7, none⟩ = false := blk_frozen KC.out 7; have HNE := Aside0.mk (show gc ≠ ga from fun e => by have h1 := HN1.out; have h2 := HN2.out; omega); clear hg hbox hb) | ((with_reducible refine gate_store (p := 40) rfl ?_); refine store_event (w1 := w3.setCell ⟨ga, 7, none⟩ (.int .i64 a1_1)) rfl rfl rfl ?hr ?_; (case hr => first | (go_simp; done) | (go_simp; rfl)); intro w6 e6; have KA6 := Aside0.mk (show w6.heap[ga]? = some (.cells #[.int .i64 a0_0, .int .i64 a0_1, .int .i64 a0_2, .int .i64 a0_3, .int .i64 a0_4, .int .i64 a0_5, .int .i64 a0_6, .int .i64 a1_1] 26 (0, 0)) from by rw [e6]; exact blk_put (cs := #[.int .i64 a0_0, .int .i64 a0_1, .int .i64 a0_2, .int .i64 a0_3, .int .i64 a0_4, .int .i64 a0_5, .int .i64 a0_6, .int .i64 a0_7]) KA.out 7 _ rfl); have KC6 := Aside0.mk (show w6.heap[gc]? = some (.cells #[.int .i64 0, .int .i64 0, .int .i64 0, .int .i64 0, .int .i64 0, .int .i64 0, .int .i64 0, .int .i64 0] 26 (0, 0)) from by rw [e6]; exact blk_far KC.out HNE.out _); have HB6 := Aside0.mk (show Below w.heap.size w w6 from by rw [e6]; exact below_set HB.out HGga.out); have hzga_0 : w6.cell? ⟨ga, 0, none⟩ = some (.int .i64 a0_0) := (blk_cell KA6.out 0).trans rfl; have hzga_1 : w6.cell? ⟨ga, 1, none⟩ = some (.int .i64 a0_1) := (blk_cell KA6.out 1).trans rfl; have hzga_2 : w6.cell? ⟨ga, 2, none⟩ = some (.int .i64 a0_2) := (blk_cell KA6.out 2).trans rfl; have hzga_3 : w6.cell? ⟨ga, 3, none⟩ = some (.int .i64 a0_3) := (blk_cell KA6.out 3).trans rfl; have hzga_4 : w6.cell? ⟨ga, 4, none⟩ = some (.int .i64 a0_4) := (blk_cell KA6.out 4).trans rfl; have hzga_5 : w6.cell? ⟨ga, 5, none⟩ = some (.int .i64 a0_5) := (blk_cell KA6.out 5).trans rfl; have hzga_6 : w6.cell? ⟨ga, 6, none⟩ = some (.int .i64 a0_6) := (blk_cell KA6.out 6).trans rfl; have hzga_7 : w6.cell? ⟨ga, 7, none⟩ = some (.int .i64 a1_1) := (blk_cell KA6.out 7).trans rfl; have hzgc_0 : w6.cell? ⟨gc, 0, none⟩ = some (.int .i64 0) := (blk_cell KC6.out 0).trans rfl; have hzgc_1 : w6.cell? ⟨gc, 1, none⟩ = some (.int .i64 0) := (blk_cell KC6.out 1).trans rfl; have hzgc_2 : w6.cell? ⟨gc, 2, none⟩ = some (.int .i64 0) := (blk_cell KC6.out 2).trans rfl; have hzgc_3 : w6.cell? ⟨gc, 3, none⟩ = some (.int .i64 0) := (blk_cell KC6.out 3).trans rfl; have hzgc_4 : w6.cell? ⟨gc, 4, none⟩ = some (.int .i64 0) := (blk_cell KC6.out 4).trans rfl; have hzgc_5 : w6.cell? ⟨gc, 5, none⟩ = some (.int .i64 0) := (blk_cell KC6.out 5).trans rfl; have hzgc_6 : w6.cell? ⟨gc, 6, none⟩ = some (.int .i64 0) := (blk_cell KC6.out 6).trans rfl; have hzgc_7 : w6.cell? ⟨gc, 7, none⟩ = some (.int .i64 0) := (blk_cell KC6.out 7).trans rfl; have hfgc_0 : w6.frozen? ⟨gc, 0, none⟩ = false := blk_frozen KC6.out 0; have hfgc_1 : w6.frozen? ⟨gc, 1, none⟩ = false := blk_frozen KC6.out 1; have hfgc_2 : w6.frozen? ⟨gc, 2, none⟩ = false := blk_frozen KC6.out 2; have hfgc_3 : w6.frozen? ⟨gc, 3, none⟩ = false := blk_frozen KC6.out 3; have hfgc_4 : w6.frozen? ⟨gc, 4, none⟩ = false := blk_frozen KC6.out 4; have hfgc_5 : w6.frozen? ⟨gc, 5, none⟩ = false := blk_frozen KC6.out 5; have hfgc_6 : w6.frozen? ⟨gc, 6, none⟩ = false := blk_frozen KC6.out 6; have hfgc_7 : w6.frozen? ⟨gc, 7, none⟩ = false := blk_frozen KC6.out 7; clear e6))
  refine bodyPost_ret (results_cell_row rfl _ _ gc 26 #[.int .i64 a0_0, .int .i64 a0_1, .int .i64 a0_2, .int .i64 a0_3, .int .i64 a0_4, .int .i64 a0_5, .int .i64 a0_6, .int .i64 a1_1] (0, 0) _ rfl (by refine blk_put (cs := #[.int .i64 a0_0, .int .i64 a0_1, .int .i64 a0_2, .int .i64 a0_3, .int .i64 a0_4, .int .i64 a0_5, .int .i64 a0_6, .int .i64 0]) ?_ 7 _ rfl; refine blk_put (cs := #[.int .i64 a0_0, .int .i64 a0_1, .int .i64 a0_2, .int .i64 a0_3, .int .i64 a0_4, .int .i64 a0_5, .int .i64 0, .int .i64 0]) ?_ 6 _ rfl; refine blk_put (cs := #[.int .i64 a0_0, .int .i64 a0_1, .int .i64 a0_2, .int .i64 a0_3, .int .i64 a0_4, .int .i64 0, .int .i64 0, .int .i64 0]) ?_ 5 _ rfl; refine blk_put (cs := #[.int .i64 a0_0, .int .i64 a0_1, .int .i64 a0_2, .int .i64 a0_3, .int .i64 0, .int .i64 0, .int .i64 0, .int .i64 0]) ?_ 4 _ rfl; refine blk_put (cs := #[.int .i64 a0_0, .int .i64 a0_1, .int .i64 a0_2, .int .i64 0, .int .i64 0, .int .i64 0, .int .i64 0, .int .i64 0]) ?_ 3 _ rfl; refine blk_put (cs := #[.int .i64 a0_0, .int .i64 a0_1, .int .i64 0, .int .i64 0, .int .i64 0, .int .i64 0, .int .i64 0, .int .i64 0]) ?_ 2 _ rfl; refine blk_put (cs := #[.int .i64 a0_0, .int .i64 0, .int .i64 0, .int .i64 0, .int .i64 0, .int .i64 0, .int .i64 0, .int .i64 0]) ?_ 1 _ rfl; refine blk_put (cs := #[.int .i64 0, .int .i64 0, .int .i64 0, .int .i64 0, .int .i64 0, .int .i64 0, .int .i64 0, .int .i64 0]) ?_ 0 _ rfl; exact KC6.out) Try.underlying26 rfl (by kernel_rfl)) rfl ?_
  exact ⟨rfl, by repeat (with_reducible first | exact HB6.out | refine below_set ?_ HGgc.out)⟩
set_option maxHeartbeats 1000000 in
set_option maxRecDepth 100000 in
theorem put_N (a0_0 : Int) (a0_1 : Int) (a0_2 : Int) (a0_3 : Int) (a0_4 : Int) (a0_5 : Int) (a0_6 : Int) (a0_7 : Int) (a1_0 : Int) (a1_1 : Int) (w : World) (h : (a1_0 == 71) = false) (h1 : (a1_0 == 70) = false) (h2 : (a1_0 == 84) = false) (h3 : (a1_0 == 72) = false) : Calls Try.prog 54 #[.agg #[.int .i64 a0_0, .int .i64 a0_1, .int .i64 a0_2, .int .i64 a0_3, .int .i64 a0_4, .int .i64 a0_5, .int .i64 a0_6, .int .i64 a0_7], .agg #[.int .u8 a1_0, .int .i64 a1_1]] w fun e w' => e = .returned (.agg #[.int .i64 a0_0, .int .i64 a0_1, .int .i64 a0_2, .int .i64 a0_3, .int .i64 a0_4, .int .i64 a0_5, .int .i64 a0_6, .int .i64 a0_7]) ∧ Below w.heap.size w w' := by
  have hu26 := Try.underlying26
  have hu78 := Try.underlying78
  have HB := Aside0.mk (Below.refl w.heap.size w)
  go_enter Try.func54, Try.ntmps54
  go_wp2_with (first | ((with_reducible refine gate_dst (N := 2) rfl ?_); refine box_event ?hg (N := 2) ?hd (cs := #[.int .i64 a0_0, .int .i64 a0_1, .int .i64 a0_2, .int .i64 a0_3, .int .i64 a0_4, .int .i64 a0_5, .int .i64 a0_6, .int .i64 a0_7]) (t := 26) ?hr ?_; (case hd => rfl); (case hg => rfl); (case hr => first | (go_simp; done) | (go_simp; rfl)); intro ga hg w1 hbox hb; have KA := Aside0.mk hbox; have HGga := Aside0.mk (by rw [hg]; exact HB.out.size : w.heap.size ≤ ga); have HB := Aside0.mk (below_step HB.out hb); clear hg hbox hb) | ((with_reducible refine gate_dst (N := 3) rfl ?_); refine box_event ?hg (N := 3) ?hd (cs := #[.int .u8 a1_0, .int .i64 a1_1]) (t := 78) ?hr ?_; (case hd => rfl); (case hg => rfl); (case hr => first | (go_simp; done) | (go_simp; rfl)); intro gb hg w2 hbox hb; have KA := Aside0.mk ((hb.block ga (blk_lt KA.out)).trans KA.out); have KB := Aside0.mk hbox; have HGgb := Aside0.mk (by rw [hg]; exact HB.out.size : w.heap.size ≤ gb); have HB := Aside0.mk (below_step HB.out hb); have HN0 := Aside0.mk (show ga < w2.heap.size from blk_lt KA.out); clear hg hbox hb) | ((with_reducible refine gate_dst (N := 4) rfl ?_); refine box_event ?hg (N := 4) ?hd (cs := #[.int .i64 0, .int .i64 0, .int .i64 0, .int .i64 0, .int .i64 0, .int .i64 0, .int .i64 0, .int .i64 0]) (t := 26) ?hr ?_; (case hd => rfl); (case hg => rfl); (case hr => first | (go_simp; done) | (go_simp; rfl)); intro gc hg w3 hbox hb; have KA := Aside0.mk ((hb.block ga (blk_lt KA.out)).trans KA.out); have KB := Aside0.mk ((hb.block gb (blk_lt KB.out)).trans KB.out); have KC := Aside0.mk hbox; have HGgc := Aside0.mk (by rw [hg]; exact HB.out.size : w.heap.size ≤ gc); have HB := Aside0.mk (below_step HB.out hb); have HN1 := Aside0.mk (show gc = w2.heap.size from hg); have HN2 := Aside0.mk (show ga < w2.heap.size from HN0.out); have hw0 : w3.cell? ⟨gb, 0, none⟩ = some (.int .u8 a1_0) := (blk_cell KB.out 0).trans rfl; have hw1 : w3.cell? ⟨gb, 1, none⟩ = some (.int .i64 a1_1) := (blk_cell KB.out 1).trans rfl; have hzga_0 : w3.cell? ⟨ga, 0, none⟩ = some (.int .i64 a0_0) := (blk_cell KA.out 0).trans rfl; have hzga_1 : w3.cell? ⟨ga, 1, none⟩ = some (.int .i64 a0_1) := (blk_cell KA.out 1).trans rfl; have hzga_2 : w3.cell? ⟨ga, 2, none⟩ = some (.int .i64 a0_2) := (blk_cell KA.out 2).trans rfl; have hzga_3 : w3.cell? ⟨ga, 3, none⟩ = some (.int .i64 a0_3) := (blk_cell KA.out 3).trans rfl; have hzga_4 : w3.cell? ⟨ga, 4, none⟩ = some (.int .i64 a0_4) := (blk_cell KA.out 4).trans rfl; have hzga_5 : w3.cell? ⟨ga, 5, none⟩ = some (.int .i64 a0_5) := (blk_cell KA.out 5).trans rfl; have hzga_6 : w3.cell? ⟨ga, 6, none⟩ = some (.int .i64 a0_6) := (blk_cell KA.out 6).trans rfl; have hzga_7 : w3.cell? ⟨ga, 7, none⟩ = some (.int .i64 a0_7) := (blk_cell KA.out 7).trans rfl; have hfga_0 : w3.frozen? ⟨ga, 0, none⟩ = false := blk_frozen KA.out 0; have hfga_1 : w3.frozen? ⟨ga, 1, none⟩ = false := blk_frozen KA.out 1; have hfga_2 : w3.frozen? ⟨ga, 2, none⟩ = false := blk_frozen KA.out 2; have hfga_3 : w3.frozen? ⟨ga, 3, none⟩ = false := blk_frozen KA.out 3; have hfga_4 : w3.frozen? ⟨ga, 4, none⟩ = false := blk_frozen KA.out 4; have hfga_5 : w3.frozen? ⟨ga, 5, none⟩ = false := blk_frozen KA.out 5; have hfga_6 : w3.frozen? ⟨ga, 6, none⟩ = false := blk_frozen KA.out 6; have hfga_7 : w3.frozen? ⟨ga, 7, none⟩ = false := blk_frozen KA.out 7; have hzgc_0 : w3.cell? ⟨gc, 0, none⟩ = some (.int .i64 0) := (blk_cell KC.out 0).trans rfl; have hzgc_1 : w3.cell? ⟨gc, 1, none⟩ = some (.int .i64 0) := (blk_cell KC.out 1).trans rfl; have hzgc_2 : w3.cell? ⟨gc, 2, none⟩ = some (.int .i64 0) := (blk_cell KC.out 2).trans rfl; have hzgc_3 : w3.cell? ⟨gc, 3, none⟩ = some (.int .i64 0) := (blk_cell KC.out 3).trans rfl; have hzgc_4 : w3.cell? ⟨gc, 4, none⟩ = some (.int .i64 0) := (blk_cell KC.out 4).trans rfl; have hzgc_5 : w3.cell? ⟨gc, 5, none⟩ = some (.int .i64 0) := (blk_cell KC.out 5).trans rfl; have hzgc_6 : w3.cell? ⟨gc, 6, none⟩ = some (.int .i64 0) := (blk_cell KC.out 6).trans rfl; have hzgc_7 : w3.cell? ⟨gc, 7, none⟩ = some (.int .i64 0) := (blk_cell KC.out 7).trans rfl; have hfgc_0 : w3.frozen? ⟨gc, 0, none⟩ = false := blk_frozen KC.out 0; have hfgc_1 : w3.frozen? ⟨gc, 1, none⟩ = false := blk_frozen KC.out 1; have hfgc_2 : w3.frozen? ⟨gc, 2, none⟩ = false := blk_frozen KC.out 2; have hfgc_3 : w3.frozen? ⟨gc, 3, none⟩ = false := blk_frozen KC.out 3; have hfgc_4 : w3.frozen? ⟨gc, 4, none⟩ = false := blk_frozen KC.out 4; have hfgc_5 : w3.frozen? ⟨gc, 5, none⟩ = false := blk_frozen KC.out 5; have hfgc_6 : w3.frozen? ⟨gc, 6, none⟩ = false := blk_frozen KC.out 6; have hfgc_7 : w3.frozen? ⟨gc, 7, none⟩ = false := blk_frozen KC.out 7; have HNE := Aside0.mk (show gc ≠ ga from fun e => by have h1 := HN1.out; have h2 := HN2.out; omega); clear hg hbox hb))
  refine bodyPost_ret (results_cell_row rfl _ _ gc 26 #[.int .i64 a0_0, .int .i64 a0_1, .int .i64 a0_2, .int .i64 a0_3, .int .i64 a0_4, .int .i64 a0_5, .int .i64 a0_6, .int .i64 a0_7] (0, 0) _ rfl (by refine blk_put (cs := #[.int .i64 a0_0, .int .i64 a0_1, .int .i64 a0_2, .int .i64 a0_3, .int .i64 a0_4, .int .i64 a0_5, .int .i64 a0_6, .int .i64 0]) ?_ 7 _ rfl; refine blk_put (cs := #[.int .i64 a0_0, .int .i64 a0_1, .int .i64 a0_2, .int .i64 a0_3, .int .i64 a0_4, .int .i64 a0_5, .int .i64 0, .int .i64 0]) ?_ 6 _ rfl; refine blk_put (cs := #[.int .i64 a0_0, .int .i64 a0_1, .int .i64 a0_2, .int .i64 a0_3, .int .i64 a0_4, .int .i64 0, .int .i64 0, .int .i64 0]) ?_ 5 _ rfl; refine blk_put (cs := #[.int .i64 a0_0, .int .i64 a0_1, .int .i64 a0_2, .int .i64 a0_3, .int .i64 0, .int .i64 0, .int .i64 0, .int .i64 0]) ?_ 4 _ rfl; refine blk_put (cs := #[.int .i64 a0_0, .int .i64 a0_1, .int .i64 a0_2, .int .i64 0, .int .i64 0, .int .i64 0, .int .i64 0, .int .i64 0]) ?_ 3 _ rfl; refine blk_put (cs := #[.int .i64 a0_0, .int .i64 a0_1, .int .i64 0, .int .i64 0, .int .i64 0, .int .i64 0, .int .i64 0, .int .i64 0]) ?_ 2 _ rfl; refine blk_put (cs := #[.int .i64 a0_0, .int .i64 0, .int .i64 0, .int .i64 0, .int .i64 0, .int .i64 0, .int .i64 0, .int .i64 0]) ?_ 1 _ rfl; refine blk_put (cs := #[.int .i64 0, .int .i64 0, .int .i64 0, .int .i64 0, .int .i64 0, .int .i64 0, .int .i64 0, .int .i64 0]) ?_ 0 _ rfl; exact KC.out) Try.underlying26 rfl (by kernel_rfl)) rfl ?_
  exact ⟨rfl, by repeat (with_reducible first | exact HB.out | refine below_set ?_ HGgc.out)⟩
theorem modal_put.calls (a0_0 : Int) (a0_1 : Int) (a0_2 : Int) (a0_3 : Int) (a0_4 : Int) (a0_5 : Int) (a0_6 : Int) (a0_7 : Int) (a1_0 : Int) (a1_1 : Int) (r1 : Int) (r2 : Int) (r3 : Int) (r4 : Int) (r5 : Int) (r6 : Int) (r7 : Int) (r8 : Int) (w : World) (h : modal_put.f a0_0 a0_1 a0_2 a0_3 a0_4 a0_5 a0_6 a0_7 a1_0 a1_1 = some (r1, r2, r3, r4, r5, r6, r7, r8)) :
    Calls Try.prog 54 #[.agg #[.int .i64 a0_0, .int .i64 a0_1, .int .i64 a0_2, .int .i64 a0_3, .int .i64 a0_4, .int .i64 a0_5, .int .i64 a0_6, .int .i64 a0_7], .agg #[.int .u8 a1_0, .int .i64 a1_1]] w fun e w' => e = .returned (.agg #[.int .i64 r1, .int .i64 r2, .int .i64 r3, .int .i64 r4, .int .i64 r5, .int .i64 r6, .int .i64 r7, .int .i64 r8]) ∧ Below w.heap.size w w' := by
  unfold modal_put.f at h
  by_cases c71 : a1_0 = 71
  · rw [if_pos c71] at h
    by_cases g1 : groupS a1_1 = 1
    · rw [if_pos g1] at h; simp only [Option.some.injEq, Prod.mk.injEq] at h; obtain ⟨rfl, rfl, rfl, rfl, rfl, rfl, rfl, rfl⟩ := h; exact put_1 _ _ _ _ _ _ _ _ a1_0 a1_1 w (beq_iff_eq.mpr c71) g1
    rw [if_neg g1] at h
    by_cases g2 : groupS a1_1 = 2
    · rw [if_pos g2] at h; simp only [Option.some.injEq, Prod.mk.injEq] at h; obtain ⟨rfl, rfl, rfl, rfl, rfl, rfl, rfl, rfl⟩ := h; exact put_2 _ _ _ _ _ _ _ _ a1_0 a1_1 w (beq_iff_eq.mpr c71) g2
    rw [if_neg g2] at h
    by_cases g3 : groupS a1_1 = 3
    · rw [if_pos g3] at h; simp only [Option.some.injEq, Prod.mk.injEq] at h; obtain ⟨rfl, rfl, rfl, rfl, rfl, rfl, rfl, rfl⟩ := h; exact put_3 _ _ _ _ _ _ _ _ a1_0 a1_1 w (beq_iff_eq.mpr c71) g3
    rw [if_neg g3] at h
    by_cases g4 : groupS a1_1 = 4
    · rw [if_pos g4] at h; simp only [Option.some.injEq, Prod.mk.injEq] at h; obtain ⟨rfl, rfl, rfl, rfl, rfl, rfl, rfl, rfl⟩ := h; exact put_4 _ _ _ _ _ _ _ _ a1_0 a1_1 w (beq_iff_eq.mpr c71) g4
    rw [if_neg g4] at h
    by_cases g5 : groupS a1_1 = 5
    · rw [if_pos g5] at h; simp only [Option.some.injEq, Prod.mk.injEq] at h; obtain ⟨rfl, rfl, rfl, rfl, rfl, rfl, rfl, rfl⟩ := h; exact put_5 _ _ _ _ _ _ _ _ a1_0 a1_1 w (beq_iff_eq.mpr c71) g5
    rw [if_neg g5] at h
    cases h
  · rw [if_neg c71] at h
    by_cases c70 : a1_0 = 70
    · rw [if_pos c70] at h; simp only [Option.some.injEq, Prod.mk.injEq] at h; obtain ⟨rfl, rfl, rfl, rfl, rfl, rfl, rfl, rfl⟩ := h; exact put_F _ _ _ _ _ _ _ _ a1_0 a1_1 w (beq_eq_false_iff_ne.mpr c71) (beq_iff_eq.mpr c70)
    rw [if_neg c70] at h
    by_cases c84 : a1_0 = 84
    · rw [if_pos c84] at h; simp only [Option.some.injEq, Prod.mk.injEq] at h; obtain ⟨rfl, rfl, rfl, rfl, rfl, rfl, rfl, rfl⟩ := h; exact put_T _ _ _ _ _ _ _ _ a1_0 a1_1 w (beq_eq_false_iff_ne.mpr c71) (beq_eq_false_iff_ne.mpr c70) (beq_iff_eq.mpr c84)
    rw [if_neg c84] at h
    by_cases c72 : a1_0 = 72
    · rw [if_pos c72] at h; simp only [Option.some.injEq, Prod.mk.injEq] at h; obtain ⟨rfl, rfl, rfl, rfl, rfl, rfl, rfl, rfl⟩ := h; exact put_H _ _ _ _ _ _ _ _ a1_0 a1_1 w (beq_eq_false_iff_ne.mpr c71) (beq_eq_false_iff_ne.mpr c70) (beq_eq_false_iff_ne.mpr c84) (beq_iff_eq.mpr c72)
    rw [if_neg c72] at h
    simp only [Option.some.injEq, Prod.mk.injEq] at h; obtain ⟨rfl, rfl, rfl, rfl, rfl, rfl, rfl, rfl⟩ := h; exact put_N _ _ _ _ _ _ _ _ a1_0 a1_1 w (beq_eq_false_iff_ne.mpr c71) (beq_eq_false_iff_ne.mpr c70) (beq_eq_false_iff_ne.mpr c84) (beq_eq_false_iff_ne.mpr c72)
end Go.Proofs.Ytehkhbnhmehobaa.P
namespace Go.Proofs.Ytehkhbnhmehobaa.P
open Go.RowKit Go.Proofs.YtehkhbnhmehobaaW.PrintWords Go.Proofs.YtehkhbnhmehobaaW.PrintLast Go.Proofs.YtehkhbnhmehobaaW.PrintMore
attribute [local go_sem] max2_int min2_int max_two min_two max_three min_three max_four min_four
set_option linter.unusedVariables false
set_option linter.unusedSimpArgs false
def modal_Apply.l0 : Nat → List (S78) → Int → Int → Int → Int → Int → Int → Int → Int → Int → Int → Option (Int × Int × Int × Int × Int × Int × Int × Int × Int)
 | 0, _, _, _, _, _, _, _, _, _, _, _ => none
 | k + 1, x16, x17, x18, x110000, x110001, x110002, x110003, x110004, x110005, x110006, x110007 => if x18 < x17 then (if 0 ≤ x18 then (if x18 < (x16.length : Int) then ((modal_put.f x110000 x110001 x110002 x110003 x110004 x110005 x110006 x110007 ((rd_T78 x16 x18).f0) ((rd_T78 x16 x18).f1)).bind fun bt115 => (modal_Apply.l0 k x16 x17 (wrap64 (x18 + 1)) bt115.1 bt115.2.1 bt115.2.2.1 bt115.2.2.2.1 bt115.2.2.2.2.1 bt115.2.2.2.2.2.1 bt115.2.2.2.2.2.2.1 bt115.2.2.2.2.2.2.2)) else (none)) else (none)) else (some (x110000, x110001, x110002, x110003, x110004, x110005, x110006, x110007, 0))
def modal_Apply.f (k : Nat) (a0_0 : Int) (a0_1 : Int) (a0_2 : Int) (a0_3 : Int) (a0_4 : Int) (a0_5 : Int) (a0_6 : Int) (a0_7 : Int) (a1_0 : Bool) (l1_1 : List (S78)) (a1_2 : ByteArray) : Option (Int × Int × Int × Int × Int × Int × Int × Int × Int) := (modal_Check.f a1_0 l1_1 a1_2).bind fun t112 => (if t112 = 0 then (modal_Apply.l0 k l1_1 (l1_1.length : Int) 0 a0_0 a0_1 a0_2 a0_3 a0_4 a0_5 a0_6 a0_7) else (some (0, 0, 0, 0, 0, 0, 0, 0, t112)))
theorem modal_Apply.mono_l : ∀ k, (∀ y0 y1 y2 y3 y4 y5 y6 y7 y8 y9 y10, LeO (modal_Apply.l0 k y0 y1 y2 y3 y4 y5 y6 y7 y8 y9 y10) (modal_Apply.l0 (k + 1) y0 y1 y2 y3 y4 y5 y6 y7 y8 y9 y10))
 | 0 => fun _ _ _ _ _ _ _ _ _ _ _ r h => by simp [modal_Apply.l0] at h
 | k + 1 => by
  have ih0 := modal_Apply.mono_l k
  ·intro y0 y1 y2 y3 y4 y5 y6 y7 y8 y9 y10
   unfold modal_Apply.l0
   repeat' first
   | (with_reducible exact ih0 _ _ _ _ _ _ _ _ _ _ _)
   | (with_reducible exact LeO.refl _)
   | (with_reducible exact LeO.none _)
   | (with_reducible refine LeO.ite ?_ ?_)
   | (with_reducible refine LeO.bind ?_ (fun _ => ?_))
   | exact ih0 _ _ _ _ _ _ _ _ _ _ _
   | exact LeO.none _
   | refine LeO.ite ?_ ?_
   | refine LeO.bind ?_ (fun _ => ?_)
theorem modal_Apply.mono : ∀ a0 a1 a2 a3 a4 a5 a6 a7 a8 a9 a10 k, LeO (modal_Apply.f k a0 a1 a2 a3 a4 a5 a6 a7 a8 a9 a10) (modal_Apply.f (k + 1) a0 a1 a2 a3 a4 a5 a6 a7 a8 a9 a10) := by
 intro a0 a1 a2 a3 a4 a5 a6 a7 a8 a9 a10 k
 have ih0 := modal_Apply.mono_l k
 unfold modal_Apply.f
 repeat' first
   | (with_reducible exact ih0 _ _ _ _ _ _ _ _ _ _ _)
   | (with_reducible exact LeO.refl _)
   | (with_reducible exact LeO.none _)
   | (with_reducible refine LeO.ite ?_ ?_)
   | (with_reducible refine LeO.bind ?_ (fun _ => ?_))
   | exact ih0 _ _ _ _ _ _ _ _ _ _ _
   | exact LeO.none _
   | refine LeO.ite ?_ ?_
   | refine LeO.bind ?_ (fun _ => ?_)
set_option maxHeartbeats 8000000 in
set_option maxRecDepth 100000 in
theorem modal_Apply.calls (k : Nat) (a0_0 : Int) (a0_1 : Int) (a0_2 : Int) (a0_3 : Int) (a0_4 : Int) (a0_5 : Int) (a0_6 : Int) (a0_7 : Int) (a1_0 : Bool) (A1_1 : Option Addr) (c1_1 : Nat) (l1_1 : List (S78)) (a1_2 : ByteArray) (r1 : Int) (r2 : Int) (r3 : Int) (r4 : Int) (r5 : Int) (r6 : Int) (r7 : Int) (r8 : Int) (r9 : Int) (w : World) (hr1_1 : Kd.C k78 w A1_1 l1_1.length l1_1) (hc1_1 : l1_1.length ≤ c1_1) (h : modal_Apply.f k a0_0 a0_1 a0_2 a0_3 a0_4 a0_5 a0_6 a0_7 a1_0 l1_1 a1_2 = some (r1, r2, r3, r4, r5, r6, r7, r8, r9)) :
  Calls Try.prog 21 #[.agg #[.int .i64 a0_0, .int .i64 a0_1, .int .i64 a0_2, .int .i64 a0_3, .int .i64 a0_4, .int .i64 a0_5, .int .i64 a0_6, .int .i64 a0_7], .agg #[.bool a1_0, .slice A1_1 l1_1.length c1_1, .string a1_2]] w fun e w' => e = .returned (.tuple #[.agg #[.int .i64 r1, .int .i64 r2, .int .i64 r3, .int .i64 r4, .int .i64 r5, .int .i64 r6, .int .i64 r7, .int .i64 r8], .int .i64 r9]) ∧ Below w.heap.size w w' := by
 have hu26 := Try.underlying26
 have hu32 := Try.underlying32
 have hu78 := Try.underlying78
 have HR1_1 := Aside0.mk hr1_1
 have HC1_1 := Aside0.mk hc1_1
 clear hr1_1 hc1_1
 have HB := Aside0.mk (Below.refl w.heap.size w)
 have H : ((modal_Check.f a1_0 l1_1 a1_2).bind fun t112 => (if t112 = 0 then (modal_Apply.l0 k l1_1 (l1_1.length : Int) 0 a0_0 a0_1 a0_2 a0_3 a0_4 a0_5 a0_6 a0_7) else (some (0, 0, 0, 0, 0, 0, 0, 0, t112)))) = some (r1, r2, r3, r4, r5, r6, r7, r8, r9) := h
 clear h
 replace H := Option.bind_eq_some_iff.mp H
 obtain ⟨t112, A30, H⟩ := H
 replace H : (if t112 = 0 then (modal_Apply.l0 k l1_1 (l1_1.length : Int) 0 a0_0 a0_1 a0_2 a0_3 a0_4 a0_5 a0_6 a0_7) else (some (0, 0, 0, 0, 0, 0, 0, 0, t112))) = some (r1, r2, r3, r4, r5, r6, r7, r8, r9) := H
 have A3 := Aside0.mk A30
 clear A30
 by_cases c4 : t112 = 0
 ·rw [if_pos c4] at H
  have c4b0 : (t112 == 0) = true := beq_iff_eq.mpr c4
  have c4b1 : (t112 != 0) = false := bne_eq_false_iff_eq.mpr c4
  clear c4
  have H' := Aside0.mk H
  clear H
  go_enter Try.func21, Try.ntmps21
  go_wp2_with (first | ((with_reducible refine gate_dst (N := 2) rfl ?_); refine box_event ?hg (N := 2) ?hd (cs := #[.int .i64 a0_0, .int .i64 a0_1, .int .i64 a0_2, .int .i64 a0_3, .int .i64 a0_4, .int .i64 a0_5, .int .i64 a0_6, .int .i64 a0_7]) (t := 26) ?hr ?_; (case hd => rfl); (case hg => rfl); (case hr => first | (go_simp; done) | (go_simp; rfl)); intro gb109 hg w5 hbox hb; have n0_ := Aside0.mk (below_step (by repeat (first | (with_reducible first | exact HB.out | apply below_alloc | apply pw_below_drewN | apply below_drew1) | exact HB.out)) hb); have n1_ := Aside0.mk (hbox); have n2_ := Aside0.mk ((by rw [hg]; exact (below_size (by repeat (first | (with_reducible first | exact HB.out | apply below_alloc | apply pw_below_drewN | apply below_drew1) | exact HB.out))) : w.heap.size ≤ gb109)); have n3_ := Aside0.mk ((by rw [hg]; exact (below_size (by repeat (first | (with_reducible first | exact HB.out | apply below_alloc | apply pw_below_drewN | apply below_drew1) | exact HB.out))) : w.heap.size ≤ gb109)); clear HB; have HB := n0_; have BK109 := n1_; have GW109 := n2_; have GE109 := n3_; clear n0_ n1_ n2_ n3_; clear hb hbox hg) | ((with_reducible refine gate_dst (N := 3) rfl ?_); refine box_event ?hg (N := 3) ?hd (cs := #[.bool a1_0, .slice A1_1 l1_1.length c1_1, .string a1_2]) (t := 32) ?hr ?_; (case hd => rfl); (case hg => rfl); (case hr => first | (go_simp; done) | (go_simp; rfl)); intro gb110 hg w6 hbox hb; have n0_ := Aside0.mk (blk_below (g := gb109) (o := .cells #[.int .i64 a0_0, .int .i64 a0_1, .int .i64 a0_2, .int .i64 a0_3, .int .i64 a0_4, .int .i64 a0_5, .int .i64 a0_6, .int .i64 a0_7] 26 (0, 0)) (by (with_reducible repeat (first | refine blk_drewN ?_ _ | refine blk_drew ?_ | refine blk_alloc ?_ _)); exact BK109.out) hb); have n1_ := Aside0.mk (below_step (by repeat (first | (with_reducible first | exact HB.out | apply below_alloc | apply pw_below_drewN | apply below_drew1 | refine below_set ?_ GE109.out) | exact HB.out)) hb); have n2_ := Aside0.mk (hbox); have n3_ := Aside0.mk ((by rw [hg]; exact (below_size (by repeat (first | (with_reducible first | exact HB.out | apply below_alloc | apply pw_below_drewN | apply below_drew1 | refine below_set ?_ GE109.out) | exact HB.out))) : w.heap.size ≤ gb110)); have n4_ := Aside0.mk ((by rw [hg]; exact (below_size (by repeat (first | (with_reducible first | exact HB.out | apply below_alloc | apply pw_below_drewN | apply below_drew1 | refine below_set ?_ GE109.out) | exact HB.out))) : w.heap.size ≤ gb110)); have n5_ := Aside0.mk ((by rw [hg]; exact Nat.ne_of_lt (blk_lt (g := gb109) (o := .cells #[.int .i64 a0_0, .int .i64 a0_1, .int .i64 a0_2, .int .i64 a0_3, .int .i64 a0_4, .int .i64 a0_5, .int .i64 a0_6, .int .i64 a0_7] 26 (0, 0)) (by (with_reducible repeat (first | refine blk_drewN ?_ _ | refine blk_drew ?_ | refine blk_alloc ?_ _)); exact BK109.out)) : gb109 ≠ gb110)); have n6_ := Aside0.mk ((by rw [hg]; exact Nat.ne_of_gt (blk_lt (g := gb109) (o := .cells #[.int .i64 a0_0, .int .i64 a0_1, .int .i64 a0_2, .int .i64 a0_3, .int .i64 a0_4, .int .i64 a0_5, .int .i64 a0_6, .int .i64 a0_7] 26 (0, 0)) (by (with_reducible repeat (first | refine blk_drewN ?_ _ | refine blk_drew ?_ | refine blk_alloc ?_ _)); exact BK109.out)) : gb110 ≠ gb109)); clear BK109; clear HB; have BK109 := n0_; have HB := n1_; have BK110 := n2_; have GW110 := n3_; have GE110 := n4_; have NB109_110 := n5_; have NB110_109 := n6_; clear n0_ n1_ n2_ n3_ n4_ n5_ n6_; clear hb hbox hg) | ((with_reducible refine gate_dst (N := 4) rfl ?_); refine box_event ?hg (N := 4) ?hd (cs := #[.int .i64 0, .int .i64 0, .int .i64 0, .int .i64 0, .int .i64 0, .int .i64 0, .int .i64 0, .int .i64 0]) (t := 26) ?hr ?_; (case hd => rfl); (case hg => rfl); (case hr => first | (go_simp; done) | (go_simp; rfl)); intro gb111 hg w7 hbox hb; have n0_ := Aside0.mk (blk_below (g := gb109) (o := .cells #[.int .i64 a0_0, .int .i64 a0_1, .int .i64 a0_2, .int .i64 a0_3, .int .i64 a0_4, .int .i64 a0_5, .int .i64 a0_6, .int .i64 a0_7] 26 (0, 0)) (by (with_reducible repeat (first | refine blk_drewN ?_ _ | refine blk_drew ?_ | refine blk_alloc ?_ _)); exact BK109.out) hb); have n1_ := Aside0.mk (blk_below (g := gb110) (o := .cells #[.bool a1_0, .slice A1_1 l1_1.length c1_1, .string a1_2] 32 (0, 0)) (by (with_reducible repeat (first | refine blk_drewN ?_ _ | refine blk_drew ?_ | refine blk_alloc ?_ _)); exact BK110.out) hb); have n2_ := Aside0.mk (below_step (by repeat (first | (with_reducible first | exact HB.out | apply below_alloc | apply pw_below_drewN | apply below_drew1 | refine below_set ?_ GE109.out | refine below_set ?_ GE110.out) | exact HB.out)) hb); have n3_ := Aside0.mk (hbox); have n4_ := Aside0.mk ((by rw [hg]; exact (below_size (by repeat (first | (with_reducible first | exact HB.out | apply below_alloc | apply pw_below_drewN | apply below_drew1 | refine below_set ?_ GE109.out | refine below_set ?_ GE110.out) | exact HB.out))) : w.heap.size ≤ gb111)); have n5_ := Aside0.mk ((by rw [hg]; exact (below_size (by repeat (first | (with_reducible first | exact HB.out | apply below_alloc | apply pw_below_drewN | apply below_drew1 | refine below_set ?_ GE109.out | refine below_set ?_ GE110.out) | exact HB.out))) : w.heap.size ≤ gb111)); have n6_ := Aside0.mk ((by rw [hg]; exact Nat.ne_of_lt (blk_lt (g := gb109) (o := .cells #[.int .i64 a0_0, .int .i64 a0_1, .int .i64 a0_2, .int .i64 a0_3, .int .i64 a0_4, .int .i64 a0_5, .int .i64 a0_6, .int .i64 a0_7] 26 (0, 0)) (by (with_reducible repeat (first | refine blk_drewN ?_ _ | refine blk_drew ?_ | refine blk_alloc ?_ _)); exact BK109.out)) : gb109 ≠ gb111)); have n7_ := Aside0.mk ((by rw [hg]; exact Nat.ne_of_gt (blk_lt (g := gb109) (o := .cells #[.int .i64 a0_0, .int .i64 a0_1, .int .i64 a0_2, .int .i64 a0_3, .int .i64 a0_4, .int .i64 a0_5, .int .i64 a0_6, .int .i64 a0_7] 26 (0, 0)) (by (with_reducible repeat (first | refine blk_drewN ?_ _ | refine blk_drew ?_ | refine blk_alloc ?_ _)); exact BK109.out)) : gb111 ≠ gb109)); have n8_ := Aside0.mk ((by rw [hg]; exact Nat.ne_of_lt (blk_lt (g := gb110) (o := .cells #[.bool a1_0, .slice A1_1 l1_1.length c1_1, .string a1_2] 32 (0, 0)) (by (with_reducible repeat (first | refine blk_drewN ?_ _ | refine blk_drew ?_ | refine blk_alloc ?_ _)); exact BK110.out)) : gb110 ≠ gb111)); have n9_ := Aside0.mk ((by rw [hg]; exact Nat.ne_of_gt (blk_lt (g := gb110) (o := .cells #[.bool a1_0, .slice A1_1 l1_1.length c1_1, .string a1_2] 32 (0, 0)) (by (with_reducible repeat (first | refine blk_drewN ?_ _ | refine blk_drew ?_ | refine blk_alloc ?_ _)); exact BK110.out)) : gb111 ≠ gb110)); clear BK109; clear BK110; clear HB; have BK109 := n0_; have BK110 := n1_; have HB := n2_; have BK111 := n3_; have GW111 := n4_; have GE111 := n5_; have NB109_111 := n6_; have NB111_109 := n7_; have NB110_111 := n8_; have NB111_110 := n9_; clear n0_ n1_ n2_ n3_ n4_ n5_ n6_ n7_ n8_ n9_; clear hb hbox hg; have hnb8 := NB110_109.out; have hnc8 := NB109_110.out; have hnb9 := NB110_111.out; have hnc9 := NB111_110.out; have hcz10_0 : w7.cell? ⟨gb110, 0, none⟩ = some (.bool a1_0) := (blk_cell BK110.out 0).trans rfl; have hcz10_1 : w7.cell? ⟨gb110, 1, none⟩ = some (.slice A1_1 l1_1.length c1_1) := (blk_cell BK110.out 1).trans rfl; have hcz10_2 : w7.cell? ⟨gb110, 2, none⟩ = some (.string a1_2) := (blk_cell BK110.out 2).trans rfl; have hfz10_0 := blk_frozen BK110.out 0; have hfz10_1 := blk_frozen BK110.out 1; have hfz10_2 := blk_frozen BK110.out 2) | ((with_reducible refine gate_callee (f := 51) rfl ?_); refine goesL_ (some 10) rfl rfl Try.func51 (by kernel_rfl) rfl #[.agg #[.bool a1_0, .slice A1_1 l1_1.length c1_1, .string a1_2]] rfl (by (try simp only [List.map_toArray, List.map_cons, List.map_nil]); first | done | rfl | (simp only [List.length_drop, List.length_take]; rfl)) ?_; (with_reducible refine (modal_Check.calls a1_0 _ _ l1_1 a1_2 t112 _ ?side1 ?side2 A3.out).mono ?_); (case side1 => repeat (first | exact (Kd.C_below HR1_1.out HB.out) | (with_reducible refine Kd.C_alloc ?_ _) | (with_reducible refine Kd.C_drewN ?_ _) | (with_reducible refine Kd.C_drew ?_))); (case side2 => exact HC1_1.out); rintro e w11 ⟨rfl, hb⟩; refine ⟨_, rfl, ?_⟩; have n0_ := Aside0.mk (blk_below (g := gb109) (o := .cells #[.int .i64 a0_0, .int .i64 a0_1, .int .i64 a0_2, .int .i64 a0_3, .int .i64 a0_4, .int .i64 a0_5, .int .i64 a0_6, .int .i64 a0_7] 26 (0, 0)) (by (with_reducible repeat (first | refine blk_drewN ?_ _ | refine blk_drew ?_ | refine blk_alloc ?_ _)); exact BK109.out) hb); have n1_ := Aside0.mk (blk_below (g := gb110) (o := .cells #[.bool a1_0, .slice A1_1 l1_1.length c1_1, .string a1_2] 32 (0, 0)) (by (with_reducible repeat (first | refine blk_drewN ?_ _ | refine blk_drew ?_ | refine blk_alloc ?_ _)); exact BK110.out) hb); have n2_ := Aside0.mk (blk_below (g := gb111) (o := .cells #[.int .i64 0, .int .i64 0, .int .i64 0, .int .i64 0, .int .i64 0, .int .i64 0, .int .i64 0, .int .i64 0] 26 (0, 0)) (by (with_reducible repeat (first | refine blk_drewN ?_ _ | refine blk_drew ?_ | refine blk_alloc ?_ _)); exact BK111.out) hb); have n3_ := Aside0.mk (below_step (by repeat (first | (with_reducible first | exact HB.out | apply below_alloc | apply pw_below_drewN | apply below_drew1 | refine below_set ?_ GE109.out | refine below_set ?_ GE110.out | refine below_set ?_ GE111.out) | exact HB.out)) hb); clear BK109; clear BK110; clear BK111; clear HB; have BK109 := n0_; have BK110 := n1_; have BK111 := n2_; have HB := n3_; clear n0_ n1_ n2_ n3_; (try clear hb); (try clear hb2); (try clear hk); (try clear hi); have hcz12_0 : w11.cell? ⟨gb110, 0, none⟩ = some (.bool a1_0) := (blk_cell BK110.out 0).trans rfl; have hcz12_1 : w11.cell? ⟨gb110, 1, none⟩ = some (.slice A1_1 l1_1.length c1_1) := (blk_cell BK110.out 1).trans rfl; have hcz12_2 : w11.cell? ⟨gb110, 2, none⟩ = some (.string a1_2) := (blk_cell BK110.out 2).trans rfl; have hfz12_0 := blk_frozen BK110.out 0; have hfz12_1 := blk_frozen BK110.out 1; have hfz12_2 := blk_frozen BK110.out 2))
  go_loopg [18] k (fun kq v18 w' => ∃ (x18_1 : Int) (x110000_1 : Int) (x110001_1 : Int) (x110002_1 : Int) (x110003_1 : Int) (x110004_1 : Int) (x110005_1 : Int) (x110006_1 : Int) (x110007_1 : Int), v18 = .int .i64 x18_1 ∧ Aside0 (modal_Apply.l0 kq l1_1 (l1_1.length : Int) x18_1 x110000_1 x110001_1 x110002_1 x110003_1 x110004_1 x110005_1 x110006_1 x110007_1 = some (r1, r2, r3, r4, r5, r6, r7, r8, r9)) ∧ Aside0 (kq ≤ k) ∧ Aside0 (w'.heap[gb109]? = some (.cells #[.int .i64 x110000_1, .int .i64 x110001_1, .int .i64 x110002_1, .int .i64 x110003_1, .int .i64 x110004_1, .int .i64 x110005_1, .int .i64 x110006_1, .int .i64 x110007_1] 26 (0, 0))) ∧ Aside0 (w'.heap[gb110]? = some (.cells #[.bool a1_0, (.slice A1_1 l1_1.length c1_1), .string a1_2] 32 (0, 0))) ∧ Aside0 (w'.heap[gb111]? = some (.cells #[.int .i64 0, .int .i64 0, .int .i64 0, .int .i64 0, .int .i64 0, .int .i64 0, .int .i64 0, .int .i64 0] 26 (0, 0))) ∧ Aside0 (Below w.heap.size w w'))
  case atStart => exact ⟨(0), (a0_0), (a0_1), (a0_2), (a0_3), (a0_4), (a0_5), (a0_6), (a0_7), (by first | rfl | (simp; done) | (simp [*]; done)), H', ⟨Nat.le_refl _⟩, ⟨by (with_reducible repeat (first | refine blk_drewN ?_ _ | refine blk_drew ?_ | refine blk_alloc ?_ _)); exact BK109.out⟩, ⟨by (with_reducible repeat (first | refine blk_drewN ?_ _ | refine blk_drew ?_ | refine blk_alloc ?_ _)); exact BK110.out⟩, ⟨by (with_reducible repeat (first | refine blk_drewN ?_ _ | refine blk_drew ?_ | refine blk_alloc ?_ _)); exact BK111.out⟩, ⟨by repeat (first | (with_reducible first | exact HB.out | apply below_alloc | apply pw_below_drewN | apply below_drew1 | refine below_set ?_ GE109.out | refine below_set ?_ GE110.out | refine below_set ?_ GE111.out) | exact HB.out)⟩⟩
  case round =>
   clear H'
   try clear c1
   try clear c2
   try clear p2
   try clear c4
   try clear c4b0
   try clear c4b1
   try clear c5
   try clear c8
   try clear c9
   try clear hcz10_0
   try clear hcz10_1
   try clear hcz10_2
   try clear hcz12_0
   try clear hcz12_1
   try clear hcz12_2
   try clear hfz10_0
   try clear hfz10_1
   try clear hfz10_2
   try clear hfz12_0
   try clear hfz12_1
   try clear hfz12_2
   obtain ⟨x18_1, x110000_1, x110001_1, x110002_1, x110003_1, x110004_1, x110005_1, x110006_1, x110007_1, rfl, HA, HK1, BK109, BK110, BK111, HB⟩ := hrel
   cases gk with
   | zero => exact absurd HA.out (by simp [modal_Apply.l0])
   | succ k1 =>
    have H := HA.out
    clear HA
    simp only [modal_Apply.l0] at H
    by_cases c13 : x18_1 < (l1_1.length : Int)
    ·rw [if_pos c13] at H
     have c13b0 : decide (x18_1 < (l1_1.length : Int)) = true := decide_eq_true c13
     clear c13
     by_cases c14 : 0 ≤ x18_1
     ·rw [if_pos c14] at H
      have c14b0 : decide (0 ≤ x18_1) = true := decide_eq_true c14
      clear c14
      by_cases c15 : x18_1 < (l1_1.length : Int)
      ·rw [if_pos c15] at H
       have c15b0 : decide (x18_1 < (l1_1.length : Int)) = true := decide_eq_true c15
       clear c15
       replace H := Option.bind_eq_some_iff.mp H
       obtain ⟨⟨t115, t116, t117, t118, t119, t120, t121, t122⟩, A160, H⟩ := H
       replace H : (modal_Apply.l0 k1 l1_1 (l1_1.length : Int) (wrap64 (x18_1 + 1)) t115 t116 t117 t118 t119 t120 t121 t122) = some (r1, r2, r3, r4, r5, r6, r7, r8, r9) := H
       have A16 := Aside0.mk A160
       clear A160
       have H' := Aside0.mk H
       clear H
       have p113 : 0 ≤ (x18_1 : Int) := of_decide_eq_true (by first | (with_reducible assumption) | assumption)
       have q113 : x18_1 < (l1_1.length : Int) := of_decide_eq_true (by first | (with_reducible assumption) | assumption)
       obtain ⟨ad113, e113, hx113_0, hx113_1⟩ := at_T78 HR1_1.out x18_1 p113 q113
       cases e113
       replace hx113_0 := (HB.out.cell (World.block_lt_of_cell? w _ hx113_0)).trans hx113_0
       replace hx113_1 := (HB.out.cell (World.block_lt_of_cell? w _ hx113_1)).trans hx113_1
       replace p113 := eq_true p113
       replace q113 := eq_true q113
       go_wp2_with (first | ((with_reducible refine gate_dst (N := 8) rfl ?_); refine box_event ?hg (N := 8) ?hd (cs := #[.int .u8 0, .int .i64 0]) (t := 78) ?hr ?_; (case hd => rfl); (case hg => rfl); (case hr => first | (go_simp; done) | (go_simp; rfl)); intro gb114 hg w17 hbox hb; have n0_ := Aside0.mk (blk_below (g := gb109) (o := .cells #[.int .i64 x110000_1, .int .i64 x110001_1, .int .i64 x110002_1, .int .i64 x110003_1, .int .i64 x110004_1, .int .i64 x110005_1, .int .i64 x110006_1, .int .i64 x110007_1] 26 (0, 0)) (by (with_reducible repeat (first | refine blk_drewN ?_ _ | refine blk_drew ?_ | refine blk_alloc ?_ _)); exact BK109.out) hb); have n1_ := Aside0.mk (blk_below (g := gb110) (o := .cells #[.bool a1_0, .slice (some ad113) l1_1.length c1_1, .string a1_2] 32 (0, 0)) (by (with_reducible repeat (first | refine blk_drewN ?_ _ | refine blk_drew ?_ | refine blk_alloc ?_ _)); exact BK110.out) hb); have n2_ := Aside0.mk (blk_below (g := gb111) (o := .cells #[.int .i64 0, .int .i64 0, .int .i64 0, .int .i64 0, .int .i64 0, .int .i64 0, .int .i64 0, .int .i64 0] 26 (0, 0)) (by (with_reducible repeat (first | refine blk_drewN ?_ _ | refine blk_drew ?_ | refine blk_alloc ?_ _)); exact BK111.out) hb); have n3_ := Aside0.mk (below_step (by repeat (first | (with_reducible first | exact HB.out | apply below_alloc | apply pw_below_drewN | apply below_drew1 | refine below_set ?_ GE109.out | refine below_set ?_ GE110.out | refine below_set ?_ GE111.out) | exact HB.out)) hb); have n4_ := Aside0.mk (hbox); have n5_ := Aside0.mk ((by rw [hg]; exact (below_size (by repeat (first | (with_reducible first | exact HB.out | apply below_alloc | apply pw_below_drewN | apply below_drew1 | refine below_set ?_ GE109.out | refine below_set ?_ GE110.out | refine below_set ?_ GE111.out) | exact HB.out))) : w.heap.size ≤ gb114)); have n6_ := Aside0.mk ((by rw [hg]; exact (below_size (by repeat (first | (with_reducible first | exact HB.out | apply below_alloc | apply pw_below_drewN | apply below_drew1 | refine below_set ?_ GE109.out | refine below_set ?_ GE110.out | refine below_set ?_ GE111.out) | exact HB.out))) : w.heap.size ≤ gb114)); have n7_ := Aside0.mk ((by rw [hg]; exact Nat.ne_of_lt (blk_lt (g := gb109) (o := .cells #[.int .i64 x110000_1, .int .i64 x110001_1, .int .i64 x110002_1, .int .i64 x110003_1, .int .i64 x110004_1, .int .i64 x110005_1, .int .i64 x110006_1, .int .i64 x110007_1] 26 (0, 0)) (by (with_reducible repeat (first | refine blk_drewN ?_ _ | refine blk_drew ?_ | refine blk_alloc ?_ _)); exact BK109.out)) : gb109 ≠ gb114)); have n8_ := Aside0.mk ((by rw [hg]; exact Nat.ne_of_gt (blk_lt (g := gb109) (o := .cells #[.int .i64 x110000_1, .int .i64 x110001_1, .int .i64 x110002_1, .int .i64 x110003_1, .int .i64 x110004_1, .int .i64 x110005_1, .int .i64 x110006_1, .int .i64 x110007_1] 26 (0, 0)) (by (with_reducible repeat (first | refine blk_drewN ?_ _ | refine blk_drew ?_ | refine blk_alloc ?_ _)); exact BK109.out)) : gb114 ≠ gb109)); have n9_ := Aside0.mk ((by rw [hg]; exact Nat.ne_of_lt (blk_lt (g := gb110) (o := .cells #[.bool a1_0, .slice (some ad113) l1_1.length c1_1, .string a1_2] 32 (0, 0)) (by (with_reducible repeat (first | refine blk_drewN ?_ _ | refine blk_drew ?_ | refine blk_alloc ?_ _)); exact BK110.out)) : gb110 ≠ gb114)); have n10_ := Aside0.mk ((by rw [hg]; exact Nat.ne_of_gt (blk_lt (g := gb110) (o := .cells #[.bool a1_0, .slice (some ad113) l1_1.length c1_1, .string a1_2] 32 (0, 0)) (by (with_reducible repeat (first | refine blk_drewN ?_ _ | refine blk_drew ?_ | refine blk_alloc ?_ _)); exact BK110.out)) : gb114 ≠ gb110)); have n11_ := Aside0.mk ((by rw [hg]; exact Nat.ne_of_lt (blk_lt (g := gb111) (o := .cells #[.int .i64 0, .int .i64 0, .int .i64 0, .int .i64 0, .int .i64 0, .int .i64 0, .int .i64 0, .int .i64 0] 26 (0, 0)) (by (with_reducible repeat (first | refine blk_drewN ?_ _ | refine blk_drew ?_ | refine blk_alloc ?_ _)); exact BK111.out)) : gb111 ≠ gb114)); have n12_ := Aside0.mk ((by rw [hg]; exact Nat.ne_of_gt (blk_lt (g := gb111) (o := .cells #[.int .i64 0, .int .i64 0, .int .i64 0, .int .i64 0, .int .i64 0, .int .i64 0, .int .i64 0, .int .i64 0] 26 (0, 0)) (by (with_reducible repeat (first | refine blk_drewN ?_ _ | refine blk_drew ?_ | refine blk_alloc ?_ _)); exact BK111.out)) : gb114 ≠ gb111)); clear BK109; clear BK110; clear BK111; clear HB; have BK109 := n0_; have BK110 := n1_; have BK111 := n2_; have HB := n3_; have BK114 := n4_; have GW114 := n5_; have GE114 := n6_; have NB109_114 := n7_; have NB114_109 := n8_; have NB110_114 := n9_; have NB114_110 := n10_; have NB111_114 := n11_; have NB114_111 := n12_; clear n0_ n1_ n2_ n3_ n4_ n5_ n6_ n7_ n8_ n9_ n10_ n11_ n12_; clear hb hbox hg; have hnb18 := NB114_109.out; have hnc18 := NB109_114.out; have hnb19 := NB114_110.out; have hnc19 := NB110_114.out; have hnb20 := NB114_111.out; have hnc20 := NB111_114.out; have hcz21_0 : w17.cell? ⟨gb114, 0, none⟩ = some (.int .u8 0) := (blk_cell BK114.out 0).trans rfl; have hcz21_1 : w17.cell? ⟨gb114, 1, none⟩ = some (.int .i64 0) := (blk_cell BK114.out 1).trans rfl; have hfz21_0 := blk_frozen BK114.out 0; have hfz21_1 := blk_frozen BK114.out 1; have hnb22 := NB109_110.out; have hnc22 := NB110_109.out; have hnb23 := NB109_111.out; have hnc23 := NB111_109.out; have hcz24_0 : w17.cell? ⟨gb109, 0, none⟩ = some (.int .i64 x110000_1) := (blk_cell BK109.out 0).trans rfl; have hcz24_1 : w17.cell? ⟨gb109, 1, none⟩ = some (.int .i64 x110001_1) := (blk_cell BK109.out 1).trans rfl; have hcz24_2 : w17.cell? ⟨gb109, 2, none⟩ = some (.int .i64 x110002_1) := (blk_cell BK109.out 2).trans rfl; have hcz24_3 : w17.cell? ⟨gb109, 3, none⟩ = some (.int .i64 x110003_1) := (blk_cell BK109.out 3).trans rfl; have hcz24_4 : w17.cell? ⟨gb109, 4, none⟩ = some (.int .i64 x110004_1) := (blk_cell BK109.out 4).trans rfl; have hcz24_5 : w17.cell? ⟨gb109, 5, none⟩ = some (.int .i64 x110005_1) := (blk_cell BK109.out 5).trans rfl; have hcz24_6 : w17.cell? ⟨gb109, 6, none⟩ = some (.int .i64 x110006_1) := (blk_cell BK109.out 6).trans rfl; have hcz24_7 : w17.cell? ⟨gb109, 7, none⟩ = some (.int .i64 x110007_1) := (blk_cell BK109.out 7).trans rfl; have hfz24_0 := blk_frozen BK109.out 0; have hfz24_1 := blk_frozen BK109.out 1; have hfz24_2 := blk_frozen BK109.out 2; have hfz24_3 := blk_frozen BK109.out 3; have hfz24_4 := blk_frozen BK109.out 4; have hfz24_5 := blk_frozen BK109.out 5; have hfz24_6 := blk_frozen BK109.out 6; have hfz24_7 := blk_frozen BK109.out 7) | ((with_reducible refine gate_callee (f := 54) rfl ?_); refine goesL_ (some 24) rfl rfl Try.func54 (by kernel_rfl) rfl #[.agg #[.int .i64 x110000_1, .int .i64 x110001_1, .int .i64 x110002_1, .int .i64 x110003_1, .int .i64 x110004_1, .int .i64 x110005_1, .int .i64 x110006_1, .int .i64 x110007_1], .agg #[.int .u8 ((rd_T78 l1_1 x18_1).f0), .int .i64 ((rd_T78 l1_1 x18_1).f1)]] rfl (by (try simp only [List.map_toArray, List.map_cons, List.map_nil]); first | done | rfl | (simp only [List.length_drop, List.length_take]; rfl)) ?_; (with_reducible refine (modal_put.calls x110000_1 x110001_1 x110002_1 x110003_1 x110004_1 x110005_1 x110006_1 x110007_1 ((rd_T78 l1_1 x18_1).f0) ((rd_T78 l1_1 x18_1).f1) t115 t116 t117 t118 t119 t120 t121 t122 _ A16.out).mono ?_); rintro e w25 ⟨rfl, hb⟩; refine ⟨_, rfl, ?_⟩; have n0_ := Aside0.mk (blk_below (g := gb109) (o := .cells #[.int .i64 x110000_1, .int .i64 x110001_1, .int .i64 x110002_1, .int .i64 x110003_1, .int .i64 x110004_1, .int .i64 x110005_1, .int .i64 x110006_1, .int .i64 x110007_1] 26 (0, 0)) (by (with_reducible repeat (first | refine blk_drewN ?_ _ | refine blk_drew ?_ | refine blk_alloc ?_ _)); refine blk_far ?_ NB109_114.out _; (with_reducible repeat (first | refine blk_drewN ?_ _ | refine blk_drew ?_ | refine blk_alloc ?_ _)); refine blk_far ?_ NB109_114.out _; (with_reducible repeat (first | refine blk_drewN ?_ _ | refine blk_drew ?_ | refine blk_alloc ?_ _)); exact BK109.out) hb); have n1_ := Aside0.mk (blk_below (g := gb110) (o := .cells #[.bool a1_0, .slice (some ad113) l1_1.length c1_1, .string a1_2] 32 (0, 0)) (by (with_reducible repeat (first | refine blk_drewN ?_ _ | refine blk_drew ?_ | refine blk_alloc ?_ _)); refine blk_far ?_ NB110_114.out _; (with_reducible repeat (first | refine blk_drewN ?_ _ | refine blk_drew ?_ | refine blk_alloc ?_ _)); refine blk_far ?_ NB110_114.out _; (with_reducible repeat (first | refine blk_drewN ?_ _ | refine blk_drew ?_ | refine blk_alloc ?_ _)); exact BK110.out) hb); have n2_ := Aside0.mk (blk_below (g := gb111) (o := .cells #[.int .i64 0, .int .i64 0, .int .i64 0, .int .i64 0, .int .i64 0, .int .i64 0, .int .i64 0, .int .i64 0] 26 (0, 0)) (by (with_reducible repeat (first | refine blk_drewN ?_ _ | refine blk_drew ?_ | refine blk_alloc ?_ _)); refine blk_far ?_ NB111_114.out _; (with_reducible repeat (first | refine blk_drewN ?_ _ | refine blk_drew ?_ | refine blk_alloc ?_ _)); refine blk_far ?_ NB111_114.out _; (with_reducible repeat (first | refine blk_drewN ?_ _ | refine blk_drew ?_ | refine blk_alloc ?_ _)); exact BK111.out) hb); have n3_ := Aside0.mk (blk_below (g := gb114) (o := .cells #[.int .u8 ((rd_T78 l1_1 x18_1).f0), .int .i64 ((rd_T78 l1_1 x18_1).f1)] 78 (0, 0)) (by (with_reducible repeat (first | refine blk_drewN ?_ _ | refine blk_drew ?_ | refine blk_alloc ?_ _)); refine blk_put (cs := #[.int .u8 ((rd_T78 l1_1 x18_1).f0), .int .i64 0]) ?_ 1 _ rfl; (with_reducible repeat (first | refine blk_drewN ?_ _ | refine blk_drew ?_ | refine blk_alloc ?_ _)); refine blk_put (cs := #[.int .u8 0, .int .i64 0]) ?_ 0 _ rfl; (with_reducible repeat (first | refine blk_drewN ?_ _ | refine blk_drew ?_ | refine blk_alloc ?_ _)); exact BK114.out) hb); have n4_ := Aside0.mk (below_step (by repeat (first | (with_reducible first | exact HB.out | apply below_alloc | apply pw_below_drewN | apply below_drew1 | refine below_set ?_ GE109.out | refine below_set ?_ GE110.out | refine below_set ?_ GE111.out | refine below_set ?_ GE114.out) | exact HB.out)) hb); clear BK109; clear BK110; clear BK111; clear BK114; clear HB; have BK109 := n0_; have BK110 := n1_; have BK111 := n2_; have BK114 := n3_; have HB := n4_; clear n0_ n1_ n2_ n3_ n4_; (try clear hb); (try clear hb2); (try clear hk); (try clear hi); have hcz26_0 : w25.cell? ⟨gb109, 0, none⟩ = some (.int .i64 x110000_1) := (blk_cell BK109.out 0).trans rfl; have hcz26_1 : w25.cell? ⟨gb109, 1, none⟩ = some (.int .i64 x110001_1) := (blk_cell BK109.out 1).trans rfl; have hcz26_2 : w25.cell? ⟨gb109, 2, none⟩ = some (.int .i64 x110002_1) := (blk_cell BK109.out 2).trans rfl; have hcz26_3 : w25.cell? ⟨gb109, 3, none⟩ = some (.int .i64 x110003_1) := (blk_cell BK109.out 3).trans rfl; have hcz26_4 : w25.cell? ⟨gb109, 4, none⟩ = some (.int .i64 x110004_1) := (blk_cell BK109.out 4).trans rfl; have hcz26_5 : w25.cell? ⟨gb109, 5, none⟩ = some (.int .i64 x110005_1) := (blk_cell BK109.out 5).trans rfl; have hcz26_6 : w25.cell? ⟨gb109, 6, none⟩ = some (.int .i64 x110006_1) := (blk_cell BK109.out 6).trans rfl; have hcz26_7 : w25.cell? ⟨gb109, 7, none⟩ = some (.int .i64 x110007_1) := (blk_cell BK109.out 7).trans rfl; have hfz26_0 := blk_frozen BK109.out 0; have hfz26_1 := blk_frozen BK109.out 1; have hfz26_2 := blk_frozen BK109.out 2; have hfz26_3 := blk_frozen BK109.out 3; have hfz26_4 := blk_frozen BK109.out 4; have hfz26_5 := blk_frozen BK109.out 5; have hfz26_6 := blk_frozen BK109.out 6; have hfz26_7 := blk_frozen BK109.out 7))
       go_roundg k1
       case measure => have := HK1.out; omega
       case rel => exact ⟨(wrap64 (x18_1 + 1)), (t115), (t116), (t117), (t118), (t119), (t120), (t121), (t122), (by first | rfl | (simp; done) | (simp [*]; done)), H', ⟨by have := HK1.out; omega⟩, ⟨by (with_reducible repeat (first | refine blk_drewN ?_ _ | refine blk_drew ?_ | refine blk_alloc ?_ _)); refine blk_put (cs := #[.int .i64 t115, .int .i64 t116, .int .i64 t117, .int .i64 t118, .int .i64 t119, .int .i64 t120, .int .i64 t121, .int .i64 x110007_1]) ?_ 7 _ rfl; (with_reducible repeat (first | refine blk_drewN ?_ _ | refine blk_drew ?_ | refine blk_alloc ?_ _)); refine blk_put (cs := #[.int .i64 t115, .int .i64 t116, .int .i64 t117, .int .i64 t118, .int .i64 t119, .int .i64 t120, .int .i64 x110006_1, .int .i64 x110007_1]) ?_ 6 _ rfl; (with_reducible repeat (first | refine blk_drewN ?_ _ | refine blk_drew ?_ | refine blk_alloc ?_ _)); refine blk_put (cs := #[.int .i64 t115, .int .i64 t116, .int .i64 t117, .int .i64 t118, .int .i64 t119, .int .i64 x110005_1, .int .i64 x110006_1, .int .i64 x110007_1]) ?_ 5 _ rfl; (with_reducible repeat (first | refine blk_drewN ?_ _ | refine blk_drew ?_ | refine blk_alloc ?_ _)); refine blk_put (cs := #[.int .i64 t115, .int .i64 t116, .int .i64 t117, .int .i64 t118, .int .i64 x110004_1, .int .i64 x110005_1, .int .i64 x110006_1, .int .i64 x110007_1]) ?_ 4 _ rfl; (with_reducible repeat (first | refine blk_drewN ?_ _ | refine blk_drew ?_ | refine blk_alloc ?_ _)); refine blk_put (cs := #[.int .i64 t115, .int .i64 t116, .int .i64 t117, .int .i64 x110003_1, .int .i64 x110004_1, .int .i64 x110005_1, .int .i64 x110006_1, .int .i64 x110007_1]) ?_ 3 _ rfl; (with_reducible repeat (first | refine blk_drewN ?_ _ | refine blk_drew ?_ | refine blk_alloc ?_ _)); refine blk_put (cs := #[.int .i64 t115, .int .i64 t116, .int .i64 x110002_1, .int .i64 x110003_1, .int .i64 x110004_1, .int .i64 x110005_1, .int .i64 x110006_1, .int .i64 x110007_1]) ?_ 2 _ rfl; (with_reducible repeat (first | refine blk_drewN ?_ _ | refine blk_drew ?_ | refine blk_alloc ?_ _)); refine blk_put (cs := #[.int .i64 t115, .int .i64 x110001_1, .int .i64 x110002_1, .int .i64 x110003_1, .int .i64 x110004_1, .int .i64 x110005_1, .int .i64 x110006_1, .int .i64 x110007_1]) ?_ 1 _ rfl; (with_reducible repeat (first | refine blk_drewN ?_ _ | refine blk_drew ?_ | refine blk_alloc ?_ _)); refine blk_put (cs := #[.int .i64 x110000_1, .int .i64 x110001_1, .int .i64 x110002_1, .int .i64 x110003_1, .int .i64 x110004_1, .int .i64 x110005_1, .int .i64 x110006_1, .int .i64 x110007_1]) ?_ 0 _ rfl; (with_reducible repeat (first | refine blk_drewN ?_ _ | refine blk_drew ?_ | refine blk_alloc ?_ _)); exact BK109.out⟩, ⟨by (with_reducible repeat (first | refine blk_drewN ?_ _ | refine blk_drew ?_ | refine blk_alloc ?_ _)); refine blk_far ?_ NB110_109.out _; (with_reducible repeat (first | refine blk_drewN ?_ _ | refine blk_drew ?_ | refine blk_alloc ?_ _)); refine blk_far ?_ NB110_109.out _; (with_reducible repeat (first | refine blk_drewN ?_ _ | refine blk_drew ?_ | refine blk_alloc ?_ _)); refine blk_far ?_ NB110_109.out _; (with_reducible repeat (first | refine blk_drewN ?_ _ | refine blk_drew ?_ | refine blk_alloc ?_ _)); refine blk_far ?_ NB110_109.out _; (with_reducible repeat (first | refine blk_drewN ?_ _ | refine blk_drew ?_ | refine blk_alloc ?_ _)); refine blk_far ?_ NB110_109.out _; (with_reducible repeat (first | refine blk_drewN ?_ _ | refine blk_drew ?_ | refine blk_alloc ?_ _)); refine blk_far ?_ NB110_109.out _; (with_reducible repeat (first | refine blk_drewN ?_ _ | refine blk_drew ?_ | refine blk_alloc ?_ _)); refine blk_far ?_ NB110_109.out _; (with_reducible repeat (first | refine blk_drewN ?_ _ | refine blk_drew ?_ | refine blk_alloc ?_ _)); refine blk_far ?_ NB110_109.out _; (with_reducible repeat (first | refine blk_drewN ?_ _ | refine blk_drew ?_ | refine blk_alloc ?_ _)); exact BK110.out⟩, ⟨by (with_reducible repeat (first | refine blk_drewN ?_ _ | refine blk_drew ?_ | refine blk_alloc ?_ _)); refine blk_far ?_ NB111_109.out _; (with_reducible repeat (first | refine blk_drewN ?_ _ | refine blk_drew ?_ | refine blk_alloc ?_ _)); refine blk_far ?_ NB111_109.out _; (with_reducible repeat (first | refine blk_drewN ?_ _ | refine blk_drew ?_ | refine blk_alloc ?_ _)); refine blk_far ?_ NB111_109.out _; (with_reducible repeat (first | refine blk_drewN ?_ _ | refine blk_drew ?_ | refine blk_alloc ?_ _)); refine blk_far ?_ NB111_109.out _; (with_reducible repeat (first | refine blk_drewN ?_ _ | refine blk_drew ?_ | refine blk_alloc ?_ _)); refine blk_far ?_ NB111_109.out _; (with_reducible repeat (first | refine blk_drewN ?_ _ | refine blk_drew ?_ | refine blk_alloc ?_ _)); refine blk_far ?_ NB111_109.out _; (with_reducible repeat (first | refine blk_drewN ?_ _ | refine blk_drew ?_ | refine blk_alloc ?_ _)); refine blk_far ?_ NB111_109.out _; (with_reducible repeat (first | refine blk_drewN ?_ _ | refine blk_drew ?_ | refine blk_alloc ?_ _)); refine blk_far ?_ NB111_109.out _; (with_reducible repeat (first | refine blk_drewN ?_ _ | refine blk_drew ?_ | refine blk_alloc ?_ _)); exact BK111.out⟩, ⟨by repeat (first | (with_reducible first | exact HB.out | apply below_alloc | apply pw_below_drewN | apply below_drew1 | refine below_set ?_ GE109.out | refine below_set ?_ GE110.out | refine below_set ?_ GE111.out | refine below_set ?_ GE114.out) | exact HB.out)⟩⟩
      ·rw [if_neg c15] at H
       exact absurd H (by simp)
     ·rw [if_neg c14] at H
      exact absurd H (by simp)
    ·rw [if_neg c13] at H
     have c13b0 : decide (x18_1 < (l1_1.length : Int)) = false := decide_eq_false c13
     clear c13
     simp only [Option.some.injEq, Prod.mk.injEq] at H
     obtain ⟨rfl, rfl, rfl, rfl, rfl, rfl, rfl, rfl, rfl⟩ := H
     have hnb27 := NB109_110.out
     have hnc27 := NB110_109.out
     have hnb28 := NB109_111.out
     have hnc28 := NB111_109.out
     have hcz29_0 : wr.cell? ⟨gb109, 0, none⟩ = some (.int .i64 x110000_1) := (blk_cell BK109.out 0).trans rfl
     have hcz29_1 : wr.cell? ⟨gb109, 1, none⟩ = some (.int .i64 x110001_1) := (blk_cell BK109.out 1).trans rfl
     have hcz29_2 : wr.cell? ⟨gb109, 2, none⟩ = some (.int .i64 x110002_1) := (blk_cell BK109.out 2).trans rfl
     have hcz29_3 : wr.cell? ⟨gb109, 3, none⟩ = some (.int .i64 x110003_1) := (blk_cell BK109.out 3).trans rfl
     have hcz29_4 : wr.cell? ⟨gb109, 4, none⟩ = some (.int .i64 x110004_1) := (blk_cell BK109.out 4).trans rfl
     have hcz29_5 : wr.cell? ⟨gb109, 5, none⟩ = some (.int .i64 x110005_1) := (blk_cell BK109.out 5).trans rfl
     have hcz29_6 : wr.cell? ⟨gb109, 6, none⟩ = some (.int .i64 x110006_1) := (blk_cell BK109.out 6).trans rfl
     have hcz29_7 : wr.cell? ⟨gb109, 7, none⟩ = some (.int .i64 x110007_1) := (blk_cell BK109.out 7).trans rfl
     have hfz29_0 := blk_frozen BK109.out 0
     have hfz29_1 := blk_frozen BK109.out 1
     have hfz29_2 := blk_frozen BK109.out 2
     have hfz29_3 := blk_frozen BK109.out 3
     have hfz29_4 := blk_frozen BK109.out 4
     have hfz29_5 := blk_frozen BK109.out 5
     have hfz29_6 := blk_frozen BK109.out 6
     have hfz29_7 := blk_frozen BK109.out 7
     have hnb30 := NB111_110.out
     have hnc30 := NB110_111.out
     have hcz31_0 : wr.cell? ⟨gb111, 0, none⟩ = some (.int .i64 0) := (blk_cell BK111.out 0).trans rfl
     have hcz31_1 : wr.cell? ⟨gb111, 1, none⟩ = some (.int .i64 0) := (blk_cell BK111.out 1).trans rfl
     have hcz31_2 : wr.cell? ⟨gb111, 2, none⟩ = some (.int .i64 0) := (blk_cell BK111.out 2).trans rfl
     have hcz31_3 : wr.cell? ⟨gb111, 3, none⟩ = some (.int .i64 0) := (blk_cell BK111.out 3).trans rfl
     have hcz31_4 : wr.cell? ⟨gb111, 4, none⟩ = some (.int .i64 0) := (blk_cell BK111.out 4).trans rfl
     have hcz31_5 : wr.cell? ⟨gb111, 5, none⟩ = some (.int .i64 0) := (blk_cell BK111.out 5).trans rfl
     have hcz31_6 : wr.cell? ⟨gb111, 6, none⟩ = some (.int .i64 0) := (blk_cell BK111.out 6).trans rfl
     have hcz31_7 : wr.cell? ⟨gb111, 7, none⟩ = some (.int .i64 0) := (blk_cell BK111.out 7).trans rfl
     have hfz31_0 := blk_frozen BK111.out 0
     have hfz31_1 := blk_frozen BK111.out 1
     have hfz31_2 := blk_frozen BK111.out 2
     have hfz31_3 := blk_frozen BK111.out 3
     have hfz31_4 := blk_frozen BK111.out 4
     have hfz31_5 := blk_frozen BK111.out 5
     have hfz31_6 := blk_frozen BK111.out 6
     have hfz31_7 := blk_frozen BK111.out 7
     go_wp2
     refine bodyPost_ret (results_ct rfl _ _ gb111 26 #[.int .i64 x110000_1, .int .i64 x110001_1, .int .i64 x110002_1, .int .i64 x110003_1, .int .i64 x110004_1, .int .i64 x110005_1, .int .i64 x110006_1, .int .i64 x110007_1] (0, 0) _ rfl (by (with_reducible repeat (first | refine blk_drewN ?_ _ | refine blk_drew ?_ | refine blk_alloc ?_ _)); refine blk_put (cs := #[.int .i64 x110000_1, .int .i64 x110001_1, .int .i64 x110002_1, .int .i64 x110003_1, .int .i64 x110004_1, .int .i64 x110005_1, .int .i64 x110006_1, .int .i64 0]) ?_ 7 _ rfl; (with_reducible repeat (first | refine blk_drewN ?_ _ | refine blk_drew ?_ | refine blk_alloc ?_ _)); refine blk_put (cs := #[.int .i64 x110000_1, .int .i64 x110001_1, .int .i64 x110002_1, .int .i64 x110003_1, .int .i64 x110004_1, .int .i64 x110005_1, .int .i64 0, .int .i64 0]) ?_ 6 _ rfl; (with_reducible repeat (first | refine blk_drewN ?_ _ | refine blk_drew ?_ | refine blk_alloc ?_ _)); refine blk_put (cs := #[.int .i64 x110000_1, .int .i64 x110001_1, .int .i64 x110002_1, .int .i64 x110003_1, .int .i64 x110004_1, .int .i64 0, .int .i64 0, .int .i64 0]) ?_ 5 _ rfl; (with_reducible repeat (first | refine blk_drewN ?_ _ | refine blk_drew ?_ | refine blk_alloc ?_ _)); refine blk_put (cs := #[.int .i64 x110000_1, .int .i64 x110001_1, .int .i64 x110002_1, .int .i64 x110003_1, .int .i64 0, .int .i64 0, .int .i64 0, .int .i64 0]) ?_ 4 _ rfl; (with_reducible repeat (first | refine blk_drewN ?_ _ | refine blk_drew ?_ | refine blk_alloc ?_ _)); refine blk_put (cs := #[.int .i64 x110000_1, .int .i64 x110001_1, .int .i64 x110002_1, .int .i64 0, .int .i64 0, .int .i64 0, .int .i64 0, .int .i64 0]) ?_ 3 _ rfl; (with_reducible repeat (first | refine blk_drewN ?_ _ | refine blk_drew ?_ | refine blk_alloc ?_ _)); refine blk_put (cs := #[.int .i64 x110000_1, .int .i64 x110001_1, .int .i64 0, .int .i64 0, .int .i64 0, .int .i64 0, .int .i64 0, .int .i64 0]) ?_ 2 _ rfl; (with_reducible repeat (first | refine blk_drewN ?_ _ | refine blk_drew ?_ | refine blk_alloc ?_ _)); refine blk_put (cs := #[.int .i64 x110000_1, .int .i64 0, .int .i64 0, .int .i64 0, .int .i64 0, .int .i64 0, .int .i64 0, .int .i64 0]) ?_ 1 _ rfl; (with_reducible repeat (first | refine blk_drewN ?_ _ | refine blk_drew ?_ | refine blk_alloc ?_ _)); refine blk_put (cs := #[.int .i64 0, .int .i64 0, .int .i64 0, .int .i64 0, .int .i64 0, .int .i64 0, .int .i64 0, .int .i64 0]) ?_ 0 _ rfl; (with_reducible repeat (first | refine blk_drewN ?_ _ | refine blk_drew ?_ | refine blk_alloc ?_ _)); exact BK111.out) Try.underlying26 rfl (by kernel_rfl)) rfl ?_
     exact ⟨by first | rfl | (simp [errW_none, errW_some] <;> rfl) | (simp [*, errW_none, errW_some] <;> rfl), by repeat (first | (with_reducible first | exact HB.out | apply below_alloc | apply pw_below_drewN | apply below_drew1 | refine below_set ?_ GE109.out | refine below_set ?_ GE110.out | refine below_set ?_ GE111.out) | exact HB.out)⟩
 ·rw [if_neg c4] at H
  have c4b0 : (t112 == 0) = false := beq_eq_false_iff_ne.mpr c4
  have c4b1 : (t112 != 0) = true := bne_iff_ne.mpr c4
  simp only [Option.some.injEq, Prod.mk.injEq] at H
  obtain ⟨rfl, rfl, rfl, rfl, rfl, rfl, rfl, rfl, rfl⟩ := H
  go_enter Try.func21, Try.ntmps21
  go_wp2_with (first | ((with_reducible refine gate_dst (N := 2) rfl ?_); refine box_event ?hg (N := 2) ?hd (cs := #[.int .i64 a0_0, .int .i64 a0_1, .int .i64 a0_2, .int .i64 a0_3, .int .i64 a0_4, .int .i64 a0_5, .int .i64 a0_6, .int .i64 a0_7]) (t := 26) ?hr ?_; (case hd => rfl); (case hg => rfl); (case hr => first | (go_simp; done) | (go_simp; rfl)); intro gb109 hg w32 hbox hb; have n0_ := Aside0.mk (below_step (by repeat (first | (with_reducible first | exact HB.out | apply below_alloc | apply pw_below_drewN | apply below_drew1) | exact HB.out)) hb); have n1_ := Aside0.mk (hbox); have n2_ := Aside0.mk ((by rw [hg]; exact (below_size (by repeat (first | (with_reducible first | exact HB.out | apply below_alloc | apply pw_below_drewN | apply below_drew1) | exact HB.out))) : w.heap.size ≤ gb109)); have n3_ := Aside0.mk ((by rw [hg]; exact (below_size (by repeat (first | (with_reducible first | exact HB.out | apply below_alloc | apply pw_below_drewN | apply below_drew1) | exact HB.out))) : w.heap.size ≤ gb109)); clear HB; have HB := n0_; have BK109 := n1_; have GW109 := n2_; have GE109 := n3_; clear n0_ n1_ n2_ n3_; clear hb hbox hg) | ((with_reducible refine gate_dst (N := 3) rfl ?_); refine box_event ?hg (N := 3) ?hd (cs := #[.bool a1_0, .slice A1_1 l1_1.length c1_1, .string a1_2]) (t := 32) ?hr ?_; (case hd => rfl); (case hg => rfl); (case hr => first | (go_simp; done) | (go_simp; rfl)); intro gb110 hg w33 hbox hb; have n0_ := Aside0.mk (blk_below (g := gb109) (o := .cells #[.int .i64 a0_0, .int .i64 a0_1, .int .i64 a0_2, .int .i64 a0_3, .int .i64 a0_4, .int .i64 a0_5, .int .i64 a0_6, .int .i64 a0_7] 26 (0, 0)) (by (with_reducible repeat (first | refine blk_drewN ?_ _ | refine blk_drew ?_ | refine blk_alloc ?_ _)); exact BK109.out) hb); have n1_ := Aside0.mk (below_step (by repeat (first | (with_reducible first | exact HB.out | apply below_alloc | apply pw_below_drewN | apply below_drew1 | refine below_set ?_ GE109.out) | exact HB.out)) hb); have n2_ := Aside0.mk (hbox); have n3_ := Aside0.mk ((by rw [hg]; exact (below_size (by repeat (first | (with_reducible first | exact HB.out | apply below_alloc | apply pw_below_drewN | apply below_drew1 | refine below_set ?_ GE109.out) | exact HB.out))) : w.heap.size ≤ gb110)); have n4_ := Aside0.mk ((by rw [hg]; exact (below_size (by repeat (first | (with_reducible first | exact HB.out | apply below_alloc | apply pw_below_drewN | apply below_drew1 | refine below_set ?_ GE109.out) | exact HB.out))) : w.heap.size ≤ gb110)); have n5_ := Aside0.mk ((by rw [hg]; exact Nat.ne_of_lt (blk_lt (g := gb109) (o := .cells #[.int .i64 a0_0, .int .i64 a0_1, .int .i64 a0_2, .int .i64 a0_3, .int .i64 a0_4, .int .i64 a0_5, .int .i64 a0_6, .int .i64 a0_7] 26 (0, 0)) (by (with_reducible repeat (first | refine blk_drewN ?_ _ | refine blk_drew ?_ | refine blk_alloc ?_ _)); exact BK109.out)) : gb109 ≠ gb110)); have n6_ := Aside0.mk ((by rw [hg]; exact Nat.ne_of_gt (blk_lt (g := gb109) (o := .cells #[.int .i64 a0_0, .int .i64 a0_1, .int .i64 a0_2, .int .i64 a0_3, .int .i64 a0_4, .int .i64 a0_5, .int .i64 a0_6, .int .i64 a0_7] 26 (0, 0)) (by (with_reducible repeat (first | refine blk_drewN ?_ _ | refine blk_drew ?_ | refine blk_alloc ?_ _)); exact BK109.out)) : gb110 ≠ gb109)); clear BK109; clear HB; have BK109 := n0_; have HB := n1_; have BK110 := n2_; have GW110 := n3_; have GE110 := n4_; have NB109_110 := n5_; have NB110_109 := n6_; clear n0_ n1_ n2_ n3_ n4_ n5_ n6_; clear hb hbox hg) | ((with_reducible refine gate_dst (N := 4) rfl ?_); refine box_event ?hg (N := 4) ?hd (cs := #[.int .i64 0, .int .i64 0, .int .i64 0, .int .i64 0, .int .i64 0, .int .i64 0, .int .i64 0, .int .i64 0]) (t := 26) ?hr ?_; (case hd => rfl); (case hg => rfl); (case hr => first | (go_simp; done) | (go_simp; rfl)); intro gb111 hg w34 hbox hb; have n0_ := Aside0.mk (blk_below (g := gb109) (o := .cells #[.int .i64 a0_0, .int .i64 a0_1, .int .i64 a0_2, .int .i64 a0_3, .int .i64 a0_4, .int .i64 a0_5, .int .i64 a0_6, .int .i64 a0_7] 26 (0, 0)) (by (with_reducible repeat (first | refine blk_drewN ?_ _ | refine blk_drew ?_ | refine blk_alloc ?_ _)); exact BK109.out) hb); have n1_ := Aside0.mk (blk_below (g := gb110) (o := .cells #[.bool a1_0, .slice A1_1 l1_1.length c1_1, .string a1_2] 32 (0, 0)) (by (with_reducible repeat (first | refine blk_drewN ?_ _ | refine blk_drew ?_ | refine blk_alloc ?_ _)); exact BK110.out) hb); have n2_ := Aside0.mk (below_step (by repeat (first | (with_reducible first | exact HB.out | apply below_alloc | apply pw_below_drewN | apply below_drew1 | refine below_set ?_ GE109.out | refine below_set ?_ GE110.out) | exact HB.out)) hb); have n3_ := Aside0.mk (hbox); have n4_ := Aside0.mk ((by rw [hg]; exact (below_size (by repeat (first | (with_reducible first | exact HB.out | apply below_alloc | apply pw_below_drewN | apply below_drew1 | refine below_set ?_ GE109.out | refine below_set ?_ GE110.out) | exact HB.out))) : w.heap.size ≤ gb111)); have n5_ := Aside0.mk ((by rw [hg]; exact (below_size (by repeat (first | (with_reducible first | exact HB.out | apply below_alloc | apply pw_below_drewN | apply below_drew1 | refine below_set ?_ GE109.out | refine below_set ?_ GE110.out) | exact HB.out))) : w.heap.size ≤ gb111)); have n6_ := Aside0.mk ((by rw [hg]; exact Nat.ne_of_lt (blk_lt (g := gb109) (o := .cells #[.int .i64 a0_0, .int .i64 a0_1, .int .i64 a0_2, .int .i64 a0_3, .int .i64 a0_4, .int .i64 a0_5, .int .i64 a0_6, .int .i64 a0_7] 26 (0, 0)) (by (with_reducible repeat (first | refine blk_drewN ?_ _ | refine blk_drew ?_ | refine blk_alloc ?_ _)); exact BK109.out)) : gb109 ≠ gb111)); have n7_ := Aside0.mk ((by rw [hg]; exact Nat.ne_of_gt (blk_lt (g := gb109) (o := .cells #[.int .i64 a0_0, .int .i64 a0_1, .int .i64 a0_2, .int .i64 a0_3, .int .i64 a0_4, .int .i64 a0_5, .int .i64 a0_6, .int .i64 a0_7] 26 (0, 0)) (by (with_reducible repeat (first | refine blk_drewN ?_ _ | refine blk_drew ?_ | refine blk_alloc ?_ _)); exact BK109.out)) : gb111 ≠ gb109)); have n8_ := Aside0.mk ((by rw [hg]; exact Nat.ne_of_lt (blk_lt (g := gb110) (o := .cells #[.bool a1_0, .slice A1_1 l1_1.length c1_1, .string a1_2] 32 (0, 0)) (by (with_reducible repeat (first | refine blk_drewN ?_ _ | refine blk_drew ?_ | refine blk_alloc ?_ _)); exact BK110.out)) : gb110 ≠ gb111)); have n9_ := Aside0.mk ((by rw [hg]; exact Nat.ne_of_gt (blk_lt (g := gb110) (o := .cells #[.bool a1_0, .slice A1_1 l1_1.length c1_1, .string a1_2] 32 (0, 0)) (by (with_reducible repeat (first | refine blk_drewN ?_ _ | refine blk_drew ?_ | refine blk_alloc ?_ _)); exact BK110.out)) : gb111 ≠ gb110)); clear BK109; clear BK110; clear HB; have BK109 := n0_; have BK110 := n1_; have HB := n2_; have BK111 := n3_; have GW111 := n4_; have GE111 := n5_; have NB109_111 := n6_; have NB111_109 := n7_; have NB110_111 := n8_; have NB111_110 := n9_; clear n0_ n1_ n2_ n3_ n4_ n5_ n6_ n7_ n8_ n9_; clear hb hbox hg; have hnb35 := NB110_109.out; have hnc35 := NB109_110.out; have hnb36 := NB110_111.out; have hnc36 := NB111_110.out; have hcz37_0 : w34.cell? ⟨gb110, 0, none⟩ = some (.bool a1_0) := (blk_cell BK110.out 0).trans rfl; have hcz37_1 : w34.cell? ⟨gb110, 1, none⟩ = some (.slice A1_1 l1_1.length c1_1) := (blk_cell BK110.out 1).trans rfl; have hcz37_2 : w34.cell? ⟨gb110, 2, none⟩ = some (.string a1_2) := (blk_cell BK110.out 2).trans rfl; have hfz37_0 := blk_frozen BK110.out 0; have hfz37_1 := blk_frozen BK110.out 1; have hfz37_2 := blk_frozen BK110.out 2) | ((with_reducible refine gate_callee (f := 51) rfl ?_); refine goesL_ (some 10) rfl rfl Try.func51 (by kernel_rfl) rfl #[.agg #[.bool a1_0, .slice A1_1 l1_1.length c1_1, .string a1_2]] rfl (by (try simp only [List.map_toArray, List.map_cons, List.map_nil]); first | done | rfl | (simp only [List.length_drop, List.length_take]; rfl)) ?_; (with_reducible refine (modal_Check.calls a1_0 _ _ l1_1 a1_2 t112 _ ?side1 ?side2 A3.out).mono ?_); (case side1 => repeat (first | exact (Kd.C_below HR1_1.out HB.out) | (with_reducible refine Kd.C_alloc ?_ _) | (with_reducible refine Kd.C_drewN ?_ _) | (with_reducible refine Kd.C_drew ?_))); (case side2 => exact HC1_1.out); rintro e w38 ⟨rfl, hb⟩; refine ⟨_, rfl, ?_⟩; have n0_ := Aside0.mk (blk_below (g := gb109) (o := .cells #[.int .i64 a0_0, .int .i64 a0_1, .int .i64 a0_2, .int .i64 a0_3, .int .i64 a0_4, .int .i64 a0_5, .int .i64 a0_6, .int .i64 a0_7] 26 (0, 0)) (by (with_reducible repeat (first | refine blk_drewN ?_ _ | refine blk_drew ?_ | refine blk_alloc ?_ _)); exact BK109.out) hb); have n1_ := Aside0.mk (blk_below (g := gb110) (o := .cells #[.bool a1_0, .slice A1_1 l1_1.length c1_1, .string a1_2] 32 (0, 0)) (by (with_reducible repeat (first | refine blk_drewN ?_ _ | refine blk_drew ?_ | refine blk_alloc ?_ _)); exact BK110.out) hb); have n2_ := Aside0.mk (blk_below (g := gb111) (o := .cells #[.int .i64 0, .int .i64 0, .int .i64 0, .int .i64 0, .int .i64 0, .int .i64 0, .int .i64 0, .int .i64 0] 26 (0, 0)) (by (with_reducible repeat (first | refine blk_drewN ?_ _ | refine blk_drew ?_ | refine blk_alloc ?_ _)); exact BK111.out) hb); have n3_ := Aside0.mk (below_step (by repeat (first | (with_reducible first | exact HB.out | apply below_alloc | apply pw_below_drewN | apply below_drew1 | refine below_set ?_ GE109.out | refine below_set ?_ GE110.out | refine below_set ?_ GE111.out) | exact HB.out)) hb); clear BK109; clear BK110; clear BK111; clear HB; have BK109 := n0_; have BK110 := n1_; have BK111 := n2_; have HB := n3_; clear n0_ n1_ n2_ n3_; (try clear hb); (try clear hb2); (try clear hk); (try clear hi); have hnb39 := NB111_109.out; have hnc39 := NB109_111.out; have hcz40_0 : w38.cell? ⟨gb111, 0, none⟩ = some (.int .i64 0) := (blk_cell BK111.out 0).trans rfl; have hcz40_1 : w38.cell? ⟨gb111, 1, none⟩ = some (.int .i64 0) := (blk_cell BK111.out 1).trans rfl; have hcz40_2 : w38.cell? ⟨gb111, 2, none⟩ = some (.int .i64 0) := (blk_cell BK111.out 2).trans rfl; have hcz40_3 : w38.cell? ⟨gb111, 3, none⟩ = some (.int .i64 0) := (blk_cell BK111.out 3).trans rfl; have hcz40_4 : w38.cell? ⟨gb111, 4, none⟩ = some (.int .i64 0) := (blk_cell BK111.out 4).trans rfl; have hcz40_5 : w38.cell? ⟨gb111, 5, none⟩ = some (.int .i64 0) := (blk_cell BK111.out 5).trans rfl; have hcz40_6 : w38.cell? ⟨gb111, 6, none⟩ = some (.int .i64 0) := (blk_cell BK111.out 6).trans rfl; have hcz40_7 : w38.cell? ⟨gb111, 7, none⟩ = some (.int .i64 0) := (blk_cell BK111.out 7).trans rfl; have hfz40_0 := blk_frozen BK111.out 0; have hfz40_1 := blk_frozen BK111.out 1; have hfz40_2 := blk_frozen BK111.out 2; have hfz40_3 := blk_frozen BK111.out 3; have hfz40_4 := blk_frozen BK111.out 4; have hfz40_5 := blk_frozen BK111.out 5; have hfz40_6 := blk_frozen BK111.out 6; have hfz40_7 := blk_frozen BK111.out 7))
  refine bodyPost_ret (results_ct rfl _ _ gb111 26 #[.int .i64 0, .int .i64 0, .int .i64 0, .int .i64 0, .int .i64 0, .int .i64 0, .int .i64 0, .int .i64 0] (0, 0) _ rfl (by (with_reducible repeat (first | refine blk_drewN ?_ _ | refine blk_drew ?_ | refine blk_alloc ?_ _)); refine blk_put (cs := #[.int .i64 0, .int .i64 0, .int .i64 0, .int .i64 0, .int .i64 0, .int .i64 0, .int .i64 0, .int .i64 0]) ?_ 7 _ rfl; (with_reducible repeat (first | refine blk_drewN ?_ _ | refine blk_drew ?_ | refine blk_alloc ?_ _)); refine blk_put (cs := #[.int .i64 0, .int .i64 0, .int .i64 0, .int .i64 0, .int .i64 0, .int .i64 0, .int .i64 0, .int .i64 0]) ?_ 6 _ rfl; (with_reducible repeat (first | refine blk_drewN ?_ _ | refine blk_drew ?_ | refine blk_alloc ?_ _)); refine blk_put (cs := #[.int .i64 0, .int .i64 0, .int .i64 0, .int .i64 0, .int .i64 0, .int .i64 0, .int .i64 0, .int .i64 0]) ?_ 5 _ rfl; (with_reducible repeat (first | refine blk_drewN ?_ _ | refine blk_drew ?_ | refine blk_alloc ?_ _)); refine blk_put (cs := #[.int .i64 0, .int .i64 0, .int .i64 0, .int .i64 0, .int .i64 0, .int .i64 0, .int .i64 0, .int .i64 0]) ?_ 4 _ rfl; (with_reducible repeat (first | refine blk_drewN ?_ _ | refine blk_drew ?_ | refine blk_alloc ?_ _)); refine blk_put (cs := #[.int .i64 0, .int .i64 0, .int .i64 0, .int .i64 0, .int .i64 0, .int .i64 0, .int .i64 0, .int .i64 0]) ?_ 3 _ rfl; (with_reducible repeat (first | refine blk_drewN ?_ _ | refine blk_drew ?_ | refine blk_alloc ?_ _)); refine blk_put (cs := #[.int .i64 0, .int .i64 0, .int .i64 0, .int .i64 0, .int .i64 0, .int .i64 0, .int .i64 0, .int .i64 0]) ?_ 2 _ rfl; (with_reducible repeat (first | refine blk_drewN ?_ _ | refine blk_drew ?_ | refine blk_alloc ?_ _)); refine blk_put (cs := #[.int .i64 0, .int .i64 0, .int .i64 0, .int .i64 0, .int .i64 0, .int .i64 0, .int .i64 0, .int .i64 0]) ?_ 1 _ rfl; (with_reducible repeat (first | refine blk_drewN ?_ _ | refine blk_drew ?_ | refine blk_alloc ?_ _)); refine blk_put (cs := #[.int .i64 0, .int .i64 0, .int .i64 0, .int .i64 0, .int .i64 0, .int .i64 0, .int .i64 0, .int .i64 0]) ?_ 0 _ rfl; (with_reducible repeat (first | refine blk_drewN ?_ _ | refine blk_drew ?_ | refine blk_alloc ?_ _)); exact BK111.out) Try.underlying26 rfl (by kernel_rfl)) rfl ?_
  exact ⟨by first | rfl | (simp [errW_none, errW_some] <;> rfl) | (simp [*, errW_none, errW_some] <;> rfl), by repeat (first | (with_reducible first | exact HB.out | apply below_alloc | apply pw_below_drewN | apply below_drew1 | refine below_set ?_ GE109.out | refine below_set ?_ GE110.out | refine below_set ?_ GE111.out) | exact HB.out)⟩
end Go.Proofs.Ytehkhbnhmehobaa.P
namespace Go.Proofs.Ytehkhbnhmehobaa.P
open Go.RowKit Go.Proofs.YtehkhbnhmehobaaW.PrintWords Go.Proofs.YtehkhbnhmehobaaW.PrintLast Go.Proofs.YtehkhbnhmehobaaW.PrintMore
attribute [local go_sem] max2_int min2_int max_two min_two max_three min_three max_four min_four
set_option linter.unusedVariables false
set_option linter.unusedSimpArgs false
def swarfref41_number.f (a0 : Int) : Option (Bool) := if a0 ≥ 48 then (if a0 ≤ 57 then (some true) else (if a0 = 45 then (some true) else (some (a0 == 46)))) else (if a0 = 45 then (some true) else (some (a0 == 46)))
set_option maxHeartbeats 8000000 in
set_option maxRecDepth 100000 in
theorem swarfref41_number.calls (a0 : Int) (r : Bool) (w : World) (h : swarfref41_number.f a0 = some r) :
  Calls Try.prog 106 #[.int .u8 a0] w fun e w' => e = .returned (.bool r) ∧ Drawn0 w w' := by
 have H : (if a0 ≥ 48 then (if a0 ≤ 57 then (some true) else (if a0 = 45 then (some true) else (some (a0 == 46)))) else (if a0 = 45 then (some true) else (some (a0 == 46)))) = some r := h
 clear h
 by_cases c2 : a0 ≥ 48
 ·rw [if_pos c2] at H
  have c2b0 : decide (48 ≤ a0) = true := decide_eq_true c2
  clear c2
  by_cases c3 : a0 ≤ 57
  ·rw [if_pos c3] at H
   have c3b0 : decide (a0 ≤ 57) = true := decide_eq_true c3
   clear c3
   obtain rfl := Option.some.inj H
   go_enter Try.func106, Try.ntmps106
   go_wp2
   go_ret
   exact ⟨by first | rfl | (simp; done) | (simp [*]; done), by repeat (first | exact Drawn0.refl _ | apply Drawn0.step)⟩
  ·rw [if_neg c3] at H
   have c3b0 : decide (a0 ≤ 57) = false := decide_eq_false c3
   clear c3
   by_cases c4 : a0 = 45
   ·rw [if_pos c4] at H
    have c4b0 : (a0 == 45) = true := beq_iff_eq.mpr c4
    have c4b1 : (a0 != 45) = false := bne_eq_false_iff_eq.mpr c4
    clear c4
    obtain rfl := Option.some.inj H
    go_enter Try.func106, Try.ntmps106
    go_wp2
    go_ret
    exact ⟨by first | rfl | (simp; done) | (simp [*]; done), by repeat (first | exact Drawn0.refl _ | apply Drawn0.step)⟩
   ·rw [if_neg c4] at H
    have c4b0 : (a0 == 45) = false := beq_eq_false_iff_ne.mpr c4
    have c4b1 : (a0 != 45) = true := bne_iff_ne.mpr c4
    obtain rfl := Option.some.inj H
    go_enter Try.func106, Try.ntmps106
    go_wp2
    go_ret
    exact ⟨by first | rfl | (simp; done) | (simp [*]; done), by repeat (first | exact Drawn0.refl _ | apply Drawn0.step)⟩
 ·rw [if_neg c2] at H
  have c2b0 : decide (48 ≤ a0) = false := decide_eq_false c2
  clear c2
  by_cases c5 : a0 = 45
  ·rw [if_pos c5] at H
   have c5b0 : (a0 == 45) = true := beq_iff_eq.mpr c5
   have c5b1 : (a0 != 45) = false := bne_eq_false_iff_eq.mpr c5
   clear c5
   obtain rfl := Option.some.inj H
   go_enter Try.func106, Try.ntmps106
   go_wp2
   go_ret
   exact ⟨by first | rfl | (simp; done) | (simp [*]; done), by repeat (first | exact Drawn0.refl _ | apply Drawn0.step)⟩
  ·rw [if_neg c5] at H
   have c5b0 : (a0 == 45) = false := beq_eq_false_iff_ne.mpr c5
   have c5b1 : (a0 != 45) = true := bne_iff_ne.mpr c5
   obtain rfl := Option.some.inj H
   go_enter Try.func106, Try.ntmps106
   go_wp2
   go_ret
   exact ⟨by first | rfl | (simp; done) | (simp [*]; done), by repeat (first | exact Drawn0.refl _ | apply Drawn0.step)⟩
end Go.Proofs.Ytehkhbnhmehobaa.P
namespace Go.Proofs.Ytehkhbnhmehobaa.P
open Go.RowKit Go.Proofs.YtehkhbnhmehobaaW.PrintWords Go.Proofs.YtehkhbnhmehobaaW.PrintLast Go.Proofs.YtehkhbnhmehobaaW.PrintMore
attribute [local go_sem] max2_int min2_int max_two min_two max_three min_three max_four min_four
set_option linter.unusedVariables false
set_option linter.unusedSimpArgs false
mutual
def swarfref41_canonical.j0 : Nat → ByteArray → Bool → Option (Bool)
 | 0, _, _ => none
 | k + 1, x0, x12 => if x12 = true then (if x0.toList = ([45, 48] : List UInt8) then (some false) else (if 1 ≤ (x0.size : Int) then (swarfref41_canonical.j1 k (x0.extract 1 x0.size)) else (none))) else (swarfref41_canonical.j1 k x0)
def swarfref41_canonical.j1 : Nat → ByteArray → Option (Bool)
 | 0, _ => none
 | k + 1, x0 => swarfref41_canonical.l0 k x0 (x0.size : Int) 0
def swarfref41_canonical.l0 : Nat → ByteArray → Int → Int → Option (Bool)
 | 0, _, _, _ => none
 | k + 1, x0, x3, x4 => if x4 < (x0.size : Int) then (if 0 ≤ x4 then (if (bt x0 x4) = 46 then (swarfref41_canonical.l0 k x0 x4 (wrap64 (x4 + 1))) else (swarfref41_canonical.l0 k x0 x3 (wrap64 (x4 + 1)))) else (none)) else (if x3 = 0 then (some false) else (if x3 > 1 then (if 0 < (x0.size : Int) then (if (bt x0 0) = 48 then (some false) else (if x3 = (x0.size : Int) then (some true) else (if x3 < (wrap64 ((x0.size : Int) - 1)) then (if 0 ≤ (wrap64 ((x0.size : Int) - 1)) then (if (wrap64 ((x0.size : Int) - 1)) < (x0.size : Int) then (some ((bt x0 (wrap64 ((x0.size : Int) - 1))) != 48)) else (none)) else (none)) else (some false)))) else (none)) else (if x3 = (x0.size : Int) then (some true) else (if x3 < (wrap64 ((x0.size : Int) - 1)) then (if 0 ≤ (wrap64 ((x0.size : Int) - 1)) then (if (wrap64 ((x0.size : Int) - 1)) < (x0.size : Int) then (some ((bt x0 (wrap64 ((x0.size : Int) - 1))) != 48)) else (none)) else (none)) else (some false)))))
end
def swarfref41_canonical.f (k : Nat) (a0 : ByteArray) : Option (Bool) := if (a0.size : Int) > 0 then (if 0 < (a0.size : Int) then (swarfref41_canonical.j0 k a0 ((bt a0 0) == 45)) else (none)) else (swarfref41_canonical.j0 k a0 false)
theorem swarfref41_canonical.mono_l : ∀ k, (∀ y0 y1, LeO (swarfref41_canonical.j0 k y0 y1) (swarfref41_canonical.j0 (k + 1) y0 y1)) ∧ (∀ y0, LeO (swarfref41_canonical.j1 k y0) (swarfref41_canonical.j1 (k + 1) y0)) ∧ (∀ y0 y1 y2, LeO (swarfref41_canonical.l0 k y0 y1 y2) (swarfref41_canonical.l0 (k + 1) y0 y1 y2))
 | 0 => ⟨fun _ _ r h => by simp [swarfref41_canonical.j0] at h, fun _ r h => by simp [swarfref41_canonical.j1] at h, fun _ _ _ r h => by simp [swarfref41_canonical.l0] at h⟩
 | k + 1 => by
  obtain ⟨ih0, ih1, ih2⟩ := swarfref41_canonical.mono_l k
  refine ⟨?_, ?_, ?_⟩
  ·intro y0 y1
   unfold swarfref41_canonical.j0
   repeat' first
   | (with_reducible exact ih0 _ _)
   | (with_reducible exact ih1 _)
   | (with_reducible exact ih2 _ _ _)
   | (with_reducible exact LeO.refl _)
   | (with_reducible exact LeO.none _)
   | (with_reducible refine LeO.ite ?_ ?_)
   | (with_reducible refine LeO.bind ?_ (fun _ => ?_))
   | exact ih0 _ _
   | exact ih1 _
   | exact ih2 _ _ _
   | exact LeO.none _
   | refine LeO.ite ?_ ?_
   | refine LeO.bind ?_ (fun _ => ?_)
  ·intro y0
   unfold swarfref41_canonical.j1
   repeat' first
   | (with_reducible exact ih0 _ _)
   | (with_reducible exact ih1 _)
   | (with_reducible exact ih2 _ _ _)
   | (with_reducible exact LeO.refl _)
   | (with_reducible exact LeO.none _)
   | (with_reducible refine LeO.ite ?_ ?_)
   | (with_reducible refine LeO.bind ?_ (fun _ => ?_))
   | exact ih0 _ _
   | exact ih1 _
   | exact ih2 _ _ _
   | exact LeO.none _
   | refine LeO.ite ?_ ?_
   | refine LeO.bind ?_ (fun _ => ?_)
  ·intro y0 y1 y2
   unfold swarfref41_canonical.l0
   repeat' first
   | (with_reducible exact ih0 _ _)
   | (with_reducible exact ih1 _)
   | (with_reducible exact ih2 _ _ _)
   | (with_reducible exact LeO.refl _)
   | (with_reducible exact LeO.none _)
   | (with_reducible refine LeO.ite ?_ ?_)
   | (with_reducible refine LeO.bind ?_ (fun _ => ?_))
   | exact ih0 _ _
   | exact ih1 _
   | exact ih2 _ _ _
   | exact LeO.none _
   | refine LeO.ite ?_ ?_
   | refine LeO.bind ?_ (fun _ => ?_)
theorem swarfref41_canonical.mono : ∀ a0 k, LeO (swarfref41_canonical.f k a0) (swarfref41_canonical.f (k + 1) a0) := by
 intro a0 k
 obtain ⟨ih0, ih1, ih2⟩ := swarfref41_canonical.mono_l k
 unfold swarfref41_canonical.f
 repeat' first
   | (with_reducible exact ih0 _ _)
   | (with_reducible exact ih1 _)
   | (with_reducible exact ih2 _ _ _)
   | (with_reducible exact LeO.refl _)
   | (with_reducible exact LeO.none _)
   | (with_reducible refine LeO.ite ?_ ?_)
   | (with_reducible refine LeO.bind ?_ (fun _ => ?_))
   | exact ih0 _ _
   | exact ih1 _
   | exact ih2 _ _ _
   | exact LeO.none _
   | refine LeO.ite ?_ ?_
   | refine LeO.bind ?_ (fun _ => ?_)
set_option maxHeartbeats 8000000 in
set_option maxRecDepth 100000 in
theorem swarfref41_canonical.calls (k : Nat) (a0 : ByteArray) (r : Bool) (w : World) (h : swarfref41_canonical.f k a0 = some r) :
  Calls Try.prog 114 #[.string a0] w fun e w' => e = .returned (.bool r) ∧ Drawn0 w w' := by
 have H : (if (a0.size : Int) > 0 then (if 0 < (a0.size : Int) then (swarfref41_canonical.j0 k a0 ((bt a0 0) == 45)) else (none)) else (swarfref41_canonical.j0 k a0 false)) = some r := h
 clear h
 have HC2 := Aside0.mk H
 clear H
 go_enter Try.func114, Try.ntmps114
 go_upto_region 1 with (fail)
 go_cut [12] (fun v12 wc => ∃ (kq : Nat) (x12_1 : Bool), v12 = .bool x12_1 ∧ Aside0 (swarfref41_canonical.j0 kq a0 x12_1 = some r) ∧ Aside0 (kq ≤ k) ∧ Drawn0 w wc)
 case first =>
  have H := HC2.out
  clear HC2
  by_cases c3 : (a0.size : Int) > 0
  ·rw [if_pos c3] at H
   have c3b0 : decide (0 < (a0.size : Int)) = true := decide_eq_true c3
   have c3b1 : decide (0 < a0.size) = true := decide_eq_true (by omega)
   clear c3
   (first | rw [c3b0] | (simp only [i64_w, i32_w]; rw [c3b0]) | skip)
   by_cases c4 : 0 < (a0.size : Int)
   ·rw [if_pos c4] at H
    have c4b0 : decide (0 < (a0.size : Int)) = true := decide_eq_true c4
    have c4b1 : decide (0 < a0.size) = true := decide_eq_true (by omega)
    clear c4
    have H' := Aside0.mk H
    clear H
    have p5 : 0 ≤ (0 : Int) := (by omega)
    have q5 : 0 < a0.size := (by have : (0 : Int) < (a0.size : Int) := of_decide_eq_true (by first | (with_reducible assumption) | assumption); omega)
    have hx5 : ∀ h : 0 < a0.size, ((a0[0]'h).toNat : Int) = bt a0 0 := bt_at a0 0
    clear p5
    have qi5 : (0 < (a0.size : Int)) = True := eq_true (of_decide_eq_true (by first | (with_reducible assumption) | assumption))
    replace q5 := eq_true q5
    go_wp2
    go_meet
    case rel => exact ⟨_, (((bt a0 0) == 45)), (by first | rfl | (simp; done) | (simp [*]; done)), H', ⟨by first | omega | exact Nat.le_refl _⟩, by repeat (first | exact Drawn0.refl _ | apply Drawn0.step)⟩
   ·rw [if_neg c4] at H
    exact absurd H (by simp)
  ·rw [if_neg c3] at H
   have c3b0 : decide (0 < (a0.size : Int)) = false := decide_eq_false c3
   have c3b1 : decide (0 < a0.size) = false := decide_eq_false (by omega)
   clear c3
   (first | rw [c3b0] | (simp only [i64_w, i32_w]; rw [c3b0]) | skip)
   have H' := Aside0.mk H
   clear H
   go_wp2
   go_meet
   case rel => exact ⟨_, (false), (by first | rfl | (simp; done) | (simp [*]; done)), H', ⟨by first | omega | exact Nat.le_refl _⟩, by repeat (first | exact Drawn0.refl _ | apply Drawn0.step)⟩
 case rest =>
  clear HC2
  try clear c1
  try clear p2
  try clear c3
  try clear c3b0
  try clear c3b1
  try clear c4
  try clear c4b0
  try clear c4b1
  try clear p5
  try clear q5
  try clear hx5
  try clear qi5
  try clear p5
  try clear q5
  obtain ⟨kq, x12_1, rfl, HA, HJ1, ⟨mc1, rfl⟩⟩ := hcut
  cases kq with
  | zero => exact absurd HA.out (by simp [swarfref41_canonical.j0])
  | succ kj1 =>
   have H := HA.out
   clear HA
   simp only [swarfref41_canonical.j0] at H
   have HC6 := Aside0.mk H
   clear H
   go_upto_if 12 with (fail)
   go_cut [0] (fun v0 wc => ∃ (kq : Nat) (x0_5 : ByteArray), v0 = .string x0_5 ∧ Aside0 (swarfref41_canonical.j1 kq x0_5 = some r) ∧ Aside0 (kq ≤ kj1) ∧ Drawn0 w wc)
   case first =>
    have H := HC6.out
    clear HC6
    by_cases c7 : x12_1 = true
    ·subst c7
     have H1 : (if a0.toList = ([45, 48] : List UInt8) then (some false) else (if 1 ≤ (a0.size : Int) then (swarfref41_canonical.j1 kj1 (a0.extract 1 a0.size)) else (none))) = some r := by rw [if_pos rfl] at H; exact H
     clear H
     have H := H1
     clear H1
     by_cases c8 : a0.toList = ([45, 48] : List UInt8)
     ·rw [if_pos c8] at H
      have c8b0 : (a0.toList == ([45, 48] : List UInt8)) = true := beq_iff_eq.mpr c8
      have c8b1 : (a0.toList != ([45, 48] : List UInt8)) = false := bne_eq_false_iff_eq.mpr c8
      clear c8
      (first | rw [c8b0] | (simp only [i64_w, i32_w]; rw [c8b0]) | skip)
      obtain rfl := Option.some.inj H
      go_wp2
      go_ret
      exact ⟨by first | rfl | (simp; done) | (simp [*]; done), by repeat (first | exact Drawn0.refl _ | apply Drawn0.step)⟩
     ·rw [if_neg c8] at H
      have c8b0 : (a0.toList == ([45, 48] : List UInt8)) = false := beq_eq_false_iff_ne.mpr c8
      have c8b1 : (a0.toList != ([45, 48] : List UInt8)) = true := bne_iff_ne.mpr c8
      (first | rw [c8b0] | (simp only [i64_w, i32_w]; rw [c8b0]) | skip)
      by_cases c9 : 1 ≤ (a0.size : Int)
      ·rw [if_pos c9] at H
       have c9b0 := eq_true c9
       have c9b1 : decide (1 ≤ (a0.size : Int)) = true := decide_eq_true c9
       clear c9
       have H' := Aside0.mk H
       clear H
       go_wp2
       go_meet
       case rel => exact ⟨_, (a0.extract 1 a0.size), (by first | rfl | (simp; done) | (simp [*]; done)), H', ⟨by have := HJ1.out; first | omega | exact Nat.le_refl _⟩, by repeat (first | exact Drawn0.refl _ | apply Drawn0.step)⟩
      ·rw [if_neg c9] at H
       exact absurd H (by simp)
    ·replace c7 := Bool.eq_false_iff.mpr c7
     subst c7
     have H1 : (swarfref41_canonical.j1 kj1 a0) = some r := by rw [if_neg (show ¬ (false = true) by decide)] at H; exact H
     clear H
     have H := H1
     clear H1
     have H' := Aside0.mk H
     clear H
     go_wp2
     go_meet
     case rel => exact ⟨_, (a0), (by first | rfl | (simp; done) | (simp [*]; done)), H', ⟨by have := HJ1.out; first | omega | exact Nat.le_refl _⟩, by repeat (first | exact Drawn0.refl _ | apply Drawn0.step)⟩
   case rest =>
    clear HC6
    try clear c1
    try clear p2
    try clear c3
    try clear c3b0
    try clear c3b1
    try clear c4
    try clear c4b0
    try clear c4b1
    try clear p5
    try clear q5
    try clear hx5
    try clear qi5
    try clear c7
    try clear c8
    try clear c8b0
    try clear c8b1
    try clear c9
    try clear c9b0
    try clear c9b1
    try clear p2
    try clear p5
    try clear q5
    obtain ⟨kq, x0_5, rfl, HA, HJ5, ⟨mc5, rfl⟩⟩ := hcut
    cases kq with
    | zero => exact absurd HA.out (by simp [swarfref41_canonical.j1])
    | succ kj5 =>
     have H := HA.out
     clear HA
     simp only [swarfref41_canonical.j1] at H
     have H' := Aside0.mk H
     clear H
     go_wp2
     go_loopg [3, 4] kj5 (fun kq v3 v4 w' => ∃ (x3_3 : Int) (x4_3 : Int), v3 = .int .i64 x3_3 ∧ v4 = .int .i64 x4_3 ∧ Aside0 (swarfref41_canonical.l0 kq x0_5 x3_3 x4_3 = some r) ∧ Aside0 (kq ≤ kj5) ∧ Drawn0 w w')
     case atStart => exact ⟨((x0_5.size : Int)), (0), (by first | rfl | (simp; done) | (simp [*]; done)), (by first | rfl | (simp; done) | (simp [*]; done)), H', ⟨Nat.le_refl _⟩, by repeat (first | exact Drawn0.refl _ | apply Drawn0.step)⟩
     case round =>
      clear H'
      try clear c1
      try clear p2
      try clear c3
      try clear c3b0
      try clear c3b1
      try clear c4
      try clear c4b0
      try clear c4b1
      try clear c5
      try clear p5
      try clear q5
      try clear hx5
      try clear qi5
      try clear c7
      try clear c8
      try clear c8b0
      try clear c8b1
      try clear c9
      try clear c9b0
      try clear c9b1
      try clear p2
      try clear p5
      try clear q5
      obtain ⟨x3_3, x4_3, rfl, rfl, HA, HK3, ⟨m3, rfl⟩⟩ := hrel
      cases gk with
      | zero => exact absurd HA.out (by simp [swarfref41_canonical.l0])
      | succ k3 =>
       have H := HA.out
       clear HA
       simp only [swarfref41_canonical.l0] at H
       by_cases c10 : x4_3 < (x0_5.size : Int)
       ·rw [if_pos c10] at H
        have c10b0 : decide (x4_3 < (x0_5.size : Int)) = true := decide_eq_true c10
        clear c10
        by_cases c11 : 0 ≤ x4_3
        ·rw [if_pos c11] at H
         have c11b0 : decide (0 ≤ x4_3) = true := decide_eq_true c11
         clear c11
         by_cases c13 : (bt x0_5 x4_3) = 46
         ·rw [if_pos c13] at H
          have c13b0 : ((bt x0_5 x4_3) == 46) = true := beq_iff_eq.mpr c13
          have c13b1 : ((bt x0_5 x4_3) != 46) = false := bne_eq_false_iff_eq.mpr c13
          clear c13
          have H' := Aside0.mk H
          clear H
          have p12 : 0 ≤ (x4_3 : Int) := of_decide_eq_true (by first | (with_reducible assumption) | assumption)
          have q12 : x4_3 < (x0_5.size : Int) := of_decide_eq_true (by first | (with_reducible assumption) | assumption)
          have hx12 := bt_at x0_5 x4_3
          replace p12 := eq_true p12
          replace q12 := eq_true q12
          go_wp2
          go_roundg k3
          case measure => have := HJ1.out; have := HJ5.out; have := HK3.out; omega
          case rel => exact ⟨(x4_3), (wrap64 (x4_3 + 1)), (by first | rfl | (simp; done) | (simp [*]; done)), (by first | rfl | (simp; done) | (simp [*]; done)), H', ⟨by have := HJ1.out; have := HJ5.out; have := HK3.out; omega⟩, by repeat (first | exact Drawn0.refl _ | apply Drawn0.step)⟩
         ·rw [if_neg c13] at H
          have c13b0 : ((bt x0_5 x4_3) == 46) = false := beq_eq_false_iff_ne.mpr c13
          have c13b1 : ((bt x0_5 x4_3) != 46) = true := bne_iff_ne.mpr c13
          have H' := Aside0.mk H
          clear H
          have p12 : 0 ≤ (x4_3 : Int) := of_decide_eq_true (by first | (with_reducible assumption) | assumption)
          have q12 : x4_3 < (x0_5.size : Int) := of_decide_eq_true (by first | (with_reducible assumption) | assumption)
          have hx12 := bt_at x0_5 x4_3
          replace p12 := eq_true p12
          replace q12 := eq_true q12
          go_wp2
          go_roundg k3
          case measure => have := HJ1.out; have := HJ5.out; have := HK3.out; omega
          case rel => exact ⟨(x3_3), (wrap64 (x4_3 + 1)), (by first | rfl | (simp; done) | (simp [*]; done)), (by first | rfl | (simp; done) | (simp [*]; done)), H', ⟨by have := HJ1.out; have := HJ5.out; have := HK3.out; omega⟩, by repeat (first | exact Drawn0.refl _ | apply Drawn0.step)⟩
        ·rw [if_neg c11] at H
         exact absurd H (by simp)
       ·rw [if_neg c10] at H
        have c10b0 : decide (x4_3 < (x0_5.size : Int)) = false := decide_eq_false c10
        clear c10
        by_cases c14 : x3_3 = 0
        ·rw [if_pos c14] at H
         have c14b0 : (x3_3 == 0) = true := beq_iff_eq.mpr c14
         have c14b1 : (x3_3 != 0) = false := bne_eq_false_iff_eq.mpr c14
         clear c14
         obtain rfl := Option.some.inj H
         go_wp2
         go_ret
         exact ⟨by first | rfl | (simp; done) | (simp [*]; done), by repeat (first | exact Drawn0.refl _ | apply Drawn0.step)⟩
        ·rw [if_neg c14] at H
         have c14b0 : (x3_3 == 0) = false := beq_eq_false_iff_ne.mpr c14
         have c14b1 : (x3_3 != 0) = true := bne_iff_ne.mpr c14
         by_cases c15 : x3_3 > 1
         ·rw [if_pos c15] at H
          have c15b0 : decide (1 < x3_3) = true := decide_eq_true c15
          clear c15
          by_cases c16 : 0 < (x0_5.size : Int)
          ·rw [if_pos c16] at H
           have c16b0 : decide (0 < (x0_5.size : Int)) = true := decide_eq_true c16
           have c16b1 : decide (0 < x0_5.size) = true := decide_eq_true (by omega)
           clear c16
           by_cases c18 : (bt x0_5 0) = 48
           ·rw [if_pos c18] at H
            have c18b0 : ((bt x0_5 0) == 48) = true := beq_iff_eq.mpr c18
            have c18b1 : ((bt x0_5 0) != 48) = false := bne_eq_false_iff_eq.mpr c18
            clear c18
            obtain rfl := Option.some.inj H
            have p17 : 0 ≤ (0 : Int) := (by omega)
            have q17 : 0 < x0_5.size := (by have : (0 : Int) < (x0_5.size : Int) := of_decide_eq_true (by first | (with_reducible assumption) | assumption); omega)
            have hx17 : ∀ h : 0 < x0_5.size, ((x0_5[0]'h).toNat : Int) = bt x0_5 0 := bt_at x0_5 0
            clear p17
            have qi17 : (0 < (x0_5.size : Int)) = True := eq_true (of_decide_eq_true (by first | (with_reducible assumption) | assumption))
            replace q17 := eq_true q17
            go_wp2
            go_ret
            exact ⟨by first | rfl | (simp; done) | (simp [*]; done), by repeat (first | exact Drawn0.refl _ | apply Drawn0.step)⟩
           ·rw [if_neg c18] at H
            have c18b0 : ((bt x0_5 0) == 48) = false := beq_eq_false_iff_ne.mpr c18
            have c18b1 : ((bt x0_5 0) != 48) = true := bne_iff_ne.mpr c18
            by_cases c19 : x3_3 = (x0_5.size : Int)
            ·rw [if_pos c19] at H
             have c19b0 : (x3_3 == (x0_5.size : Int)) = true := beq_iff_eq.mpr c19
             have c19b1 : (x3_3 != (x0_5.size : Int)) = false := bne_eq_false_iff_eq.mpr c19
             clear c19
             obtain rfl := Option.some.inj H
             have p17 : 0 ≤ (0 : Int) := (by omega)
             have q17 : 0 < x0_5.size := (by have : (0 : Int) < (x0_5.size : Int) := of_decide_eq_true (by first | (with_reducible assumption) | assumption); omega)
             have hx17 : ∀ h : 0 < x0_5.size, ((x0_5[0]'h).toNat : Int) = bt x0_5 0 := bt_at x0_5 0
             clear p17
             have qi17 : (0 < (x0_5.size : Int)) = True := eq_true (of_decide_eq_true (by first | (with_reducible assumption) | assumption))
             replace q17 := eq_true q17
             go_wp2
             go_ret
             exact ⟨by first | rfl | (simp; done) | (simp [*]; done), by repeat (first | exact Drawn0.refl _ | apply Drawn0.step)⟩
            ·rw [if_neg c19] at H
             have c19b0 : (x3_3 == (x0_5.size : Int)) = false := beq_eq_false_iff_ne.mpr c19
             have c19b1 : (x3_3 != (x0_5.size : Int)) = true := bne_iff_ne.mpr c19
             by_cases c20 : x3_3 < (wrap64 ((x0_5.size : Int) - 1))
             ·rw [if_pos c20] at H
              have c20b0 : decide (x3_3 < (wrap64 ((x0_5.size : Int) - 1))) = true := decide_eq_true c20
              clear c20
              obtain ⟨ji21, hji21⟩ : ∃ j_ : Int, (wrap64 ((x0_5.size : Int) - 1)) = j_ := ⟨_, rfl⟩
              replace H : (if 0 ≤ (ji21) then (if (ji21) < (x0_5.size : Int) then (some ((bt x0_5 (ji21)) != 48)) else (none)) else (none)) = some r := by first | (rw [hji21] at H; exact H) | (simp only [hji21] at H ⊢; exact H)
              (try rw [hji21] at c20b0)
              have hji21w : (IntKind.i64.wrap ((x0_5.size : Int) - 1)) = ji21 := (i64_w _).trans hji21
              by_cases c22 : 0 ≤ (ji21)
              ·rw [if_pos c22] at H
               have c22b0 : decide (0 ≤ (ji21)) = true := decide_eq_true c22
               clear c22
               by_cases c23 : (ji21) < (x0_5.size : Int)
               ·rw [if_pos c23] at H
                have c23b0 : decide ((ji21) < (x0_5.size : Int)) = true := decide_eq_true c23
                clear c23
                obtain rfl := Option.some.inj H
                have p17 : 0 ≤ (0 : Int) := (by omega)
                have q17 : 0 < x0_5.size := (by have : (0 : Int) < (x0_5.size : Int) := of_decide_eq_true (by first | (with_reducible assumption) | assumption); omega)
                have hx17 : ∀ h : 0 < x0_5.size, ((x0_5[0]'h).toNat : Int) = bt x0_5 0 := bt_at x0_5 0
                clear p17
                have qi17 : (0 < (x0_5.size : Int)) = True := eq_true (of_decide_eq_true (by first | (with_reducible assumption) | assumption))
                replace q17 := eq_true q17
                have p24 : 0 ≤ ((ji21) : Int) := of_decide_eq_true (by first | (with_reducible assumption) | assumption)
                have q24 : (ji21) < (x0_5.size : Int) := of_decide_eq_true (by first | (with_reducible assumption) | assumption)
                have hx24 := bt_at x0_5 (ji21)
                replace p24 := eq_true p24
                replace q24 := eq_true q24
                go_wp2
                go_ret
                exact ⟨by first | rfl | (simp; done) | (simp only [← hji21] <;> (first | rfl | simp)) | (simp [*]; done), by repeat (first | exact Drawn0.refl _ | apply Drawn0.step)⟩
               ·rw [if_neg c23] at H
                exact absurd H (by simp)
              ·rw [if_neg c22] at H
               exact absurd H (by simp)
             ·rw [if_neg c20] at H
              have c20b0 : decide (x3_3 < (wrap64 ((x0_5.size : Int) - 1))) = false := decide_eq_false c20
              clear c20
              obtain rfl := Option.some.inj H
              have p17 : 0 ≤ (0 : Int) := (by omega)
              have q17 : 0 < x0_5.size := (by have : (0 : Int) < (x0_5.size : Int) := of_decide_eq_true (by first | (with_reducible assumption) | assumption); omega)
              have hx17 : ∀ h : 0 < x0_5.size, ((x0_5[0]'h).toNat : Int) = bt x0_5 0 := bt_at x0_5 0
              clear p17
              have qi17 : (0 < (x0_5.size : Int)) = True := eq_true (of_decide_eq_true (by first | (with_reducible assumption) | assumption))
              replace q17 := eq_true q17
              go_wp2
              go_ret
              exact ⟨by first | rfl | (simp; done) | (simp [*]; done), by repeat (first | exact Drawn0.refl _ | apply Drawn0.step)⟩
          ·rw [if_neg c16] at H
           exact absurd H (by simp)
         ·rw [if_neg c15] at H
          have c15b0 : decide (1 < x3_3) = false := decide_eq_false c15
          clear c15
          by_cases c25 : x3_3 = (x0_5.size : Int)
          ·rw [if_pos c25] at H
           have c25b0 : (x3_3 == (x0_5.size : Int)) = true := beq_iff_eq.mpr c25
           have c25b1 : (x3_3 != (x0_5.size : Int)) = false := bne_eq_false_iff_eq.mpr c25
           clear c25
           obtain rfl := Option.some.inj H
           go_wp2
           go_ret
           exact ⟨by first | rfl | (simp; done) | (simp [*]; done), by repeat (first | exact Drawn0.refl _ | apply Drawn0.step)⟩
          ·rw [if_neg c25] at H
           have c25b0 : (x3_3 == (x0_5.size : Int)) = false := beq_eq_false_iff_ne.mpr c25
           have c25b1 : (x3_3 != (x0_5.size : Int)) = true := bne_iff_ne.mpr c25
           by_cases c26 : x3_3 < (wrap64 ((x0_5.size : Int) - 1))
           ·rw [if_pos c26] at H
            have c26b0 : decide (x3_3 < (wrap64 ((x0_5.size : Int) - 1))) = true := decide_eq_true c26
            clear c26
            obtain ⟨ji27, hji27⟩ : ∃ j_ : Int, (wrap64 ((x0_5.size : Int) - 1)) = j_ := ⟨_, rfl⟩
            replace H : (if 0 ≤ (ji27) then (if (ji27) < (x0_5.size : Int) then (some ((bt x0_5 (ji27)) != 48)) else (none)) else (none)) = some r := by first | (rw [hji27] at H; exact H) | (simp only [hji27] at H ⊢; exact H)
            (try rw [hji27] at c26b0)
            have hji27w : (IntKind.i64.wrap ((x0_5.size : Int) - 1)) = ji27 := (i64_w _).trans hji27
            by_cases c28 : 0 ≤ (ji27)
            ·rw [if_pos c28] at H
             have c28b0 : decide (0 ≤ (ji27)) = true := decide_eq_true c28
             clear c28
             by_cases c29 : (ji27) < (x0_5.size : Int)
             ·rw [if_pos c29] at H
              have c29b0 : decide ((ji27) < (x0_5.size : Int)) = true := decide_eq_true c29
              clear c29
              obtain rfl := Option.some.inj H
              have p30 : 0 ≤ ((ji27) : Int) := of_decide_eq_true (by first | (with_reducible assumption) | assumption)
              have q30 : (ji27) < (x0_5.size : Int) := of_decide_eq_true (by first | (with_reducible assumption) | assumption)
              have hx30 := bt_at x0_5 (ji27)
              replace p30 := eq_true p30
              replace q30 := eq_true q30
              go_wp2
              go_ret
              exact ⟨by first | rfl | (simp; done) | (simp only [← hji27] <;> (first | rfl | simp)) | (simp [*]; done), by repeat (first | exact Drawn0.refl _ | apply Drawn0.step)⟩
             ·rw [if_neg c29] at H
              exact absurd H (by simp)
            ·rw [if_neg c28] at H
             exact absurd H (by simp)
           ·rw [if_neg c26] at H
            have c26b0 : decide (x3_3 < (wrap64 ((x0_5.size : Int) - 1))) = false := decide_eq_false c26
            clear c26
            obtain rfl := Option.some.inj H
            go_wp2
            go_ret
            exact ⟨by first | rfl | (simp; done) | (simp [*]; done), by repeat (first | exact Drawn0.refl _ | apply Drawn0.step)⟩
end Go.Proofs.Ytehkhbnhmehobaa.P
namespace Go.Proofs.Ytehkhbnhmehobaa.P
open Go.RowKit Go.Proofs.YtehkhbnhmehobaaW.PrintWords Go.Proofs.YtehkhbnhmehobaaW.PrintLast Go.Proofs.YtehkhbnhmehobaaW.PrintMore
attribute [local go_sem] max2_int min2_int max_two min_two max_three min_three max_four min_four
set_option linter.unusedVariables false
set_option linter.unusedSimpArgs false
mutual
def swarfref41_Value.l0 : Nat → ByteArray → Int → Int → Int → Bool → Bool → Int → Option (Int × Int)
 | 0, _, _, _, _, _, _, _ => none
 | k + 1, x0, x4, x5, x6, x7, x8, x9 => if x9 < (x0.size : Int) then (if x9 = 0 then (if 0 ≤ x9 then (swarfref41_Value.j1 k x0 x4 x5 x6 x7 x8 x9 ((bt x0 x9) == 45)) else (none)) else (swarfref41_Value.j1 k x0 x4 x5 x6 x7 x8 x9 false)) else ((swarfref41_canonical.f k x0).bind fun t124 => (if t124 = true then (swarfref41_Value.l1 k x4 x5 x6 x7 x8) else (none)))
def swarfref41_Value.j1 : Nat → ByteArray → Int → Int → Int → Bool → Bool → Int → Bool → Option (Int × Int)
 | 0, _, _, _, _, _, _, _, _ => none
 | k + 1, x0, x4, x5, x6, x7, x8, x9, x17 => if x17 = true then (swarfref41_Value.l0 k x0 x4 x5 x6 true x8 (wrap64 (x9 + 1))) else (if 0 ≤ x9 then (if x9 < (x0.size : Int) then (if (bt x0 x9) = 46 then (if x6 < 0 then (swarfref41_Value.j2 k x0 x4 x5 x6 x7 x8 x9 (decide (x9 > 0))) else (swarfref41_Value.j2 k x0 x4 x5 x6 x7 x8 x9 false)) else (swarfref41_Value.j2 k x0 x4 x5 x6 x7 x8 x9 false)) else (none)) else (none))
def swarfref41_Value.j2 : Nat → ByteArray → Int → Int → Int → Bool → Bool → Int → Bool → Option (Int × Int)
 | 0, _, _, _, _, _, _, _, _ => none
 | k + 1, x0, x4, x5, x6, x7, x8, x9, x26 => if x26 = true then (swarfref41_Value.l0 k x0 x4 x5 0 x7 x8 (wrap64 (x9 + 1))) else (if 0 ≤ x9 then (if x9 < (x0.size : Int) then (if (bt x0 x9) ≥ 48 then (if (bt x0 x9) ≤ 57 then (swarfref41_Value.j3 k x0 x4 x5 x6 x7 x8 x9 (decide (x6 < 0))) else (swarfref41_Value.j3 k x0 x4 x5 x6 x7 x8 x9 false)) else (swarfref41_Value.j3 k x0 x4 x5 x6 x7 x8 x9 false)) else (none)) else (none))
def swarfref41_Value.j3 : Nat → ByteArray → Int → Int → Int → Bool → Bool → Int → Bool → Option (Int × Int)
 | 0, _, _, _, _, _, _, _, _ => none
 | k + 1, x0, x4, x5, x6, x7, x8, x9, x39 => if x39 = true then (if 0 ≤ x9 then (if x9 < (x0.size : Int) then (if (IntKind.u64.wrap ((IntKind.u64.wrap (10 * x4)) + (((bt x0 x9) - 48) % 256))) > 1000000000000 then (swarfref41_Value.l0 k x0 1000000000000 x5 x6 x7 true (wrap64 (x9 + 1))) else (swarfref41_Value.l0 k x0 (IntKind.u64.wrap ((IntKind.u64.wrap (10 * x4)) + (((bt x0 x9) - 48) % 256))) x5 x6 x7 x8 (wrap64 (x9 + 1)))) else (none)) else (none)) else (if 0 ≤ x9 then (if x9 < (x0.size : Int) then (if (bt x0 x9) ≥ 48 then (if (bt x0 x9) ≤ 57 then (if x6 < 3 then (swarfref41_Value.l0 k x0 x4 (IntKind.u64.wrap ((IntKind.u64.wrap (10 * x5)) + (((bt x0 x9) - 48) % 256))) (wrap64 (x6 + 1)) x7 x8 (wrap64 (x9 + 1))) else (none)) else (none)) else (none)) else (none)) else (none))
def swarfref41_Value.j5 : Nat → Int → Int → Bool → Bool → Option (Int × Int)
 | 0, _, _, _, _ => none
 | k + 1, x4, x5, x7, x8 => if x8 = true then (swarfref41_Value.j6 k x7 (IntKind.u64.wrap ((IntKind.u64.wrap (1000 * x4)) + x5)) true) else (swarfref41_Value.j6 k x7 (IntKind.u64.wrap ((IntKind.u64.wrap (1000 * x4)) + x5)) (decide ((IntKind.u64.wrap ((IntKind.u64.wrap (1000 * x4)) + x5)) > 1000000000000)))
def swarfref41_Value.j6 : Nat → Bool → Int → Bool → Option (Int × Int)
 | 0, _, _, _ => none
 | k + 1, x7, x10, x110 => if x110 = true then (none) else (if x7 = true then (some (wrap64 (-(wrap64 (x10))), 0)) else (some (wrap64 (x10), 0)))
def swarfref41_Value.l1 : Nat → Int → Int → Int → Bool → Bool → Option (Int × Int)
 | 0, _, _, _, _, _ => none
 | k + 1, x4, x5, x6, x7, x8 => if x6 ≥ 0 then (if x6 < 3 then (swarfref41_Value.l1 k x4 (IntKind.u64.wrap (10 * x5)) (wrap64 (x6 + 1)) x7 x8) else (swarfref41_Value.j5 k x4 x5 x7 x8)) else (swarfref41_Value.j5 k x4 x5 x7 x8)
end
def swarfref41_Value.f (k : Nat) (a0 : ByteArray) : Option (Int × Int) := swarfref41_Value.l0 k a0 0 0 (-1) false false 0
theorem swarfref41_Value.mono_l : ∀ k, (∀ y0 y1 y2 y3 y4 y5 y6, LeO (swarfref41_Value.l0 k y0 y1 y2 y3 y4 y5 y6) (swarfref41_Value.l0 (k + 1) y0 y1 y2 y3 y4 y5 y6)) ∧ (∀ y0 y1 y2 y3 y4 y5 y6 y7, LeO (swarfref41_Value.j1 k y0 y1 y2 y3 y4 y5 y6 y7) (swarfref41_Value.j1 (k + 1) y0 y1 y2 y3 y4 y5 y6 y7)) ∧ (∀ y0 y1 y2 y3 y4 y5 y6 y7, LeO (swarfref41_Value.j2 k y0 y1 y2 y3 y4 y5 y6 y7) (swarfref41_Value.j2 (k + 1) y0 y1 y2 y3 y4 y5 y6 y7)) ∧ (∀ y0 y1 y2 y3 y4 y5 y6 y7, LeO (swarfref41_Value.j3 k y0 y1 y2 y3 y4 y5 y6 y7) (swarfref41_Value.j3 (k + 1) y0 y1 y2 y3 y4 y5 y6 y7)) ∧ (∀ y0 y1 y2 y3, LeO (swarfref41_Value.j5 k y0 y1 y2 y3) (swarfref41_Value.j5 (k + 1) y0 y1 y2 y3)) ∧ (∀ y0 y1 y2, LeO (swarfref41_Value.j6 k y0 y1 y2) (swarfref41_Value.j6 (k + 1) y0 y1 y2)) ∧ (∀ y0 y1 y2 y3 y4, LeO (swarfref41_Value.l1 k y0 y1 y2 y3 y4) (swarfref41_Value.l1 (k + 1) y0 y1 y2 y3 y4))
 | 0 => ⟨fun _ _ _ _ _ _ _ r h => by simp [swarfref41_Value.l0] at h, fun _ _ _ _ _ _ _ _ r h => by simp [swarfref41_Value.j1] at h, fun _ _ _ _ _ _ _ _ r h => by simp [swarfref41_Value.j2] at h, fun _ _ _ _ _ _ _ _ r h => by simp [swarfref41_Value.j3] at h, fun _ _ _ _ r h => by simp [swarfref41_Value.j5] at h, fun _ _ _ r h => by simp [swarfref41_Value.j6] at h, fun _ _ _ _ _ r h => by simp [swarfref41_Value.l1] at h⟩
 | k + 1 => by
  obtain ⟨ih0, ih1, ih2, ih3, ih4, ih5, ih6⟩ := swarfref41_Value.mono_l k
  refine ⟨?_, ?_, ?_, ?_, ?_, ?_, ?_⟩
  ·intro y0 y1 y2 y3 y4 y5 y6
   unfold swarfref41_Value.l0
   repeat' first
   | (with_reducible exact ih0 _ _ _ _ _ _ _)
   | (with_reducible exact ih1 _ _ _ _ _ _ _ _)
   | (with_reducible exact ih2 _ _ _ _ _ _ _ _)
   | (with_reducible exact ih3 _ _ _ _ _ _ _ _)
   | (with_reducible exact ih4 _ _ _ _)
   | (with_reducible exact ih5 _ _ _)
   | (with_reducible exact ih6 _ _ _ _ _)
   | (with_reducible exact swarfref41_canonical.mono _ _)
   | (with_reducible exact LeO.refl _)
   | (with_reducible exact LeO.none _)
   | (with_reducible refine LeO.ite ?_ ?_)
   | (with_reducible refine LeO.bind ?_ (fun _ => ?_))
   | exact ih0 _ _ _ _ _ _ _
   | exact ih1 _ _ _ _ _ _ _ _
   | exact ih2 _ _ _ _ _ _ _ _
   | exact ih3 _ _ _ _ _ _ _ _
   | exact ih4 _ _ _ _
   | exact ih5 _ _ _
   | exact ih6 _ _ _ _ _
   | exact swarfref41_canonical.mono _ _
   | exact LeO.none _
   | refine LeO.ite ?_ ?_
   | refine LeO.bind ?_ (fun _ => ?_)
  ·intro y0 y1 y2 y3 y4 y5 y6 y7
   unfold swarfref41_Value.j1
   repeat' first
   | (with_reducible exact ih0 _ _ _ _ _ _ _)
   | (with_reducible exact ih1 _ _ _ _ _ _ _ _)
   | (with_reducible exact ih2 _ _ _ _ _ _ _ _)
   | (with_reducible exact ih3 _ _ _ _ _ _ _ _)
   | (with_reducible exact ih4 _ _ _ _)
   | (with_reducible exact ih5 _ _ _)
   | (with_reducible exact ih6 _ _ _ _ _)
   | (with_reducible exact swarfref41_canonical.mono _ _)
   | (with_reducible exact LeO.refl _)
   | (with_reducible exact LeO.none _)
   | (with_reducible refine LeO.ite ?_ ?_)
   | (with_reducible refine LeO.bind ?_ (fun _ => ?_))
   | exact ih0 _ _ _ _ _ _ _
   | exact ih1 _ _ _ _ _ _ _ _
   | exact ih2 _ _ _ _ _ _ _ _
   | exact ih3 _ _ _ _ _ _ _ _
   | exact ih4 _ _ _ _
   | exact ih5 _ _ _
   | exact ih6 _ _ _ _ _
   | exact swarfref41_canonical.mono _ _
   | exact LeO.none _
   | refine LeO.ite ?_ ?_
   | refine LeO.bind ?_ (fun _ => ?_)
  ·intro y0 y1 y2 y3 y4 y5 y6 y7
   unfold swarfref41_Value.j2
   repeat' first
   | (with_reducible exact ih0 _ _ _ _ _ _ _)
   | (with_reducible exact ih1 _ _ _ _ _ _ _ _)
   | (with_reducible exact ih2 _ _ _ _ _ _ _ _)
   | (with_reducible exact ih3 _ _ _ _ _ _ _ _)
   | (with_reducible exact ih4 _ _ _ _)
   | (with_reducible exact ih5 _ _ _)
   | (with_reducible exact ih6 _ _ _ _ _)
   | (with_reducible exact swarfref41_canonical.mono _ _)
   | (with_reducible exact LeO.refl _)
   | (with_reducible exact LeO.none _)
   | (with_reducible refine LeO.ite ?_ ?_)
   | (with_reducible refine LeO.bind ?_ (fun _ => ?_))
   | exact ih0 _ _ _ _ _ _ _
   | exact ih1 _ _ _ _ _ _ _ _
   | exact ih2 _ _ _ _ _ _ _ _
   | exact ih3 _ _ _ _ _ _ _ _
   | exact ih4 _ _ _ _
   | exact ih5 _ _ _
   | exact ih6 _ _ _ _ _
   | exact swarfref41_canonical.mono _ _
   | exact LeO.none _
   | refine LeO.ite ?_ ?_
   | refine LeO.bind ?_ (fun _ => ?_)
  ·intro y0 y1 y2 y3 y4 y5 y6 y7
   unfold swarfref41_Value.j3
   repeat' first
   | (with_reducible exact ih0 _ _ _ _ _ _ _)
   | (with_reducible exact ih1 _ _ _ _ _ _ _ _)
   | (with_reducible exact ih2 _ _ _ _ _ _ _ _)
   | (with_reducible exact ih3 _ _ _ _ _ _ _ _)
   | (with_reducible exact ih4 _ _ _ _)
   | (with_reducible exact ih5 _ _ _)
   | (with_reducible exact ih6 _ _ _ _ _)
   | (with_reducible exact swarfref41_canonical.mono _ _)
   | (with_reducible exact LeO.refl _)
   | (with_reducible exact LeO.none _)
   | (with_reducible refine LeO.ite ?_ ?_)
   | (with_reducible refine LeO.bind ?_ (fun _ => ?_))
   | exact ih0 _ _ _ _ _ _ _
   | exact ih1 _ _ _ _ _ _ _ _
   | exact ih2 _ _ _ _ _ _ _ _
   | exact ih3 _ _ _ _ _ _ _ _
   | exact ih4 _ _ _ _
   | exact ih5 _ _ _
   | exact ih6 _ _ _ _ _
   | exact swarfref41_canonical.mono _ _
   | exact LeO.none _
   | refine LeO.ite ?_ ?_
   | refine LeO.bind ?_ (fun _ => ?_)
  ·intro y0 y1 y2 y3
   unfold swarfref41_Value.j5
   repeat' first
   | (with_reducible exact ih0 _ _ _ _ _ _ _)
   | (with_reducible exact ih1 _ _ _ _ _ _ _ _)
   | (with_reducible exact ih2 _ _ _ _ _ _ _ _)
   | (with_reducible exact ih3 _ _ _ _ _ _ _ _)
   | (with_reducible exact ih4 _ _ _ _)
   | (with_reducible exact ih5 _ _ _)
   | (with_reducible exact ih6 _ _ _ _ _)
   | (with_reducible exact swarfref41_canonical.mono _ _)
   | (with_reducible exact LeO.refl _)
   | (with_reducible exact LeO.none _)
   | (with_reducible refine LeO.ite ?_ ?_)
   | (with_reducible refine LeO.bind ?_ (fun _ => ?_))
   | exact ih0 _ _ _ _ _ _ _
   | exact ih1 _ _ _ _ _ _ _ _
   | exact ih2 _ _ _ _ _ _ _ _
   | exact ih3 _ _ _ _ _ _ _ _
   | exact ih4 _ _ _ _
   | exact ih5 _ _ _
   | exact ih6 _ _ _ _ _
   | exact swarfref41_canonical.mono _ _
   | exact LeO.none _
   | refine LeO.ite ?_ ?_
   | refine LeO.bind ?_ (fun _ => ?_)
  ·intro y0 y1 y2
   unfold swarfref41_Value.j6
   repeat' first
   | (with_reducible exact ih0 _ _ _ _ _ _ _)
   | (with_reducible exact ih1 _ _ _ _ _ _ _ _)
   | (with_reducible exact ih2 _ _ _ _ _ _ _ _)
   | (with_reducible exact ih3 _ _ _ _ _ _ _ _)
   | (with_reducible exact ih4 _ _ _ _)
   | (with_reducible exact ih5 _ _ _)
   | (with_reducible exact ih6 _ _ _ _ _)
   | (with_reducible exact swarfref41_canonical.mono _ _)
   | (with_reducible exact LeO.refl _)
   | (with_reducible exact LeO.none _)
   | (with_reducible refine LeO.ite ?_ ?_)
   | (with_reducible refine LeO.bind ?_ (fun _ => ?_))
   | exact ih0 _ _ _ _ _ _ _
   | exact ih1 _ _ _ _ _ _ _ _
   | exact ih2 _ _ _ _ _ _ _ _
   | exact ih3 _ _ _ _ _ _ _ _
   | exact ih4 _ _ _ _
   | exact ih5 _ _ _
   | exact ih6 _ _ _ _ _
   | exact swarfref41_canonical.mono _ _
   | exact LeO.none _
   | refine LeO.ite ?_ ?_
   | refine LeO.bind ?_ (fun _ => ?_)
  ·intro y0 y1 y2 y3 y4
   unfold swarfref41_Value.l1
   repeat' first
   | (with_reducible exact ih0 _ _ _ _ _ _ _)
   | (with_reducible exact ih1 _ _ _ _ _ _ _ _)
   | (with_reducible exact ih2 _ _ _ _ _ _ _ _)
   | (with_reducible exact ih3 _ _ _ _ _ _ _ _)
   | (with_reducible exact ih4 _ _ _ _)
   | (with_reducible exact ih5 _ _ _)
   | (with_reducible exact ih6 _ _ _ _ _)
   | (with_reducible exact swarfref41_canonical.mono _ _)
   | (with_reducible exact LeO.refl _)
   | (with_reducible exact LeO.none _)
   | (with_reducible refine LeO.ite ?_ ?_)
   | (with_reducible refine LeO.bind ?_ (fun _ => ?_))
   | exact ih0 _ _ _ _ _ _ _
   | exact ih1 _ _ _ _ _ _ _ _
   | exact ih2 _ _ _ _ _ _ _ _
   | exact ih3 _ _ _ _ _ _ _ _
   | exact ih4 _ _ _ _
   | exact ih5 _ _ _
   | exact ih6 _ _ _ _ _
   | exact swarfref41_canonical.mono _ _
   | exact LeO.none _
   | refine LeO.ite ?_ ?_
   | refine LeO.bind ?_ (fun _ => ?_)
theorem swarfref41_Value.mono : ∀ a0 k, LeO (swarfref41_Value.f k a0) (swarfref41_Value.f (k + 1) a0) := by
 intro a0 k
 obtain ⟨ih0, ih1, ih2, ih3, ih4, ih5, ih6⟩ := swarfref41_Value.mono_l k
 unfold swarfref41_Value.f
 repeat' first
   | (with_reducible exact ih0 _ _ _ _ _ _ _)
   | (with_reducible exact ih1 _ _ _ _ _ _ _ _)
   | (with_reducible exact ih2 _ _ _ _ _ _ _ _)
   | (with_reducible exact ih3 _ _ _ _ _ _ _ _)
   | (with_reducible exact ih4 _ _ _ _)
   | (with_reducible exact ih5 _ _ _)
   | (with_reducible exact ih6 _ _ _ _ _)
   | (with_reducible exact swarfref41_canonical.mono _ _)
   | (with_reducible exact LeO.refl _)
   | (with_reducible exact LeO.none _)
   | (with_reducible refine LeO.ite ?_ ?_)
   | (with_reducible refine LeO.bind ?_ (fun _ => ?_))
   | exact ih0 _ _ _ _ _ _ _
   | exact ih1 _ _ _ _ _ _ _ _
   | exact ih2 _ _ _ _ _ _ _ _
   | exact ih3 _ _ _ _ _ _ _ _
   | exact ih4 _ _ _ _
   | exact ih5 _ _ _
   | exact ih6 _ _ _ _ _
   | exact swarfref41_canonical.mono _ _
   | exact LeO.none _
   | refine LeO.ite ?_ ?_
   | refine LeO.bind ?_ (fun _ => ?_)
set_option maxHeartbeats 8000000 in
set_option maxRecDepth 100000 in
theorem swarfref41_Value.calls (k : Nat) (a0 : ByteArray) (r1 : Int) (r2 : Int) (w : World) (h : swarfref41_Value.f k a0 = some (r1, r2)) :
  Calls Try.prog 107 #[.string a0] w fun e w' => e = .returned (.tuple #[.int .i64 r1, .int .i64 r2]) ∧ Drawn0 w w' := by
 have H : (swarfref41_Value.l0 k a0 0 0 (-1) false false 0) = some (r1, r2) := h
 clear h
 have H' := Aside0.mk H
 clear H
 go_enter Try.func107, Try.ntmps107
 go_wp2
 go_loopg [4, 5, 6, 7, 8, 9] k (fun kq v4 v5 v6 v7 v8 v9 w' => ∃ (x4_1 : Int) (x5_1 : Int) (x6_1 : Int) (x7_1 : Bool) (x8_1 : Bool) (x9_1 : Int), v4 = .int .u64 x4_1 ∧ v5 = .int .u64 x5_1 ∧ v6 = .int .i64 x6_1 ∧ v7 = .bool x7_1 ∧ v8 = .bool x8_1 ∧ v9 = .int .i64 x9_1 ∧ Aside0 (swarfref41_Value.l0 kq a0 x4_1 x5_1 x6_1 x7_1 x8_1 x9_1 = some (r1, r2)) ∧ Aside0 (kq ≤ k) ∧ Drawn0 w w')
 case atStart => exact ⟨(0), (0), ((-1)), (false), (false), (0), (by first | rfl | (simp; done) | (simp [*]; done)), (by first | rfl | (simp; done) | (simp [*]; done)), (by first | rfl | (simp; done) | (simp [*]; done)), (by first | rfl | (simp; done) | (simp [*]; done)), (by first | rfl | (simp; done) | (simp [*]; done)), (by first | rfl | (simp; done) | (simp [*]; done)), H', ⟨Nat.le_refl _⟩, by repeat (first | exact Drawn0.refl _ | apply Drawn0.step)⟩
 case round =>
  clear H'
  try clear c1
  obtain ⟨x4_1, x5_1, x6_1, x7_1, x8_1, x9_1, rfl, rfl, rfl, rfl, rfl, rfl, HA, HK1, ⟨m1, rfl⟩⟩ := hrel
  cases gk with
  | zero => exact absurd HA.out (by simp [swarfref41_Value.l0])
  | succ k1 =>
   have H := HA.out
   clear HA
   simp only [swarfref41_Value.l0] at H
   by_cases c2 : x9_1 < (a0.size : Int)
   ·rw [if_pos c2] at H
    have c2b0 : decide (x9_1 < (a0.size : Int)) = true := decide_eq_true c2
    clear c2
    have HC3 := Aside0.mk H
    clear H
    go_upto_region 7 with (fail)
    go_cut [17] (fun v17 wc => ∃ (kq : Nat) (x17_2 : Bool), v17 = .bool x17_2 ∧ Aside0 (swarfref41_Value.j1 kq a0 x4_1 x5_1 x6_1 x7_1 x8_1 x9_1 x17_2 = some (r1, r2)) ∧ Aside0 (kq ≤ k1) ∧ Drawn0 w wc)
    case first =>
     have H := HC3.out
     clear HC3
     by_cases c4 : x9_1 = 0
     ·rw [if_pos c4] at H
      have c4b0 : (x9_1 == 0) = true := beq_iff_eq.mpr c4
      have c4b1 : (x9_1 != 0) = false := bne_eq_false_iff_eq.mpr c4
      clear c4
      (first | rw [c4b0] | (simp only [i64_w, i32_w]; rw [c4b0]) | skip)
      by_cases c5 : 0 ≤ x9_1
      ·rw [if_pos c5] at H
       have c5b0 : decide (0 ≤ x9_1) = true := decide_eq_true c5
       clear c5
       have H' := Aside0.mk H
       clear H
       have p6 : 0 ≤ (x9_1 : Int) := of_decide_eq_true (by first | (with_reducible assumption) | assumption)
       have q6 : x9_1 < (a0.size : Int) := of_decide_eq_true (by first | (with_reducible assumption) | assumption)
       have hx6 := bt_at a0 x9_1
       replace p6 := eq_true p6
       replace q6 := eq_true q6
       go_wp2
       go_meet
       case rel => exact ⟨_, (((bt a0 x9_1) == 45)), (by first | rfl | (simp; done) | (simp [*]; done)), H', ⟨by have := HK1.out; first | omega | exact Nat.le_refl _⟩, by repeat (first | exact Drawn0.refl _ | apply Drawn0.step)⟩
      ·rw [if_neg c5] at H
       exact absurd H (by simp)
     ·rw [if_neg c4] at H
      have c4b0 : (x9_1 == 0) = false := beq_eq_false_iff_ne.mpr c4
      have c4b1 : (x9_1 != 0) = true := bne_iff_ne.mpr c4
      (first | rw [c4b0] | (simp only [i64_w, i32_w]; rw [c4b0]) | skip)
      have H' := Aside0.mk H
      clear H
      go_wp2
      go_meet
      case rel => exact ⟨_, (false), (by first | rfl | (simp; done) | (simp [*]; done)), H', ⟨by have := HK1.out; first | omega | exact Nat.le_refl _⟩, by repeat (first | exact Drawn0.refl _ | apply Drawn0.step)⟩
    case rest =>
     clear HC3
     try clear c1
     try clear c2
     try clear c2b0
     try clear p2
     try clear c4
     try clear c4b0
     try clear c4b1
     try clear c5
     try clear c5b0
     try clear p6
     try clear q6
     try clear hx6
     try clear p6
     try clear q6
     obtain ⟨kq, x17_2, rfl, HA, HJ2, ⟨mc2, rfl⟩⟩ := hcut
     cases kq with
     | zero => exact absurd HA.out (by simp [swarfref41_Value.j1])
     | succ kj2 =>
      have H := HA.out
      clear HA
      simp only [swarfref41_Value.j1] at H
      by_cases c7 : x17_2 = true
      ·subst c7
       have H1 : (swarfref41_Value.l0 kj2 a0 x4_1 x5_1 x6_1 true x8_1 (wrap64 (x9_1 + 1))) = some (r1, r2) := by rw [if_pos rfl] at H; exact H
       clear H
       have H := H1
       clear H1
       have H' := Aside0.mk H
       clear H
       go_wp2
       go_roundg kj2
       case measure => have := HK1.out; have := HJ2.out; omega
       case rel => exact ⟨(x4_1), (x5_1), (x6_1), (true), (x8_1), (wrap64 (x9_1 + 1)), (by first | rfl | (simp; done) | (simp [*]; done)), (by first | rfl | (simp; done) | (simp [*]; done)), (by first | rfl | (simp; done) | (simp [*]; done)), (by first | rfl | (simp; done) | (simp [*]; done)), (by first | rfl | (simp; done) | (simp [*]; done)), (by first | rfl | (simp; done) | (simp [*]; done)), H', ⟨by have := HK1.out; have := HJ2.out; omega⟩, by repeat (first | exact Drawn0.refl _ | apply Drawn0.step)⟩
      ·replace c7 := Bool.eq_false_iff.mpr c7
       subst c7
       have H1 : (if 0 ≤ x9_1 then (if x9_1 < (a0.size : Int) then (if (bt a0 x9_1) = 46 then (if x6_1 < 0 then (swarfref41_Value.j2 kj2 a0 x4_1 x5_1 x6_1 x7_1 x8_1 x9_1 (decide (x9_1 > 0))) else (swarfref41_Value.j2 kj2 a0 x4_1 x5_1 x6_1 x7_1 x8_1 x9_1 false)) else (swarfref41_Value.j2 kj2 a0 x4_1 x5_1 x6_1 x7_1 x8_1 x9_1 false)) else (none)) else (none)) = some (r1, r2) := by rw [if_neg (show ¬ (false = true) by decide)] at H; exact H
       clear H
       have H := H1
       clear H1
       have HC8 := Aside0.mk H
       clear H
       go_upto_region 9 with (fail)
       go_cut [26] (fun v26 wc => ∃ (kq : Nat) (x26_7 : Bool), v26 = .bool x26_7 ∧ Aside0 (swarfref41_Value.j2 kq a0 x4_1 x5_1 x6_1 x7_1 x8_1 x9_1 x26_7 = some (r1, r2)) ∧ Aside0 (kq ≤ kj2) ∧ Drawn0 w wc)
       case first =>
        have H := HC8.out
        clear HC8
        by_cases c9 : 0 ≤ x9_1
        ·rw [if_pos c9] at H
         have c9b0 : decide (0 ≤ x9_1) = true := decide_eq_true c9
         clear c9
         (first | rw [c9b0] | (simp only [i64_w, i32_w]; rw [c9b0]) | skip)
         by_cases c10 : x9_1 < (a0.size : Int)
         ·rw [if_pos c10] at H
          have c10b0 : decide (x9_1 < (a0.size : Int)) = true := decide_eq_true c10
          clear c10
          by_cases c12 : (bt a0 x9_1) = 46
          ·rw [if_pos c12] at H
           have c12b0 : ((bt a0 x9_1) == 46) = true := beq_iff_eq.mpr c12
           have c12b1 : ((bt a0 x9_1) != 46) = false := bne_eq_false_iff_eq.mpr c12
           clear c12
           by_cases c13 : x6_1 < 0
           ·rw [if_pos c13] at H
            have c13b0 : decide (x6_1 < 0) = true := decide_eq_true c13
            clear c13
            have H' := Aside0.mk H
            clear H
            have p11 : 0 ≤ (x9_1 : Int) := of_decide_eq_true (by first | (with_reducible assumption) | assumption)
            have q11 : x9_1 < (a0.size : Int) := of_decide_eq_true (by first | (with_reducible assumption) | assumption)
            have hx11 := bt_at a0 x9_1
            replace p11 := eq_true p11
            replace q11 := eq_true q11
            go_wp2
            go_meet
            case rel => exact ⟨_, (decide (x9_1 > 0)), (by first | rfl | (simp; done) | (simp [*]; done)), H', ⟨by have := HK1.out; have := HJ2.out; first | omega | exact Nat.le_refl _⟩, by repeat (first | exact Drawn0.refl _ | apply Drawn0.step)⟩
           ·rw [if_neg c13] at H
            have c13b0 : decide (x6_1 < 0) = false := decide_eq_false c13
            clear c13
            have H' := Aside0.mk H
            clear H
            have p11 : 0 ≤ (x9_1 : Int) := of_decide_eq_true (by first | (with_reducible assumption) | assumption)
            have q11 : x9_1 < (a0.size : Int) := of_decide_eq_true (by first | (with_reducible assumption) | assumption)
            have hx11 := bt_at a0 x9_1
            replace p11 := eq_true p11
            replace q11 := eq_true q11
            go_wp2
            go_meet
            case rel => exact ⟨_, (false), (by first | rfl | (simp; done) | (simp [*]; done)), H', ⟨by have := HK1.out; have := HJ2.out; first | omega | exact Nat.le_refl _⟩, by repeat (first | exact Drawn0.refl _ | apply Drawn0.step)⟩
          ·rw [if_neg c12] at H
           have c12b0 : ((bt a0 x9_1) == 46) = false := beq_eq_false_iff_ne.mpr c12
           have c12b1 : ((bt a0 x9_1) != 46) = true := bne_iff_ne.mpr c12
           have H' := Aside0.mk H
           clear H
           have p11 : 0 ≤ (x9_1 : Int) := of_decide_eq_true (by first | (with_reducible assumption) | assumption)
           have q11 : x9_1 < (a0.size : Int) := of_decide_eq_true (by first | (with_reducible assumption) | assumption)
           have hx11 := bt_at a0 x9_1
           replace p11 := eq_true p11
           replace q11 := eq_true q11
           go_wp2
           go_meet
           case rel => exact ⟨_, (false), (by first | rfl | (simp; done) | (simp [*]; done)), H', ⟨by have := HK1.out; have := HJ2.out; first | omega | exact Nat.le_refl _⟩, by repeat (first | exact Drawn0.refl _ | apply Drawn0.step)⟩
         ·rw [if_neg c10] at H
          exact absurd H (by simp)
        ·rw [if_neg c9] at H
         exact absurd H (by simp)
       case rest =>
        clear HC8
        try clear c1
        try clear p1
        try clear q1
        try clear hx1
        try clear c2
        try clear c2b0
        try clear p2
        try clear c4
        try clear c4b0
        try clear c4b1
        try clear c5
        try clear c5b0
        try clear p6
        try clear q6
        try clear hx6
        try clear c7
        try clear c9
        try clear c9b0
        try clear c10
        try clear c10b0
        try clear p11
        try clear q11
        try clear hx11
        try clear c12
        try clear c12b0
        try clear c12b1
        try clear c13
        try clear c13b0
        try clear p11
        try clear p2
        try clear p6
        try clear q11
        try clear q6
        obtain ⟨kq, x26_7, rfl, HA, HJ7, ⟨mc7, rfl⟩⟩ := hcut
        cases kq with
        | zero => exact absurd HA.out (by simp [swarfref41_Value.j2])
        | succ kj7 =>
         have H := HA.out
         clear HA
         simp only [swarfref41_Value.j2] at H
         by_cases c14 : x26_7 = true
         ·subst c14
          have H1 : (swarfref41_Value.l0 kj7 a0 x4_1 x5_1 0 x7_1 x8_1 (wrap64 (x9_1 + 1))) = some (r1, r2) := by rw [if_pos rfl] at H; exact H
          clear H
          have H := H1
          clear H1
          have H' := Aside0.mk H
          clear H
          go_wp2
          go_roundg kj7
          case measure => have := HK1.out; have := HJ2.out; have := HJ7.out; omega
          case rel => exact ⟨(x4_1), (x5_1), (0), (x7_1), (x8_1), (wrap64 (x9_1 + 1)), (by first | rfl | (simp; done) | (simp [*]; done)), (by first | rfl | (simp; done) | (simp [*]; done)), (by first | rfl | (simp; done) | (simp [*]; done)), (by first | rfl | (simp; done) | (simp [*]; done)), (by first | rfl | (simp; done) | (simp [*]; done)), (by first | rfl | (simp; done) | (simp [*]; done)), H', ⟨by have := HK1.out; have := HJ2.out; have := HJ7.out; omega⟩, by repeat (first | exact Drawn0.refl _ | apply Drawn0.step)⟩
         ·replace c14 := Bool.eq_false_iff.mpr c14
          subst c14
          have H1 : (if 0 ≤ x9_1 then (if x9_1 < (a0.size : Int) then (if (bt a0 x9_1) ≥ 48 then (if (bt a0 x9_1) ≤ 57 then (swarfref41_Value.j3 kj7 a0 x4_1 x5_1 x6_1 x7_1 x8_1 x9_1 (decide (x6_1 < 0))) else (swarfref41_Value.j3 kj7 a0 x4_1 x5_1 x6_1 x7_1 x8_1 x9_1 false)) else (swarfref41_Value.j3 kj7 a0 x4_1 x5_1 x6_1 x7_1 x8_1 x9_1 false)) else (none)) else (none)) = some (r1, r2) := by rw [if_neg (show ¬ (false = true) by decide)] at H; exact H
          clear H
          have H := H1
          clear H1
          have HC15 := Aside0.mk H
          clear H
          go_upto_region 11 with (fail)
          go_cut [39] (fun v39 wc => ∃ (kq : Nat) (x39_14 : Bool), v39 = .bool x39_14 ∧ Aside0 (swarfref41_Value.j3 kq a0 x4_1 x5_1 x6_1 x7_1 x8_1 x9_1 x39_14 = some (r1, r2)) ∧ Aside0 (kq ≤ kj7) ∧ Drawn0 w wc)
          case first =>
           have H := HC15.out
           clear HC15
           by_cases c16 : 0 ≤ x9_1
           ·rw [if_pos c16] at H
            have c16b0 : decide (0 ≤ x9_1) = true := decide_eq_true c16
            clear c16
            (first | rw [c16b0] | (simp only [i64_w, i32_w]; rw [c16b0]) | skip)
            by_cases c17 : x9_1 < (a0.size : Int)
            ·rw [if_pos c17] at H
             have c17b0 : decide (x9_1 < (a0.size : Int)) = true := decide_eq_true c17
             clear c17
             by_cases c19 : (bt a0 x9_1) ≥ 48
             ·rw [if_pos c19] at H
              have c19b0 : decide (48 ≤ (bt a0 x9_1)) = true := decide_eq_true c19
              clear c19
              by_cases c21 : (bt a0 x9_1) ≤ 57
              ·rw [if_pos c21] at H
               have c21b0 : decide ((bt a0 x9_1) ≤ 57) = true := decide_eq_true c21
               clear c21
               have H' := Aside0.mk H
               clear H
               have p18 : 0 ≤ (x9_1 : Int) := of_decide_eq_true (by first | (with_reducible assumption) | assumption)
               have q18 : x9_1 < (a0.size : Int) := of_decide_eq_true (by first | (with_reducible assumption) | assumption)
               have hx18 := bt_at a0 x9_1
               replace p18 := eq_true p18
               replace q18 := eq_true q18
               have p20 : 0 ≤ (x9_1 : Int) := of_decide_eq_true (by first | (with_reducible assumption) | assumption)
               have q20 : x9_1 < (a0.size : Int) := of_decide_eq_true (by first | (with_reducible assumption) | assumption)
               have hx20 := bt_at a0 x9_1
               replace p20 := eq_true p20
               replace q20 := eq_true q20
               go_wp2
               go_meet
               case rel => exact ⟨_, (decide (x6_1 < 0)), (by first | rfl | (simp; done) | (simp [*]; done)), H', ⟨by have := HK1.out; have := HJ2.out; have := HJ7.out; first | omega | exact Nat.le_refl _⟩, by repeat (first | exact Drawn0.refl _ | apply Drawn0.step)⟩
              ·rw [if_neg c21] at H
               have c21b0 : decide ((bt a0 x9_1) ≤ 57) = false := decide_eq_false c21
               clear c21
               have H' := Aside0.mk H
               clear H
               have p18 : 0 ≤ (x9_1 : Int) := of_decide_eq_true (by first | (with_reducible assumption) | assumption)
               have q18 : x9_1 < (a0.size : Int) := of_decide_eq_true (by first | (with_reducible assumption) | assumption)
               have hx18 := bt_at a0 x9_1
               replace p18 := eq_true p18
               replace q18 := eq_true q18
               have p20 : 0 ≤ (x9_1 : Int) := of_decide_eq_true (by first | (with_reducible assumption) | assumption)
               have q20 : x9_1 < (a0.size : Int) := of_decide_eq_true (by first | (with_reducible assumption) | assumption)
               have hx20 := bt_at a0 x9_1
               replace p20 := eq_true p20
               replace q20 := eq_true q20
               go_wp2
               go_meet
               case rel => exact ⟨_, (false), (by first | rfl | (simp; done) | (simp [*]; done)), H', ⟨by have := HK1.out; have := HJ2.out; have := HJ7.out; first | omega | exact Nat.le_refl _⟩, by repeat (first | exact Drawn0.refl _ | apply Drawn0.step)⟩
             ·rw [if_neg c19] at H
              have c19b0 : decide (48 ≤ (bt a0 x9_1)) = false := decide_eq_false c19
              clear c19
              have H' := Aside0.mk H
              clear H
              have p18 : 0 ≤ (x9_1 : Int) := of_decide_eq_true (by first | (with_reducible assumption) | assumption)
              have q18 : x9_1 < (a0.size : Int) := of_decide_eq_true (by first | (with_reducible assumption) | assumption)
              have hx18 := bt_at a0 x9_1
              replace p18 := eq_true p18
              replace q18 := eq_true q18
              go_wp2
              go_meet
              case rel => exact ⟨_, (false), (by first | rfl | (simp; done) | (simp [*]; done)), H', ⟨by have := HK1.out; have := HJ2.out; have := HJ7.out; first | omega | exact Nat.le_refl _⟩, by repeat (first | exact Drawn0.refl _ | apply Drawn0.step)⟩
            ·rw [if_neg c17] at H
             exact absurd H (by simp)
           ·rw [if_neg c16] at H
            exact absurd H (by simp)
          case rest =>
           clear HC15
           try clear c1
           try clear p1
           try clear q1
           try clear hx1
           try clear c2
           try clear c2b0
           try clear p2
           try clear q2
           try clear hx2
           try clear c4
           try clear c4b0
           try clear c4b1
           try clear c5
           try clear c5b0
           try clear p6
           try clear q6
           try clear hx6
           try clear c7
           try clear c9
           try clear c9b0
           try clear c10
           try clear c10b0
           try clear p11
           try clear q11
           try clear hx11
           try clear c12
           try clear c12b0
           try clear c12b1
           try clear c13
           try clear c13b0
           try clear c14
           try clear c16
           try clear c16b0
           try clear c17
           try clear c17b0
           try clear p18
           try clear q18
           try clear hx18
           try clear c19
           try clear c19b0
           try clear p20
           try clear q20
           try clear hx20
           try clear c21
           try clear c21b0
           try clear p1
           try clear p11
           try clear p18
           try clear p2
           try clear p20
           try clear p6
           try clear q1
           try clear q11
           try clear q18
           try clear q20
           try clear q6
           obtain ⟨kq, x39_14, rfl, HA, HJ14, ⟨mc14, rfl⟩⟩ := hcut
           cases kq with
           | zero => exact absurd HA.out (by simp [swarfref41_Value.j3])
           | succ kj14 =>
            have H := HA.out
            clear HA
            simp only [swarfref41_Value.j3] at H
            by_cases c22 : x39_14 = true
            ·subst c22
             have H1 : (if 0 ≤ x9_1 then (if x9_1 < (a0.size : Int) then (if (IntKind.u64.wrap ((IntKind.u64.wrap (10 * x4_1)) + (((bt a0 x9_1) - 48) % 256))) > 1000000000000 then (swarfref41_Value.l0 kj14 a0 1000000000000 x5_1 x6_1 x7_1 true (wrap64 (x9_1 + 1))) else (swarfref41_Value.l0 kj14 a0 (IntKind.u64.wrap ((IntKind.u64.wrap (10 * x4_1)) + (((bt a0 x9_1) - 48) % 256))) x5_1 x6_1 x7_1 x8_1 (wrap64 (x9_1 + 1)))) else (none)) else (none)) = some (r1, r2) := by rw [if_pos rfl] at H; exact H
             clear H
             have H := H1
             clear H1
             by_cases c23 : 0 ≤ x9_1
             ·rw [if_pos c23] at H
              have c23b0 : decide (0 ≤ x9_1) = true := decide_eq_true c23
              clear c23
              by_cases c24 : x9_1 < (a0.size : Int)
              ·rw [if_pos c24] at H
               have c24b0 : decide (x9_1 < (a0.size : Int)) = true := decide_eq_true c24
               clear c24
               by_cases c26 : (IntKind.u64.wrap ((IntKind.u64.wrap (10 * x4_1)) + (((bt a0 x9_1) - 48) % 256))) > 1000000000000
               ·rw [if_pos c26] at H
                have c26b0 : decide (1000000000000 < (IntKind.u64.wrap ((IntKind.u64.wrap (10 * x4_1)) + (((bt a0 x9_1) - 48) % 256)))) = true := decide_eq_true c26
                clear c26
                have H' := Aside0.mk H
                clear H
                have p25 : 0 ≤ (x9_1 : Int) := of_decide_eq_true (by first | (with_reducible assumption) | assumption)
                have q25 : x9_1 < (a0.size : Int) := of_decide_eq_true (by first | (with_reducible assumption) | assumption)
                have hx25 := bt_at a0 x9_1
                replace p25 := eq_true p25
                replace q25 := eq_true q25
                go_wp2
                go_roundg kj14
                case measure => have := HK1.out; have := HJ2.out; have := HJ7.out; have := HJ14.out; omega
                case rel => exact ⟨(1000000000000), (x5_1), (x6_1), (x7_1), (true), (wrap64 (x9_1 + 1)), (by first | rfl | (simp; done) | (simp [*]; done)), (by first | rfl | (simp; done) | (simp [*]; done)), (by first | rfl | (simp; done) | (simp [*]; done)), (by first | rfl | (simp; done) | (simp [*]; done)), (by first | rfl | (simp; done) | (simp [*]; done)), (by first | rfl | (simp; done) | (simp [*]; done)), H', ⟨by have := HK1.out; have := HJ2.out; have := HJ7.out; have := HJ14.out; omega⟩, by repeat (first | exact Drawn0.refl _ | apply Drawn0.step)⟩
               ·rw [if_neg c26] at H
                have c26b0 : decide (1000000000000 < (IntKind.u64.wrap ((IntKind.u64.wrap (10 * x4_1)) + (((bt a0 x9_1) - 48) % 256)))) = false := decide_eq_false c26
                clear c26
                have H' := Aside0.mk H
                clear H
                have p25 : 0 ≤ (x9_1 : Int) := of_decide_eq_true (by first | (with_reducible assumption) | assumption)
                have q25 : x9_1 < (a0.size : Int) := of_decide_eq_true (by first | (with_reducible assumption) | assumption)
                have hx25 := bt_at a0 x9_1
                replace p25 := eq_true p25
                replace q25 := eq_true q25
                go_wp2
                go_roundg kj14
                case measure => have := HK1.out; have := HJ2.out; have := HJ7.out; have := HJ14.out; omega
                case rel => exact ⟨(IntKind.u64.wrap ((IntKind.u64.wrap (10 * x4_1)) + (((bt a0 x9_1) - 48) % 256))), (x5_1), (x6_1), (x7_1), (x8_1), (wrap64 (x9_1 + 1)), (by first | rfl | (simp; done) | (simp [*]; done)), (by first | rfl | (simp; done) | (simp [*]; done)), (by first | rfl | (simp; done) | (simp [*]; done)), (by first | rfl | (simp; done) | (simp [*]; done)), (by first | rfl | (simp; done) | (simp [*]; done)), (by first | rfl | (simp; done) | (simp [*]; done)), H', ⟨by have := HK1.out; have := HJ2.out; have := HJ7.out; have := HJ14.out; omega⟩, by repeat (first | exact Drawn0.refl _ | apply Drawn0.step)⟩
              ·rw [if_neg c24] at H
               exact absurd H (by simp)
             ·rw [if_neg c23] at H
              exact absurd H (by simp)
            ·replace c22 := Bool.eq_false_iff.mpr c22
             subst c22
             have H1 : (if 0 ≤ x9_1 then (if x9_1 < (a0.size : Int) then (if (bt a0 x9_1) ≥ 48 then (if (bt a0 x9_1) ≤ 57 then (if x6_1 < 3 then (swarfref41_Value.l0 kj14 a0 x4_1 (IntKind.u64.wrap ((IntKind.u64.wrap (10 * x5_1)) + (((bt a0 x9_1) - 48) % 256))) (wrap64 (x6_1 + 1)) x7_1 x8_1 (wrap64 (x9_1 + 1))) else (none)) else (none)) else (none)) else (none)) else (none)) = some (r1, r2) := by rw [if_neg (show ¬ (false = true) by decide)] at H; exact H
             clear H
             have H := H1
             clear H1
             by_cases c27 : 0 ≤ x9_1
             ·rw [if_pos c27] at H
              have c27b0 : decide (0 ≤ x9_1) = true := decide_eq_true c27
              clear c27
              by_cases c28 : x9_1 < (a0.size : Int)
              ·rw [if_pos c28] at H
               have c28b0 : decide (x9_1 < (a0.size : Int)) = true := decide_eq_true c28
               clear c28
               by_cases c30 : (bt a0 x9_1) ≥ 48
               ·rw [if_pos c30] at H
                have c30b0 : decide (48 ≤ (bt a0 x9_1)) = true := decide_eq_true c30
                clear c30
                by_cases c32 : (bt a0 x9_1) ≤ 57
                ·rw [if_pos c32] at H
                 have c32b0 : decide ((bt a0 x9_1) ≤ 57) = true := decide_eq_true c32
                 clear c32
                 by_cases c33 : x6_1 < 3
                 ·rw [if_pos c33] at H
                  have c33b0 : decide (x6_1 < 3) = true := decide_eq_true c33
                  clear c33
                  have H' := Aside0.mk H
                  clear H
                  have p29 : 0 ≤ (x9_1 : Int) := of_decide_eq_true (by first | (with_reducible assumption) | assumption)
                  have q29 : x9_1 < (a0.size : Int) := of_decide_eq_true (by first | (with_reducible assumption) | assumption)
                  have hx29 := bt_at a0 x9_1
                  replace p29 := eq_true p29
                  replace q29 := eq_true q29
                  have p31 : 0 ≤ (x9_1 : Int) := of_decide_eq_true (by first | (with_reducible assumption) | assumption)
                  have q31 : x9_1 < (a0.size : Int) := of_decide_eq_true (by first | (with_reducible assumption) | assumption)
                  have hx31 := bt_at a0 x9_1
                  replace p31 := eq_true p31
                  replace q31 := eq_true q31
                  have p34 : 0 ≤ (x9_1 : Int) := of_decide_eq_true (by first | (with_reducible assumption) | assumption)
                  have q34 : x9_1 < (a0.size : Int) := of_decide_eq_true (by first | (with_reducible assumption) | assumption)
                  have hx34 := bt_at a0 x9_1
                  replace p34 := eq_true p34
                  replace q34 := eq_true q34
                  go_wp2
                  go_roundg kj14
                  case measure => have := HK1.out; have := HJ2.out; have := HJ7.out; have := HJ14.out; omega
                  case rel => exact ⟨(x4_1), (IntKind.u64.wrap ((IntKind.u64.wrap (10 * x5_1)) + (((bt a0 x9_1) - 48) % 256))), (wrap64 (x6_1 + 1)), (x7_1), (x8_1), (wrap64 (x9_1 + 1)), (by first | rfl | (simp; done) | (simp [*]; done)), (by first | rfl | (simp; done) | (simp [*]; done)), (by first | rfl | (simp; done) | (simp [*]; done)), (by first | rfl | (simp; done) | (simp [*]; done)), (by first | rfl | (simp; done) | (simp [*]; done)), (by first | rfl | (simp; done) | (simp [*]; done)), H', ⟨by have := HK1.out; have := HJ2.out; have := HJ7.out; have := HJ14.out; omega⟩, by repeat (first | exact Drawn0.refl _ | apply Drawn0.step)⟩
                 ·rw [if_neg c33] at H
                  exact absurd H (by simp)
                ·rw [if_neg c32] at H
                 exact absurd H (by simp)
               ·rw [if_neg c30] at H
                exact absurd H (by simp)
              ·rw [if_neg c28] at H
               exact absurd H (by simp)
             ·rw [if_neg c27] at H
              exact absurd H (by simp)
   ·rw [if_neg c2] at H
    have c2b0 : decide (x9_1 < (a0.size : Int)) = false := decide_eq_false c2
    clear c2
    replace H := Option.bind_eq_some_iff.mp H
    obtain ⟨t124, A350, H⟩ := H
    replace H : (if t124 = true then (swarfref41_Value.l1 k1 x4_1 x5_1 x6_1 x7_1 x8_1) else (none)) = some (r1, r2) := H
    have A35 := Aside0.mk A350
    clear A350
    by_cases c36 : t124 = true
    ·subst c36
     have H1 : (swarfref41_Value.l1 k1 x4_1 x5_1 x6_1 x7_1 x8_1) = some (r1, r2) := by rw [if_pos rfl] at H; exact H
     clear H
     have H := H1
     clear H1
     have HC37 := Aside0.mk H
     clear H
     go_upto_block 3 with (first | ((with_reducible refine gate_callee (f := 114) rfl ?_); refine goesL_ (some 90) rfl rfl Try.func114 (by kernel_rfl) rfl #[.string a0] rfl (by (try simp only [List.map_toArray, List.map_cons, List.map_nil]); first | done | rfl | (simp only [List.length_drop, List.length_take]; rfl)) ?_; (with_reducible refine (swarfref41_canonical.calls k1 a0 true _ A35.out).mono ?_); rintro e w' ⟨rfl, ⟨nd, rfl⟩⟩; refine ⟨_, rfl, ?_⟩))
     (try simp only [Act.put, List.setIfInBounds_toArray, List.set_cons_zero, List.set_cons_succ])
     go_cut [5] (fun v5 wc => ∃ (kq : Nat) (x5_36 : Int), v5 = .int .u64 x5_36 ∧ Aside0 (swarfref41_Value.j5 kq x4_1 x5_36 x7_1 x8_1 = some (r1, r2)) ∧ Aside0 (kq ≤ k1) ∧ Drawn0 w wc)
     case first =>
      have H := HC37.out
      clear HC37
      have H' := Aside0.mk H
      clear H
      go_wp2
      go_loopg [5, 6] k1 (fun kq v5 v6 w' => ∃ (x5_2 : Int) (x6_2 : Int), v5 = .int .u64 x5_2 ∧ v6 = .int .i64 x6_2 ∧ Aside0 (swarfref41_Value.l1 kq x4_1 x5_2 x6_2 x7_1 x8_1 = some (r1, r2)) ∧ Aside0 (kq ≤ k1) ∧ Drawn0 w w')
      case atStart => exact ⟨(x5_1), (x6_1), (by first | rfl | (simp; done) | (simp [*]; done)), (by first | rfl | (simp; done) | (simp [*]; done)), H', ⟨Nat.le_refl _⟩, by repeat (first | exact Drawn0.refl _ | apply Drawn0.step)⟩
      case round =>
       clear H'
       try clear c1
       try clear p1
       try clear q1
       try clear hx1
       try clear c2
       try clear c2b0
       try clear p2
       try clear q2
       try clear hx2
       try clear c3
       try clear p3
       try clear q3
       try clear hx3
       try clear c4
       try clear c4b0
       try clear c4b1
       try clear c5
       try clear c5b0
       try clear p6
       try clear q6
       try clear hx6
       try clear c7
       try clear c9
       try clear c9b0
       try clear c10
       try clear c10b0
       try clear c11
       try clear p11
       try clear q11
       try clear hx11
       try clear c12
       try clear c12b0
       try clear c12b1
       try clear c13
       try clear c13b0
       try clear c14
       try clear c16
       try clear c16b0
       try clear c17
       try clear c17b0
       try clear p18
       try clear q18
       try clear hx18
       try clear c19
       try clear c19b0
       try clear p20
       try clear q20
       try clear hx20
       try clear c21
       try clear c21b0
       try clear c22
       try clear c23
       try clear c23b0
       try clear c24
       try clear c24b0
       try clear p25
       try clear q25
       try clear hx25
       try clear c26
       try clear c26b0
       try clear c27
       try clear c27b0
       try clear c28
       try clear c28b0
       try clear p29
       try clear q29
       try clear hx29
       try clear c30
       try clear c30b0
       try clear p31
       try clear q31
       try clear hx31
       try clear c32
       try clear c32b0
       try clear c33
       try clear c33b0
       try clear p34
       try clear q34
       try clear hx34
       try clear c36
       try clear p1
       try clear p11
       try clear p18
       try clear p2
       try clear p20
       try clear p25
       try clear p29
       try clear p31
       try clear p34
       try clear p6
       try clear q1
       try clear q11
       try clear q18
       try clear q2
       try clear q20
       try clear q25
       try clear q29
       try clear q31
       try clear q34
       try clear q6
       obtain ⟨x5_2, x6_2, rfl, rfl, HA, HK2, ⟨m2, rfl⟩⟩ := hrel
       cases gk with
       | zero => exact absurd HA.out (by simp [swarfref41_Value.l1])
       | succ k2 =>
        have H := HA.out
        clear HA
        simp only [swarfref41_Value.l1] at H
        by_cases c38 : x6_2 ≥ 0
        ·rw [if_pos c38] at H
         have c38b0 : decide (0 ≤ x6_2) = true := decide_eq_true c38
         clear c38
         (first | rw [c38b0] | (simp only [i64_w, i32_w]; rw [c38b0]) | skip)
         by_cases c39 : x6_2 < 3
         ·rw [if_pos c39] at H
          have c39b0 : decide (x6_2 < 3) = true := decide_eq_true c39
          clear c39
          have H' := Aside0.mk H
          clear H
          go_wp2
          go_roundg k2
          case measure => have := HK1.out; have := HK2.out; omega
          case rel => exact ⟨(IntKind.u64.wrap (10 * x5_2)), (wrap64 (x6_2 + 1)), (by first | rfl | (simp; done) | (simp [*]; done)), (by first | rfl | (simp; done) | (simp [*]; done)), H', ⟨by have := HK1.out; have := HK2.out; omega⟩, by repeat (first | exact Drawn0.refl _ | apply Drawn0.step)⟩
         ·rw [if_neg c39] at H
          have c39b0 : decide (x6_2 < 3) = false := decide_eq_false c39
          clear c39
          have H' := Aside0.mk H
          clear H
          go_wp2
          go_meet
          case rel => exact ⟨_, (x5_2), (by first | rfl | (simp; done) | (simp [*]; done)), H', ⟨by have := HK1.out; have := HK2.out; first | omega | exact Nat.le_refl _⟩, by repeat (first | exact Drawn0.refl _ | apply Drawn0.step)⟩
        ·rw [if_neg c38] at H
         have c38b0 : decide (0 ≤ x6_2) = false := decide_eq_false c38
         clear c38
         (first | rw [c38b0] | (simp only [i64_w, i32_w]; rw [c38b0]) | skip)
         have H' := Aside0.mk H
         clear H
         go_wp2
         go_meet
         case rel => exact ⟨_, (x5_2), (by first | rfl | (simp; done) | (simp [*]; done)), H', ⟨by have := HK1.out; have := HK2.out; first | omega | exact Nat.le_refl _⟩, by repeat (first | exact Drawn0.refl _ | apply Drawn0.step)⟩
     case rest =>
      clear HC37
      try clear c1
      try clear p1
      try clear q1
      try clear hx1
      try clear c2
      try clear c2b0
      try clear p2
      try clear q2
      try clear hx2
      try clear c3
      try clear p3
      try clear q3
      try clear hx3
      try clear c4
      try clear c4b0
      try clear c4b1
      try clear c5
      try clear c5b0
      try clear p6
      try clear q6
      try clear hx6
      try clear c7
      try clear c9
      try clear c9b0
      try clear c10
      try clear c10b0
      try clear c11
      try clear p11
      try clear q11
      try clear hx11
      try clear c12
      try clear c12b0
      try clear c12b1
      try clear c13
      try clear c13b0
      try clear c14
      try clear c16
      try clear c16b0
      try clear c17
      try clear c17b0
      try clear p18
      try clear q18
      try clear hx18
      try clear c19
      try clear c19b0
      try clear p20
      try clear q20
      try clear hx20
      try clear c21
      try clear c21b0
      try clear c22
      try clear c23
      try clear c23b0
      try clear c24
      try clear c24b0
      try clear p25
      try clear q25
      try clear hx25
      try clear c26
      try clear c26b0
      try clear c27
      try clear c27b0
      try clear c28
      try clear c28b0
      try clear p29
      try clear q29
      try clear hx29
      try clear c30
      try clear c30b0
      try clear p31
      try clear q31
      try clear hx31
      try clear c32
      try clear c32b0
      try clear c33
      try clear c33b0
      try clear p34
      try clear q34
      try clear hx34
      try clear c36
      try clear c38
      try clear c38b0
      try clear c39
      try clear c39b0
      try clear p1
      try clear p11
      try clear p18
      try clear p2
      try clear p20
      try clear p25
      try clear p29
      try clear p3
      try clear p31
      try clear p34
      try clear p6
      try clear q1
      try clear q11
      try clear q18
      try clear q2
      try clear q20
      try clear q25
      try clear q29
      try clear q3
      try clear q31
      try clear q34
      try clear q6
      obtain ⟨kq, x5_36, rfl, HA, HJ36, ⟨mc36, rfl⟩⟩ := hcut
      cases kq with
      | zero => exact absurd HA.out (by simp [swarfref41_Value.j5])
      | succ kj36 =>
       have H := HA.out
       clear HA
       simp only [swarfref41_Value.j5] at H
       have HC40 := Aside0.mk H
       clear H
       go_upto_region 22 with (fail)
       go_cut [110] (fun v110 wc => ∃ (kq : Nat) (x110_39 : Bool), v110 = .bool x110_39 ∧ Aside0 (swarfref41_Value.j6 kq x7_1 (IntKind.u64.wrap ((IntKind.u64.wrap (1000 * x4_1)) + x5_36)) x110_39 = some (r1, r2)) ∧ Aside0 (kq ≤ kj36) ∧ Drawn0 w wc)
       case first =>
        have H := HC40.out
        clear HC40
        by_cases c41 : x8_1 = true
        ·subst c41
         have H1 : (swarfref41_Value.j6 kj36 x7_1 (IntKind.u64.wrap ((IntKind.u64.wrap (1000 * x4_1)) + x5_36)) true) = some (r1, r2) := by rw [if_pos rfl] at H; exact H
         clear H
         have H := H1
         clear H1
         have H' := Aside0.mk H
         clear H
         go_wp2
         go_meet
         case rel => exact ⟨_, (true), (by first | rfl | (simp; done) | (simp [*]; done)), H', ⟨by have := HK1.out; have := HJ36.out; first | omega | exact Nat.le_refl _⟩, by repeat (first | exact Drawn0.refl _ | apply Drawn0.step)⟩
        ·replace c41 := Bool.eq_false_iff.mpr c41
         subst c41
         have H1 : (swarfref41_Value.j6 kj36 x7_1 (IntKind.u64.wrap ((IntKind.u64.wrap (1000 * x4_1)) + x5_36)) (decide ((IntKind.u64.wrap ((IntKind.u64.wrap (1000 * x4_1)) + x5_36)) > 1000000000000))) = some (r1, r2) := by rw [if_neg (show ¬ (false = true) by decide)] at H; exact H
         clear H
         have H := H1
         clear H1
         have H' := Aside0.mk H
         clear H
         go_wp2
         go_meet
         case rel => exact ⟨_, (decide ((IntKind.u64.wrap ((IntKind.u64.wrap (1000 * x4_1)) + x5_36)) > 1000000000000)), (by first | rfl | (simp; done) | (simp [*]; done)), H', ⟨by have := HK1.out; have := HJ36.out; first | omega | exact Nat.le_refl _⟩, by repeat (first | exact Drawn0.refl _ | apply Drawn0.step)⟩
       case rest =>
        clear HC40
        try clear c1
        try clear p1
        try clear q1
        try clear hx1
        try clear c2
        try clear c2b0
        try clear p2
        try clear q2
        try clear hx2
        try clear c3
        try clear p3
        try clear q3
        try clear hx3
        try clear c4
        try clear c4b0
        try clear c4b1
        try clear c5
        try clear c5b0
        try clear p6
        try clear q6
        try clear hx6
        try clear c7
        try clear c9
        try clear c9b0
        try clear c10
        try clear c10b0
        try clear c11
        try clear p11
        try clear q11
        try clear hx11
        try clear c12
        try clear c12b0
        try clear c12b1
        try clear c13
        try clear c13b0
        try clear c14
        try clear c16
        try clear c16b0
        try clear c17
        try clear c17b0
        try clear p18
        try clear q18
        try clear hx18
        try clear c19
        try clear c19b0
        try clear p20
        try clear q20
        try clear hx20
        try clear c21
        try clear c21b0
        try clear c22
        try clear c23
        try clear c23b0
        try clear c24
        try clear c24b0
        try clear p25
        try clear q25
        try clear hx25
        try clear c26
        try clear c26b0
        try clear c27
        try clear c27b0
        try clear c28
        try clear c28b0
        try clear p29
        try clear q29
        try clear hx29
        try clear c30
        try clear c30b0
        try clear p31
        try clear q31
        try clear hx31
        try clear c32
        try clear c32b0
        try clear c33
        try clear c33b0
        try clear p34
        try clear q34
        try clear hx34
        try clear c36
        try clear c38
        try clear c38b0
        try clear c39
        try clear c39b0
        try clear c41
        try clear p1
        try clear p11
        try clear p18
        try clear p2
        try clear p20
        try clear p25
        try clear p29
        try clear p3
        try clear p31
        try clear p34
        try clear p6
        try clear q1
        try clear q11
        try clear q18
        try clear q2
        try clear q20
        try clear q25
        try clear q29
        try clear q3
        try clear q31
        try clear q34
        try clear q6
        obtain ⟨kq, x110_39, rfl, HA, HJ39, ⟨mc39, rfl⟩⟩ := hcut
        cases kq with
        | zero => exact absurd HA.out (by simp [swarfref41_Value.j6])
        | succ kj39 =>
         have H := HA.out
         clear HA
         simp only [swarfref41_Value.j6] at H
         by_cases c42 : x110_39 = true
         ·subst c42
          have H1 : (none) = some (r1, r2) := by rw [if_pos rfl] at H; exact H
          clear H
          have H := H1
          clear H1
          exact absurd H (by simp)
         ·replace c42 := Bool.eq_false_iff.mpr c42
          subst c42
          have H1 : (if x7_1 = true then (some (wrap64 (-(wrap64 ((IntKind.u64.wrap ((IntKind.u64.wrap (1000 * x4_1)) + x5_36))))), 0)) else (some (wrap64 ((IntKind.u64.wrap ((IntKind.u64.wrap (1000 * x4_1)) + x5_36))), 0))) = some (r1, r2) := by rw [if_neg (show ¬ (false = true) by decide)] at H; exact H
          clear H
          have H := H1
          clear H1
          by_cases c43 : x7_1 = true
          ·subst c43
           have H1 : (some (wrap64 (-(wrap64 ((IntKind.u64.wrap ((IntKind.u64.wrap (1000 * x4_1)) + x5_36))))), 0)) = some (r1, r2) := by rw [if_pos rfl] at H; exact H
           clear H
           have H := H1
           clear H1
           simp only [Option.some.injEq, Prod.mk.injEq] at H
           obtain ⟨rfl, rfl⟩ := H
           go_wp2
           go_ret2
           exact ⟨by first | rfl | (simp; done) | (simp [*]; done), by repeat (first | exact Drawn0.refl _ | apply Drawn0.step)⟩
          ·replace c43 := Bool.eq_false_iff.mpr c43
           subst c43
           have H1 : (some (wrap64 ((IntKind.u64.wrap ((IntKind.u64.wrap (1000 * x4_1)) + x5_36))), 0)) = some (r1, r2) := by rw [if_neg (show ¬ (false = true) by decide)] at H; exact H
           clear H
           have H := H1
           clear H1
           simp only [Option.some.injEq, Prod.mk.injEq] at H
           obtain ⟨rfl, rfl⟩ := H
           go_wp2
           go_ret2
           exact ⟨by first | rfl | (simp; done) | (simp [*]; done), by repeat (first | exact Drawn0.refl _ | apply Drawn0.step)⟩
    ·replace c36 := Bool.eq_false_iff.mpr c36
     subst c36
     have H1 : (none) = some (r1, r2) := by rw [if_neg (show ¬ (false = true) by decide)] at H; exact H
     clear H
     have H := H1
     clear H1
     exact absurd H (by simp)
end Go.Proofs.Ytehkhbnhmehobaa.P
