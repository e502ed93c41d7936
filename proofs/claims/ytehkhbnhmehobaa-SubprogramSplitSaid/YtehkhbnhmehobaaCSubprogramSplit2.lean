/- A part of the proof of SubprogramSplit. -/
import Derived.Maps.OwnSet
import Derived.Maps.OwnOps
import Derived.Maps.Views
import Derived.Deep.Slices
import Derived.ChangeArms
import Derived.WalkKit
import Derived.ProofKit
import Derived.WideShapes
import Derived.Lib.SliceRun
import Derived.Test.YtehkhbnhmehobaaCSubprogramSplit1
namespace Go.Proofs.Ytehkhbnhmehobaa.P
open Go.RowKit Go.Proofs.YtehkhbnhmehobaaW.PrintWords Go.Proofs.YtehkhbnhmehobaaW.PrintLast Go.Proofs.YtehkhbnhmehobaaW.PrintMore
open Go.Maps (Keyed)
set_option linter.unusedVariables false
def rawR (v : Value) : Option (DataW Value × List MemPlace) := some (.held v, [])
def MapIs (P : Program) (k : TypeId) (q : IntKind) (w : World) (b n : Nat) (f : Int → Option Value) : Prop :=
  ∃ D : DataW Value, w.ownsMap P k rawR b n D ∧ ∀ a : Int, Maps.has D (.int q a) = (f a).isSome ∧ ∀ z, D.atKey (.int q a) (.held z) = .held ((f a).getD z)
section
variable {P : Program} {k : TypeId} {q : IntKind} {w w1 : World} {b n : Nat} {f : Int → Option Value}
theorem MapIs.made (P : Program) (k : TypeId) (q : IntKind) (w : World) : MapIs P k q (w.alloc (.map #[] 0)) w.heap.size 0 (fun _ => none) :=
  ⟨.map [], World.ownsMap_made w P k rawR, fun a => ⟨rfl, fun z => rfl⟩⟩
theorem MapIs.lt (h : MapIs P k q w b n f) : b < w.heap.size := by
  obtain ⟨D, h, _⟩ := h
  exact h.lt
theorem MapIs.kept {row : Option Nat} (h : MapIs P k q w b n f) (hg : w.grownBy w1 row) (hne : some b ≠ row) : MapIs P k q w1 b n f := by
  obtain ⟨D, h, hf⟩ := h
  exact ⟨D, h.kept hg hne, hf⟩
theorem MapIs.same (h : MapIs P k q w b n f) (hb : w1.heap[b]? = w.heap[b]?) : MapIs P k q w1 b n f := by
  obtain ⟨D, ⟨es, clock, hb0, r⟩, hf⟩ := h
  exact ⟨D, ⟨es, clock, hb.trans hb0, r⟩, hf⟩
theorem MapIs.below (h : MapIs P k q w b n f) (hb : Below w.heap.size w w1) : MapIs P k q w1 b n f := h.same (hb.block b h.lt)
theorem MapIs.alloc (h : MapIs P k q w b n f) (o : Obj) : MapIs P k q (w.alloc o) b n f := h.below (below_alloc (Below.refl _ _) o)
theorem MapIs.drew (h : MapIs P k q w b n f) : MapIs P k q w.drew b n f := h
theorem MapIs.drewN (h : MapIs P k q w b n f) (m : Nat) : MapIs P k q (w.drewN m) b n f := h.same rfl
theorem MapIs.setCell (h : MapIs P k q w b n f) {p : Addr} (hp : b ≠ p.block) (u : Value) : MapIs P k q (w.setCell p u) b n f := h.same (Below.heap_setCell w p u b hp)
theorem MapIs.congr {f' : Int → Option Value} (h : MapIs P k q w b n f) (hf : ∀ x, f x = f' x) : MapIs P k q w b n f' := by
  obtain rfl : f = f' := funext hf
  exact h
theorem MapIs.mono (h : MapIs P k q w b n f) {m : Nat} (hm : n ≤ m) : MapIs P k q w b m f := by
  obtain ⟨D, h, hf⟩ := h
  exact ⟨D, h.mono hm, hf⟩
theorem MapIs.ne (h : MapIs P k q w b n f) {g : Nat} {cs : Array Value} {t : TypeId} {fr : Nat × Nat} (hg : w.heap[g]? = some (.cells cs t fr)) : b ≠ g := by
  obtain ⟨D, ⟨es, clock, hb, _⟩, _⟩ := h
  rintro rfl
  rw [hb] at hg
  cases hg
theorem MapIs.look {t e : TypeId} (h : MapIs P k q w b n f) (hk : P.underlying k = some (.int q)) (ht : P.underlying t = some (.map k e)) {z : Value} (hz : (zeroValue e).run P w = .ok z w) {a : Int} (ha : (Lit.int q a).wf = true) :
    (Instr.lookup t (.map (some b)) (.int q a) false).run P w = .ok ((f a).getD z) w := by
  obtain ⟨D, h, hf⟩ := h
  obtain ⟨v, ps, hrun, hv⟩ := h.lookup (Maps.int_keyed hk) ht hz (R := rawR) rfl (Maps.keyOf_int_mk hk ha)
  rw [(hf a).2 z] at hv
  simp only [rawR, Option.some.injEq, Prod.mk.injEq, DataW.held.injEq] at hv
  rw [hrun, hv.1]
theorem MapIs.lookOk {t e : TypeId} (h : MapIs P k q w b n f) (hk : P.underlying k = some (.int q)) (ht : P.underlying t = some (.map k e)) {z : Value} (hz : (zeroValue e).run P w = .ok z w) {a : Int} (ha : (Lit.int q a).wf = true) :
    (Instr.lookup t (.map (some b)) (.int q a) true).run P w = .ok (.tuple #[(f a).getD z, .bool (f a).isSome]) w := by
  obtain ⟨D, h, hf⟩ := h
  obtain ⟨v, ps, hrun, hv⟩ := h.look_ok (Maps.int_keyed hk) ht hz (R := rawR) rfl (Maps.keyOf_int_mk hk ha)
  rw [(hf a).2 z] at hv
  simp only [rawR, Option.some.injEq, Prod.mk.injEq, DataW.held.injEq] at hv
  rw [hrun, hv.1, (hf a).1]
theorem MapIs.put {t e : TypeId} (h : MapIs P k q w b n f) (hk : P.underlying k = some (.int q)) (ht : P.underlying t = some (.map k e)) (hn : n < maxLen) {a : Int} (ha : (Lit.int q a).wf = true) (v : Value) :
    ∃ w1, (Instr.mapUpdate t (.map (some b)) (.int q a) v).run P w = .ok () w1 ∧ MapIs P k q w1 b (n + 1) (fun x => if x = a then some v else f x) ∧ w.grownBy w1 (some b) := by
  obtain ⟨D, h, hf⟩ := h
  have hm := h.isMap
  obtain ⟨w1, hrun, h1, hg⟩ := h.update (Maps.int_keyed hk) ht hn (R := rawR) (Maps.keyOf_int_mk hk ha) (val := v) rfl
  refine ⟨w1, hrun, ⟨_, h1, fun x => ?_⟩, hg⟩
  show Maps.has _ _ = (if x = a then some v else f x).isSome ∧ ∀ z, DataW.atKey _ _ _ = .held ((if x = a then some v else f x).getD z)
  by_cases hx : x = a
  · subst hx
    rw [if_pos rfl]
    exact ⟨Maps.has_put_same hm (show WideAt.IsKeyLit (.int q x) from trivial) _, fun z => Maps.atKey_put_same hm (show WideAt.IsKeyLit (.int q x) from trivial) _ _⟩
  rw [if_neg hx]
  have hne : Lit.int q x ≠ Lit.int q a := fun e => hx (by injection e)
  exact ⟨(Maps.has_put_other hne _).trans (hf x).1, fun z => (Maps.atKey_put_other hne _ _).trans ((hf x).2 z)⟩
end
section
variable {P : Program} {ops : Array Oper} {rest : List Oper} {o : Oper} {a : Act} {Q : Exit → Act → World → Prop} {W : World} {k e t : TypeId} {q : IntKind} {b n : Nat} {f : Int → Option Value}
theorem map_look (N : Tmp) (hd : o.dst = some N) (hg : o.guard = none) {m x : Operand} (hop : o.op = Op.lookup t m x false) (hk : P.underlying k = some (.int q)) (ht : P.underlying t = some (.map k e)) {z : Value} (hz : ∀ w, (zeroValue e).run P w = .ok z w)
    (h : MapIs P k q W b n f) (hm : a.eval m = .map (some b)) (y : Int) (hx : a.eval x = .int q y) (hy : (Lit.int q y).wf = true) (v : Value) (hv : (f y).getD z = v) (hK : wpList P ops Q rest (a.put (some N) v) W) : wpList P ops Q (o :: rest) a W := by
  subst hv
  refine wpList_plain hg fun K' hK' => ?_
  have hrun := h.look hk ht (hz W) hy
  unfold Oper.wp
  simp [execOp, hop, hm, hx, hrun, Result.andThen]
  rw [← hd] at hK
  exact hK' _ _ hK
theorem map_lookOk (N : Tmp) (hd : o.dst = some N) (hg : o.guard = none) {m x : Operand} (hop : o.op = Op.lookup t m x true) (hk : P.underlying k = some (.int q)) (ht : P.underlying t = some (.map k e)) {z : Value} (hz : ∀ w, (zeroValue e).run P w = .ok z w)
    (h : MapIs P k q W b n f) (hm : a.eval m = .map (some b)) (y : Int) (hx : a.eval x = .int q y) (hy : (Lit.int q y).wf = true) (v : Value) (ok : Bool) (hv : (f y).getD z = v) (hok : (f y).isSome = ok) (hK : wpList P ops Q rest (a.put (some N) (.tuple #[v, .bool ok])) W) : wpList P ops Q (o :: rest) a W := by
  subst hv hok
  refine wpList_plain hg fun K' hK' => ?_
  have hrun := h.lookOk hk ht (hz W) hy
  unfold Oper.wp
  simp [execOp, hop, hm, hx, hrun, Result.andThen]
  rw [← hd] at hK
  exact hK' _ _ hK
theorem map_put (hg : o.guard = none) {m x y : Operand} (hop : o.op = Op.mapUpdate t m x y) (hk : P.underlying k = some (.int q)) (ht : P.underlying t = some (.map k e))
    (h : MapIs P k q W b n f) (hn : n < maxLen) (hm : a.eval m = .map (some b)) (i : Int) (hx : a.eval x = .int q i) (hi : (Lit.int q i).wf = true) (v : Value) (hv : a.eval y = v)
    (hK : ∀ w1, MapIs P k q w1 b (n + 1) (fun x => if x = i then some v else f x) → W.grownBy w1 (some b) → wpList P ops Q rest (a.put o.dst undef) w1) : wpList P ops Q (o :: rest) a W := by
  refine wpList_plain hg fun K' hK' => ?_
  obtain ⟨w1, hrun, h1, h2⟩ := h.put hk ht hn hi v
  unfold Oper.wp
  simp [execOp, hop, hm, hx, hv, hrun, Result.andThen]
  exact hK' _ _ (hK w1 h1 h2)
theorem map_make (N : Tmp) (hd : o.dst = some N) (hg : o.guard = none) (q : IntKind) (k : TypeId) (hop : o.op = Op.makeMap t none)
    (hK : ∀ gm w1, gm = W.heap.size → MapIs P k q w1 gm 0 (fun _ => none) → Below W.heap.size W w1 → wpList P ops Q rest (a.put (some N) (.map (some gm))) w1) : wpList P ops Q (o :: rest) a W := by
  refine wpList_plain hg fun K' hK' => ?_
  unfold Oper.wp
  simp [execOp, hop, run_makeMap, Result.andThen]
  rw [← hd] at hK
  exact hK' _ _ (hK _ _ rfl (MapIs.made P k q W) (below_alloc (Below.refl _ _) _))
end
end Go.Proofs.Ytehkhbnhmehobaa.P
namespace Go.Proofs.Ytehkhbnhmehobaa.P
open Go.RowKit Go.Proofs.YtehkhbnhmehobaaW.PrintWords Go.Proofs.YtehkhbnhmehobaaW.PrintLast Go.Proofs.YtehkhbnhmehobaaW.PrintMore
attribute [local go_sem] max2_int min2_int max_two min_two max_three min_three max_four min_four
set_option linter.unusedVariables false
set_option linter.unusedSimpArgs false
def slices_Index_int64_int64.l0 : Nat → List Int → Int → Int → Int → Option (Int)
 | 0, _, _, _, _ => none
 | k + 1, x0, x1, x7, x8 => if x8 < x7 then (if 0 ≤ x8 then (if x8 < (x0.length : Int) then (if x1 = (rd x0 x8) then (some x8) else (slices_Index_int64_int64.l0 k x0 x1 x7 (wrap64 (x8 + 1)))) else (none)) else (none)) else (some (-1))
def slices_Index_int64_int64.f (k : Nat) (l0 : List Int) (a1 : Int) : Option (Int) := slices_Index_int64_int64.l0 k l0 a1 (l0.length : Int) 0
set_option maxHeartbeats 8000000 in
set_option maxRecDepth 100000 in
theorem slices_Index_int64_int64.calls (k : Nat) (A0 : Option Addr) (c0 : Nat) (l0 : List Int) (a1 : Int) (r : Int) (w : World) (hr0 : Kd.C (Kd.int .i64) w A0 l0.length l0) (hc0 : l0.length ≤ c0) (h : slices_Index_int64_int64.f k l0 a1 = some r) :
  Calls Try.prog 109 #[.slice A0 l0.length c0, .int .i64 a1] w fun e w' => e = .returned (.int .i64 r) ∧ Drawn0 w w' := by
 have HR0 := Aside0.mk hr0
 have HC0 := Aside0.mk hc0
 clear hr0 hc0
 have H : (slices_Index_int64_int64.l0 k l0 a1 (l0.length : Int) 0) = some r := h
 clear h
 have H' := Aside0.mk H
 clear H
 go_enter Try.func109, Try.ntmps109
 go_wp2
 go_loopg [8] k (fun kq v8 w' => ∃ (x8_1 : Int), v8 = .int .i64 x8_1 ∧ Aside0 (slices_Index_int64_int64.l0 kq l0 a1 (l0.length : Int) x8_1 = some r) ∧ Aside0 (kq ≤ k) ∧ Drawn0 w w')
 case atStart => exact ⟨(0), yS, H', ⟨Nat.le_refl _⟩, by repeat (first | exact Drawn0.refl _ | apply Drawn0.step)⟩
 case round =>
  clear H'
  try clear c1
  try clear p2
  obtain ⟨x8_1, rfl, HA, HK1, ⟨m1, rfl⟩⟩ := hrel
  cases gk with
  | zero => exact absurd HA.out (by simp [slices_Index_int64_int64.l0])
  | succ k1 =>
   have H := HA.out
   clear HA
   simp only [slices_Index_int64_int64.l0] at H
   by_cases c3 : x8_1 < (l0.length : Int)
   ·rw [if_pos c3] at H
    have c3b0 := decide_eq_true c3
    clear c3
    by_cases c4 : 0 ≤ x8_1
    ·rw [if_pos c4] at H
     have c4b0 := decide_eq_true c4
     clear c4
     by_cases c5 : x8_1 < (l0.length : Int)
     ·rw [if_pos c5] at H
      have c5b0 := decide_eq_true c5
      clear c5
      by_cases c6 : a1 = (rd l0 x8_1)
      ·rw [if_pos c6] at H
       have c6b0 : (a1 == (rd l0 x8_1)) = true := beq_iff_eq.mpr c6
       have c6b1 : (a1 != (rd l0 x8_1)) = false := bne_eq_false_iff_eq.mpr c6
       clear c6
       obtain rfl := Option.some.inj H
       have p359 : 0 ≤ (x8_1 : Int) := yD
       have q359 : x8_1 < (l0.length : Int) := yD
       obtain ⟨ad359, e359, hx359_0⟩ := Kd.at_int HR0.out x8_1 p359 q359
       cases e359
       replace p359 := eq_true p359
       replace q359 := eq_true q359
       go_wp2
       go_ret
       exact ⟨by first | rfl | (simp; done) | (simp [*]; done), by repeat (first | exact Drawn0.refl _ | apply Drawn0.step)⟩
      rw [if_neg c6] at H
      have c6b0 : (a1 == (rd l0 x8_1)) = false := beq_eq_false_iff_ne.mpr c6
      have c6b1 : (a1 != (rd l0 x8_1)) = true := bne_iff_ne.mpr c6
      have H' := Aside0.mk H
      clear H
      have p359 : 0 ≤ (x8_1 : Int) := yD
      have q359 : x8_1 < (l0.length : Int) := yD
      obtain ⟨ad359, e359, hx359_0⟩ := Kd.at_int HR0.out x8_1 p359 q359
      cases e359
      replace p359 := eq_true p359
      replace q359 := eq_true q359
      go_wp2
      go_roundg k1
      case measure => have := HK1.out; omega
      case rel => exact ⟨(wrap64 (x8_1 + 1)), yS, H', ⟨by have := HK1.out; omega⟩, by repeat (first | exact Drawn0.refl _ | apply Drawn0.step)⟩
     rw [if_neg c5] at H
     exact absurd H (by simp)
    rw [if_neg c4] at H
    exact absurd H (by simp)
   rw [if_neg c3] at H
   have c3b0 := decide_eq_false c3
   clear c3
   obtain rfl := Option.some.inj H
   go_wp2
   go_ret
   exact ⟨by first | rfl | (simp; done) | (simp [*]; done), by repeat (first | exact Drawn0.refl _ | apply Drawn0.step)⟩
def slices_Contains_int64_int64.f (k : Nat) (l0 : List Int) (a1 : Int) : Option (Bool) := (slices_Index_int64_int64.f k l0 a1).bind fun t360 => (some (decide (t360 ≥ 0)))
set_option maxHeartbeats 8000000 in
set_option maxRecDepth 100000 in
theorem slices_Contains_int64_int64.calls (k : Nat) (A0 : Option Addr) (c0 : Nat) (l0 : List Int) (a1 : Int) (r : Bool) (w : World) (hr0 : Kd.C (Kd.int .i64) w A0 l0.length l0) (hc0 : l0.length ≤ c0) (h : slices_Contains_int64_int64.f k l0 a1 = some r) :
  Calls Try.prog 92 #[.slice A0 l0.length c0, .int .i64 a1] w fun e w' => e = .returned (.bool r) ∧ Drawn0 w w' := by
 have HR0 := Aside0.mk hr0
 have HC0 := Aside0.mk hc0
 clear hr0 hc0
 have H : ((slices_Index_int64_int64.f k l0 a1).bind fun t360 => (some (decide (t360 ≥ 0)))) = some r := h
 clear h
 replace H := Option.bind_eq_some_iff.mp H
 obtain ⟨t360, A30, H⟩ := H
 have A3 := Aside0.mk A30
 clear A30
 obtain rfl := Option.some.inj H
 go_enter Try.func92, Try.ntmps92
 go_wp2_with (first | ((with_reducible refine gate_callee (f := 109) rfl ?_); refine goesL_ (some 7) rfl rfl Try.func109 (by kernel_rfl) rfl #[.slice A0 l0.length c0, .int .i64 a1] rfl yQ ?_; (with_reducible refine (slices_Index_int64_int64.calls k _ _ l0 a1 t360 _ ?side1 ?side2 A3.out).mono ?_); (case side1 => repeat (first | exact HR0.out | (with_reducible refine Kd.C_alloc ?_ _) | (with_reducible refine Kd.C_drewN ?_ _) | (with_reducible refine Kd.C_drew ?_))); (case side2 => exact HC0.out); rintro e w' ⟨rfl, ⟨nd, rfl⟩⟩; refine ⟨_, rfl, ?_⟩))
 go_ret
 exact ⟨by first | rfl | (simp; done) | (simp [*]; done), by repeat (first | exact Drawn0.refl _ | apply Drawn0.step)⟩
def block_Codes.l0 : Nat → Int → List Int → List (S78) → Int → Int → Option (List Int)
 | 0, _, _, _, _, _ => none
 | k + 1, x1, x5, x9, x10, x11 => if x11 < x10 then (if 0 ≤ x11 then (if x11 < (x9.length : Int) then (if ((rd_T78 x9 x11).f0) = x1 then (if x5.length < 17592186044416 then (block_Codes.l0 k x1 (x5 ++ [(rd_T78 x9 x11).f1]) x9 x10 (wrap64 (x11 + 1))) else (none)) else (block_Codes.l0 k x1 x5 x9 x10 (wrap64 (x11 + 1)))) else (none)) else (none)) else (some x5)
def block_Codes.f (k : Nat) (a0_0 : Bool) (l0_1 : List (S78)) (a0_2 : ByteArray) (a1 : Int) : Option (List Int) := block_Codes.l0 k a1 ([] : List Int) l0_1 (l0_1.length : Int) 0
set_option maxHeartbeats 8000000 in
set_option maxRecDepth 100000 in
theorem block_Codes.calls (k : Nat) (a0_0 : Bool) (A0_1 : Option Addr) (c0_1 : Nat) (l0_1 : List (S78)) (a0_2 : ByteArray) (a1 : Int) (r : List Int) (w : World) (hr0_1 : Kd.C k78 w A0_1 l0_1.length l0_1) (hc0_1 : l0_1.length ≤ c0_1) (h : block_Codes.f k a0_0 l0_1 a0_2 a1 = some r) :
  Calls Try.prog 93 #[.agg #[.bool a0_0, .slice A0_1 l0_1.length c0_1, .string a0_2], .int .u8 a1] w fun e w' => ∃ v0_ : Value, e = .returned (v0_) ∧ Kd.R (Kd.int .i64) 2 w' w.heap.size (fun _ => True) v0_ r ∧ Below w.heap.size w w' := by
 have hu32 := Try.underlying32
 have hu78 := Try.underlying78
 have HR0_1 := Aside0.mk hr0_1
 have HC0_1 := Aside0.mk hc0_1
 clear hr0_1 hc0_1
 have HB := Aside0.mk (Below.refl w.heap.size w)
 have H : (block_Codes.l0 k a1 ([] : List Int) l0_1 (l0_1.length : Int) 0) = some r := h
 clear h
 have H' := Aside0.mk H
 clear H
 go_enter Try.func93, Try.ntmps93
 go_wp2_with (first | ((with_reducible refine gate_dst (N := 2) rfl ?_); refine yX 2 #[.bool a0_0, .slice A0_1 l0_1.length c0_1, .string a0_2] 32 ?_; intro gb361 hg w3 hbox hb; have BK361 := Aside0.mk (hbox); have GE361 := Aside0.mk ((yG hg : w.heap.size ≤ gb361)); replace HB := Aside0.mk (below_step yB hb); clear hb hbox hg; have hcz4_0 := yZ0 BK361.out; have hcz4_1 := yZ1 BK361.out; have hcz4_2 := yZ2 BK361.out; have hfz4_0 := blk_frozen BK361.out 0; have hfz4_1 := blk_frozen BK361.out 1; have hfz4_2 := blk_frozen BK361.out 2))
 go_loopg [5, 11] k (fun kq v5 v11 w' => ∃ (x5_1 : List Int) (x11_1 : Int), v11 = .int .i64 x11_1 ∧ Aside0 (block_Codes.l0 kq a1 x5_1 l0_1 (l0_1.length : Int) x11_1 = some r) ∧ Aside0 (kq ≤ k) ∧ Aside0 (Kd.R (Kd.int .i64) 2 w' w.heap.size (fun _ => True) v5 x5_1) ∧ Aside0 (w'.heap[gb361]? = some (.cells #[.bool a0_0, (.slice A0_1 l0_1.length c0_1), .string a0_2] 32 (0, 0))) ∧ Aside0 (Below w.heap.size w w'))
 case atStart => exact ⟨(([] : List Int)), (0), yS, H', ⟨Nat.le_refl _⟩, ⟨by first | exact Kd.R_nil _ _ _ _ _ | exact Kd.N_nil _ _ _ _ _ | exact Kd.V_nil _ _ _ _ _ | exact Kd.Q_nil _ _ _ _ _ | exact Kd.S_nil _ _ _ _ _⟩, ⟨by refine yH ?_; exact BK361.out⟩, ⟨yB⟩⟩
 case round =>
  clear H'
  try clear p2
  try clear hcz4_0
  try clear hcz4_1
  try clear hcz4_2
  try clear hfz4_0
  try clear hfz4_1
  try clear hfz4_2
  obtain ⟨x5_1, x11_1, rfl, HA, HK1, HO_5, BK361, HB⟩ := hrel
  cases gk with
  | zero => exact absurd HA.out (by simp [block_Codes.l0])
  | succ k1 =>
   have H := HA.out
   clear HA
   simp only [block_Codes.l0] at H
   by_cases c5 : x11_1 < (l0_1.length : Int)
   ·rw [if_pos c5] at H
    have c5b0 := decide_eq_true c5
    clear c5
    by_cases c6 : 0 ≤ x11_1
    ·rw [if_pos c6] at H
     have c6b0 := decide_eq_true c6
     clear c6
     by_cases c7 : x11_1 < (l0_1.length : Int)
     ·rw [if_pos c7] at H
      have c7b0 := decide_eq_true c7
      clear c7
      by_cases c8 : ((rd_T78 l0_1 x11_1).f0) = a1
      ·rw [if_pos c8] at H
       have c8b0 : (((rd_T78 l0_1 x11_1).f0) == a1) = true := beq_iff_eq.mpr c8
       have c8b1 : (((rd_T78 l0_1 x11_1).f0) != a1) = false := bne_eq_false_iff_eq.mpr c8
       clear c8
       by_cases c9 : x5_1.length < 17592186044416
       ·rw [if_pos c9] at H
        have LMc9 := Aside0.mk c9
        clear c9
        obtain ⟨y364, hy364⟩ : ∃ y_ : List Int, y_ = (x5_1 ++ [(rd_T78 l0_1 x11_1).f1]) := ⟨_, rfl⟩
        replace H : (block_Codes.l0 k1 a1 y364 l0_1 (l0_1.length : Int) (wrap64 (x11_1 + 1))) = some r := by first | (rw [hy364]; with_reducible exact H) | (have H2_ := (Option.bind_some _ _).symm.trans H; rw [hy364]; with_reducible exact H2_) | (have H2_ := (Option.bind_some _ _).symm.trans H; with_reducible exact H2_) | with_reducible exact H | (rw [hy364]; exact H) | exact H
        have Ny364 := Aside0.mk hy364
        clear hy364
        have H' := Aside0.mk H
        clear H
        have p362 : 0 ≤ (x11_1 : Int) := yD
        have q362 : x11_1 < (l0_1.length : Int) := yD
        obtain ⟨ad362, e362, hx362_0, hx362_1⟩ := at_T78 HR0_1.out x11_1 p362 q362
        cases e362
        replace hx362_0 := yM HB.out hx362_0
        replace hx362_1 := yM HB.out hx362_1
        replace p362 := eq_true p362
        replace q362 := eq_true q362
        go_wp2_with (first | ((with_reducible refine gate_dst (N := 7) rfl ?_); refine yX 7 #[.int .u8 0, .int .i64 0] 78 ?_; intro gb363 hg w10 hbox hb; replace HO_5 := Aside0.mk (Kd.R_below (yR HO_5.out) hb); have BK363 := Aside0.mk (hbox); have GW363 := Aside0.mk ((yG hg : w.heap.size ≤ gb363)); have GE363 := Aside0.mk ((yG hg : w.heap.size ≤ gb363)); replace HB := Aside0.mk (below_step yB hb); have NB361_363 := Aside0.mk ((yJ hg yK : gb361 ≠ gb363)); have NB363_361 := Aside0.mk ((yI hg yK : gb363 ≠ gb361)); replace BK361 := Aside0.mk (blk_below (g := gb361) yK hb); clear hb hbox hg; have hnb11 := NB363_361.out; have hnc11 := NB361_363.out; have hcz12_0 := yZ0 BK363.out; have hcz12_1 := yZ1 BK363.out; have hfz12_0 := blk_frozen BK363.out 0; have hfz12_1 := blk_frozen BK363.out 1) | ((with_reducible refine gate_builtin (b := .append) (xs := #[.tmp 19, .tmp 22]) rfl ?_); at_builtin; refine Kd.R_append (Kd.int .i64) (w0 := w) w.heap.size rfl (.tmp 19) (.tmp 22) 91 2 (.int .i64 0) 8 rfl Try.underlying91 info2 rfl (by decide) (by omega) u5 x5_1 ((rd_T78 l0_1 x11_1).f1) [.int .i64 ((rd_T78 l0_1 x11_1).f1)] (fun _ => True) (fun _ => False) rfl (by first | (go_simp; done) | (go_simp; rfl)) ?aP (fun _ hk => hk.elim) ?aF ?aO ?aB ?aS ?aL ?_; (case aP => exact rfl); (case aB => exact yB); (case aF => exact (fun _ _ => trivial)); (case aO => exact (yR (Kd.R_mono (Kd.R_far (p := ⟨gb363, 1, none⟩) (Kd.R_far (p := ⟨gb363, 0, none⟩) (Kd.R_types HO_5.out BK363.out (by decide)) (fun _ hk => hk.2) (.int .u8 ((rd_T78 l0_1 x11_1).f0))) (fun _ hk => hk.2) (.int .i64 ((rd_T78 l0_1 x11_1).f1))) (fun _ hk => trivial)))); (case aS => exact (below_size yB)); (case aL => have := LMc9.out; omega); intro v365 w13 ho hb hg hat; rw [← Ny364.out] at ho; have n0_ := Aside0.mk (blk_grown (g := gb361) (o := .cells #[.bool a0_0, .slice (some ad362) l0_1.length c0_1, .string a0_2] 32 (0, 0)) (by refine yH ?_; refine blk_far ?_ NB361_363.out _; refine yH ?_; refine blk_far ?_ NB361_363.out _; refine yH ?_; exact BK361.out) hg (Kd.R_ne HO_5.out BK361.out (by decide))); have n1_ := Aside0.mk (blk_grown (g := gb363) (o := .cells #[.int .u8 ((rd_T78 l0_1 x11_1).f0), .int .i64 ((rd_T78 l0_1 x11_1).f1)] 78 (0, 0)) (by refine yH ?_; refine blk_put (cs := #[.int .u8 ((rd_T78 l0_1 x11_1).f0), .int .i64 0]) ?_ 1 _ rfl; refine yH ?_; refine blk_put (cs := #[.int .u8 0, .int .i64 0]) ?_ 0 _ rfl; refine yH ?_; exact BK363.out) hg (Kd.R_ne HO_5.out BK363.out (by decide))); have n2_ := Aside0.mk (hb); have n3_ := Aside0.mk (ho); clear BK361; clear BK363; clear HB; clear HO_5; have BK361 := n0_; have BK363 := n1_; have HB := n2_; have HO366 := n3_; clear n0_ n1_ n2_ n3_; clear ho hb hg hat))
        go_roundg k1
        case measure => have := HK1.out; omega
        case rel => exact ⟨(y364), (wrap64 (x11_1 + 1)), yS, H', ⟨by have := HK1.out; omega⟩, ⟨by refine yR ?_; exact HO366.out⟩, ⟨by refine yH ?_; exact BK361.out⟩, ⟨yB⟩⟩
       rw [if_neg c9] at H
       exact absurd H (by simp)
      rw [if_neg c8] at H
      have c8b0 : (((rd_T78 l0_1 x11_1).f0) == a1) = false := beq_eq_false_iff_ne.mpr c8
      have c8b1 : (((rd_T78 l0_1 x11_1).f0) != a1) = true := bne_iff_ne.mpr c8
      have H' := Aside0.mk H
      clear H
      have p362 : 0 ≤ (x11_1 : Int) := yD
      have q362 : x11_1 < (l0_1.length : Int) := yD
      obtain ⟨ad362, e362, hx362_0, hx362_1⟩ := at_T78 HR0_1.out x11_1 p362 q362
      cases e362
      replace hx362_0 := yM HB.out hx362_0
      replace hx362_1 := yM HB.out hx362_1
      replace p362 := eq_true p362
      replace q362 := eq_true q362
      go_wp2_with (first | ((with_reducible refine gate_dst (N := 7) rfl ?_); refine yX 7 #[.int .u8 0, .int .i64 0] 78 ?_; intro gb363 hg w14 hbox hb; replace HO_5 := Aside0.mk (Kd.R_below (yR HO_5.out) hb); have BK363 := Aside0.mk (hbox); have GW363 := Aside0.mk ((yG hg : w.heap.size ≤ gb363)); have GE363 := Aside0.mk ((yG hg : w.heap.size ≤ gb363)); replace HB := Aside0.mk (below_step yB hb); have NB361_363 := Aside0.mk ((yJ hg yK : gb361 ≠ gb363)); have NB363_361 := Aside0.mk ((yI hg yK : gb363 ≠ gb361)); replace BK361 := Aside0.mk (blk_below (g := gb361) yK hb); clear hb hbox hg; have hnb15 := NB363_361.out; have hnc15 := NB361_363.out; have hcz16_0 := yZ0 BK363.out; have hcz16_1 := yZ1 BK363.out; have hfz16_0 := blk_frozen BK363.out 0; have hfz16_1 := blk_frozen BK363.out 1))
      go_roundg k1
      case measure => have := HK1.out; omega
      case rel => exact ⟨(x5_1), (wrap64 (x11_1 + 1)), yS, H', ⟨by have := HK1.out; omega⟩, ⟨by refine yR ?_; exact Kd.R_mono (Kd.R_far (p := ⟨gb363, 1, none⟩) (Kd.R_far (p := ⟨gb363, 0, none⟩) (Kd.R_types HO_5.out BK363.out (by decide)) (fun _ hk => hk.2) (.int .u8 ((rd_T78 l0_1 x11_1).f0))) (fun _ hk => hk.2) (.int .i64 ((rd_T78 l0_1 x11_1).f1))) (fun _ hk => trivial)⟩, ⟨by refine yH ?_; refine blk_far ?_ NB361_363.out _; refine yH ?_; refine blk_far ?_ NB361_363.out _; refine yH ?_; exact BK361.out⟩, ⟨yB⟩⟩
     rw [if_neg c7] at H
     exact absurd H (by simp)
    rw [if_neg c6] at H
    exact absurd H (by simp)
   rw [if_neg c5] at H
   have c5b0 := decide_eq_false c5
   clear c5
   obtain rfl := Option.some.inj H
   go_wp2
   go_ret
   exact ⟨_, yE, by refine yR ?_; exact HO_5.out, yB⟩
def subprogram_has.f (k : Nat) (a0_0 : Bool) (l0_1 : List (S78)) (a0_2 : ByteArray) (a1 : Int) (a2 : Int) : Option (Bool) := (block_Codes.f k a0_0 l0_1 a0_2 a1).bind fun t368 => ((slices_Contains_int64_int64.f k t368 a2).bind fun t371 => (some t371))
set_option maxHeartbeats 8000000 in
set_option maxRecDepth 100000 in
theorem subprogram_has.calls (k : Nat) (a0_0 : Bool) (A0_1 : Option Addr) (c0_1 : Nat) (l0_1 : List (S78)) (a0_2 : ByteArray) (a1 : Int) (a2 : Int) (r : Bool) (w : World) (hr0_1 : Kd.C k78 w A0_1 l0_1.length l0_1) (hc0_1 : l0_1.length ≤ c0_1) (h : subprogram_has.f k a0_0 l0_1 a0_2 a1 a2 = some r) :
  Calls Try.prog 58 #[.agg #[.bool a0_0, .slice A0_1 l0_1.length c0_1, .string a0_2], .int .u8 a1, .int .i64 a2] w fun e w' => e = .returned (.bool r) ∧ Below w.heap.size w w' := by
 have hu32 := Try.underlying32
 have HR0_1 := Aside0.mk hr0_1
 have HC0_1 := Aside0.mk hc0_1
 clear hr0_1 hc0_1
 have HB := Aside0.mk (Below.refl w.heap.size w)
 have H : ((block_Codes.f k a0_0 l0_1 a0_2 a1).bind fun t368 => ((slices_Contains_int64_int64.f k t368 a2).bind fun t371 => (some t371))) = some r := h
 clear h
 replace H := Option.bind_eq_some_iff.mp H
 obtain ⟨t368, A40, H⟩ := H
 have A4 := Aside0.mk A40
 clear A40
 replace H := Option.bind_eq_some_iff.mp H
 obtain ⟨t371, A50, H⟩ := H
 have A5 := Aside0.mk A50
 clear A50
 obtain rfl := Option.some.inj H
 go_enter Try.func58, Try.ntmps58
 go_wp2_with (first | ((with_reducible refine gate_dst (N := 3) rfl ?_); refine yX 3 #[.bool a0_0, .slice A0_1 l0_1.length c0_1, .string a0_2] 32 ?_; intro gb367 hg w6 hbox hb; have BK367 := Aside0.mk (hbox); have GE367 := Aside0.mk ((yG hg : w.heap.size ≤ gb367)); replace HB := Aside0.mk (below_step yB hb); clear hb hbox hg; have hcz7_0 := yZ0 BK367.out; have hcz7_1 := yZ1 BK367.out; have hcz7_2 := yZ2 BK367.out; have hfz7_0 := blk_frozen BK367.out 0; have hfz7_1 := blk_frozen BK367.out 1; have hfz7_2 := blk_frozen BK367.out 2) | ((with_reducible refine gate_callee (f := 93) rfl ?_); refine goesL_ (some 9) rfl rfl Try.func93 (by kernel_rfl) rfl #[.agg #[.bool a0_0, .slice A0_1 l0_1.length c0_1, .string a0_2], .int .u8 a1] rfl yQ ?_; (with_reducible refine (block_Codes.calls k a0_0 _ _ l0_1 a0_2 a1 t368 _ ?side1 ?side2 A4.out).mono ?_); (case side1 => exact yC HR0_1.out); (case side2 => exact HC0_1.out); rintro e w8 ⟨v369, rfl, ho0, hb⟩; refine ⟨_, rfl, ?_⟩; have HO370 := Aside0.mk (Kd.R_lower ho0 (below_size yB)); replace BK367 := Aside0.mk (blk_below (g := gb367) yK hb); replace HB := Aside0.mk (below_step yB hb); (try clear hb); (try clear ho0); obtain ⟨Ao9, co9, eo9⟩ := Kd.R_slice HO370.out; subst eo9) | ((with_reducible refine gate_callee (f := 92) rfl ?_); refine goesL_ (some 11) rfl rfl Try.func92 (by kernel_rfl) rfl #[.slice Ao9 t368.length co9, .int .i64 a2] rfl yQ ?_; (with_reducible refine (slices_Contains_int64_int64.calls k _ _ t368 a2 t371 _ ?side1 ?side2 A5.out).mono ?_); (case side1 => repeat (first | exact (Kd.R_reads' HO370.out).2.2 | (with_reducible refine Kd.C_alloc ?_ _) | (with_reducible refine Kd.C_drewN ?_ _) | (with_reducible refine Kd.C_drew ?_))); (case side2 => exact (Kd.R_reads' HO370.out).2.1); rintro e w' ⟨rfl, ⟨nd, rfl⟩⟩; refine ⟨_, rfl, ?_⟩))
 go_ret
 exact ⟨yE, yB⟩
def subprogram_whole.f (a0 : Int) : Option (Int × Bool) := if (Int.tmod a0 1000) = 0 then (if (wrap64 (Int.tdiv a0 1000)) ≥ 1 then (some (wrap64 (Int.tdiv a0 1000), decide ((wrap64 (Int.tdiv a0 1000)) ≤ 9999))) else (some (wrap64 (Int.tdiv a0 1000), false))) else (some (wrap64 (Int.tdiv a0 1000), false))
set_option maxHeartbeats 8000000 in
set_option maxRecDepth 100000 in
theorem subprogram_whole.calls (a0 : Int) (r1 : Int) (r2 : Bool) (w : World) (h : subprogram_whole.f a0 = some (r1, r2)) :
  Calls Try.prog 59 #[.int .i64 a0] w fun e w' => e = .returned (.tuple #[.int .i64 r1, .bool r2]) ∧ Drawn0 w w' := by
 have H : (if (Int.tmod a0 1000) = 0 then (if (wrap64 (Int.tdiv a0 1000)) ≥ 1 then (some (wrap64 (Int.tdiv a0 1000), decide ((wrap64 (Int.tdiv a0 1000)) ≤ 9999))) else (some (wrap64 (Int.tdiv a0 1000), false))) else (some (wrap64 (Int.tdiv a0 1000), false))) = some (r1, r2) := h
 clear h
 by_cases c2 : (Int.tmod a0 1000) = 0
 ·rw [if_pos c2] at H
  have c2b0 : ((Int.tmod a0 1000) == 0) = true := beq_iff_eq.mpr c2
  have c2b1 : ((Int.tmod a0 1000) != 0) = false := bne_eq_false_iff_eq.mpr c2
  clear c2
  by_cases c3 : (wrap64 (Int.tdiv a0 1000)) ≥ 1
  ·rw [if_pos c3] at H
   have c3b0 := decide_eq_true c3
   clear c3
   simp only [Option.some.injEq, Prod.mk.injEq] at H
   obtain ⟨rfl, rfl⟩ := H
   go_enter Try.func59, Try.ntmps59
   go_wp2
   go_ret2
   exact ⟨by first | rfl | (simp; done) | (simp [*]; done), by repeat (first | exact Drawn0.refl _ | apply Drawn0.step)⟩
  rw [if_neg c3] at H
  have c3b0 := decide_eq_false c3
  clear c3
  simp only [Option.some.injEq, Prod.mk.injEq] at H
  obtain ⟨rfl, rfl⟩ := H
  go_enter Try.func59, Try.ntmps59
  go_wp2
  go_ret2
  exact ⟨by first | rfl | (simp; done) | (simp [*]; done), by repeat (first | exact Drawn0.refl _ | apply Drawn0.step)⟩
 rw [if_neg c2] at H
 have c2b0 : ((Int.tmod a0 1000) == 0) = false := beq_eq_false_iff_ne.mpr c2
 have c2b1 : ((Int.tmod a0 1000) != 0) = true := bne_iff_ne.mpr c2
 simp only [Option.some.injEq, Prod.mk.injEq] at H
 obtain ⟨rfl, rfl⟩ := H
 go_enter Try.func59, Try.ntmps59
 go_wp2
 go_ret2
 exact ⟨by first | rfl | (simp; done) | (simp [*]; done), by repeat (first | exact Drawn0.refl _ | apply Drawn0.step)⟩
end Go.Proofs.Ytehkhbnhmehobaa.P
namespace Go.Proofs.Ytehkhbnhmehobaa.P
open Go.RowKit Go.Proofs.YtehkhbnhmehobaaW.PrintWords Go.Proofs.YtehkhbnhmehobaaW.PrintLast Go.Proofs.YtehkhbnhmehobaaW.PrintMore
set_option linter.unusedVariables false
set_option linter.unusedSimpArgs false
def wordsW (l : List S78) : Prop := ∀ x ∈ l, 0 ≤ x.f0 ∧ x.f0 ≤ 255
instance (l : List S78) : Decidable (wordsW l) := by unfold wordsW; infer_instance
def callL : List S78 → (Int → Int) → Int → Int → Bool → Option ((Int → Int) × Int × Int × Bool)
  | [], C, n, t, ok => some (C, n, t, ok)
  | x :: l, C, n, t, ok => (subprogram_whole.f x.f1).bind fun r => callL l (fun y => if y = x.f0 then wrap64 (C y + 1) else C y) (if x.f0 = 80 then r.1 else n) (if x.f0 = 76 then r.1 else t)
      (if x.f0 = 80 ∨ x.f0 = 76 then ok && r.2 else if x.f0 = 77 ∨ x.f0 = 78 then ok else false)
def callR (r : (Int → Int) × Int × Int × Bool) : Int × Int × Bool × Int :=
  if r.2.2.2 = false then (0, 0, false, 1) else if ¬ r.1 77 = 1 then (0, 0, false, 1) else if ¬ r.1 80 = 1 then (0, 0, false, 1) else if r.1 76 > 1 then (0, 0, false, 1) else if r.1 78 > 1 then (0, 0, false, 1) else (r.2.1, r.2.2.1, true, 0)
def subprogram_Call.f (k : Nat) (a0_0 : Bool) (l0_1 : List (S78)) (a0_2 : ByteArray) : Option (Int × Int × Bool × Int) :=
  if wordsW l0_1 then (subprogram_has.f k a0_0 l0_1 a0_2 77 98000).bind fun h => if h = true then (callL l0_1 (fun _ => 0) 0 1 true).map callR else some (0, 0, false, 0) else none
theorem call_step {l : List S78} {j : Nat} (h : j < l.length) {C : Int → Int} {n t : Int} {ok : Bool} {r : (Int → Int) × Int × Int × Bool} (hr : callL (l.drop j) C n t ok = some r) :
    ∃ v b, subprogram_whole.f l[j].f1 = some (v, b) ∧ callL (l.drop (j + 1)) (fun y => if y = l[j].f0 then wrap64 (C y + 1) else C y) (if l[j].f0 = 80 then v else n) (if l[j].f0 = 76 then v else t) (if l[j].f0 = 80 ∨ l[j].f0 = 76 then ok && b else if l[j].f0 = 77 ∨ l[j].f0 = 78 then ok else false) = some r := by
  rw [List.drop_eq_getElem_cons h, callL] at hr
  obtain ⟨⟨v, b⟩, h1, h2⟩ := Option.bind_eq_some_iff.mp hr
  exact ⟨v, b, h1, h2⟩
theorem below_alloc_lt (w : World) (o : Obj) : w.heap.size < (w.alloc o).heap.size := by
  show _ < (w.heap.push o).size
  simp
theorem alloc_at (w : World) (o : Obj) : (w.alloc o).heap[w.heap.size]? = some o := by
  show (w.heap.push o)[w.heap.size]? = _
  simp
theorem cnt_put {F : Int → Option Value} {C : Int → Int} (h : ∀ y, (F y).getD (.int .i64 0) = .int .i64 (C y)) (a : Int) : ∀ y, ((if y = a then some (Value.int .i64 (wrap64 (C a + 1))) else F y).getD (.int .i64 0)) = .int .i64 ((fun y => if y = a then wrap64 (C y + 1) else C y) y) := by
  intro y
  by_cases hy : y = a
  · subst hy; simp
  simp [hy, h]
theorem zero_int3 (w : World) : (zeroValue 3).run Try.prog w = .ok (.int .i64 0) w := by kernel_rfl
set_option maxHeartbeats 4000000 in
set_option maxRecDepth 100000 in
theorem subprogram_Call.calls (k : Nat) (a0_0 : Bool) (A0_1 : Option Addr) (c0_1 : Nat) (l0_1 : List (S78)) (a0_2 : ByteArray) (r1 : Int) (r2 : Int) (r3 : Bool) (r4 : Int) (w : World) (hr0_1 : Kd.C k78 w A0_1 l0_1.length l0_1) (hc0_1 : l0_1.length ≤ c0_1) (h : subprogram_Call.f k a0_0 l0_1 a0_2 = some (r1, r2, r3, r4)) :
    Calls Try.prog 25 #[.agg #[.bool a0_0, .slice A0_1 l0_1.length c0_1, .string a0_2]] w fun e w' => e = .returned (.tuple #[.int .i64 r1, .int .i64 r2, .bool r3, .int .i64 r4]) ∧ Below w.heap.size w w' := by
  unfold subprogram_Call.f at h
  by_cases hbw : wordsW l0_1
  rotate_left
  · rw [if_neg hbw] at h; cases h
  rw [if_pos hbw] at h
  obtain ⟨hs, hs1, h⟩ := Option.bind_eq_some_iff.mp h
  have HS := Aside0.mk hs1
  have H := Aside0.mk h
  have HW := Aside0.mk hbw
  clear hbw h hs1
  have hu32 := Try.underlying32
  have hu78 := Try.underlying78
  have HR := Aside0.mk hr0_1
  have HC := Aside0.mk hc0_1
  have HM := Aside0.mk (Kd.C_max hr0_1)
  clear hr0_1 hc0_1
  cases hs with
  | false =>
    have H2 := H.out
    rw [if_neg (by decide)] at H2
    simp only [Option.some.injEq, Prod.mk.injEq] at H2
    obtain ⟨rfl, rfl, rfl, rfl⟩ := H2
    go_enter Try.func25, Try.ntmps25
    go_wp2_with (first | ((with_reducible refine gate_dst (N := 1) rfl ?_); refine yX 1 #[.bool a0_0, .slice A0_1 l0_1.length c0_1, .string a0_2] 32 ?_; intro gb hg w1 hbox hb; have HG := Aside0.mk hg; have BK := Aside0.mk hbox; have HB1 := Aside0.mk hb; clear hg hbox hb; have hz0 : w1.cell? ⟨gb, 0, none⟩ = some (.bool a0_0) := (blk_cell BK.out 0).trans rfl; have hz1 : w1.cell? ⟨gb, 1, none⟩ = some (.slice A0_1 l0_1.length c0_1) := (blk_cell BK.out 1).trans rfl; have hz2 : w1.cell? ⟨gb, 2, none⟩ = some (.string a0_2) := (blk_cell BK.out 2).trans rfl) | (go_at_call 58; (with_reducible refine (subprogram_has.calls k a0_0 _ _ l0_1 a0_2 77 98000 false _ (Kd.C_below HR.out HB1.out) HC.out HS.out).mono ?_); rintro e w2 ⟨rfl, hb2⟩; have HB2 := Aside0.mk (below_then HB1.out HB1.out.size hb2); have BK2 := Aside0.mk (blk_below BK.out hb2); clear hb2 hz0 hz1 hz2))
    refine bodyPost_ret (results_list (rs := [.tmp 2, .tmp 3, .tmp 4, .tmp 5]) rfl (by simp) (.tmp (.tmp (.tmp (.tmp .nil))))) rfl ?_
    exact ⟨rfl, HB2.out⟩
  | true =>
    have H2 := H.out
    rw [if_pos rfl] at H2
    obtain ⟨R, hR, hE⟩ := Option.map_eq_some_iff.mp H2
    have HL0 := Aside0.mk hR
    have HE := Aside0.mk hE
    clear hR hE H2 H
    go_enter Try.func25, Try.ntmps25
    go_wp2_with (first | ((with_reducible refine gate_dst (N := 1) rfl ?_); refine yX 1 #[.bool a0_0, .slice A0_1 l0_1.length c0_1, .string a0_2] 32 ?_; intro gb hg w1 hbox hb; have HG := Aside0.mk hg; have BK := Aside0.mk hbox; have HB1 := Aside0.mk hb; clear hg hbox hb; have hz0 : w1.cell? ⟨gb, 0, none⟩ = some (.bool a0_0) := (blk_cell BK.out 0).trans rfl; have hz1 : w1.cell? ⟨gb, 1, none⟩ = some (.slice A0_1 l0_1.length c0_1) := (blk_cell BK.out 1).trans rfl; have hz2 : w1.cell? ⟨gb, 2, none⟩ = some (.string a0_2) := (blk_cell BK.out 2).trans rfl) | (go_at_call 58; (with_reducible refine (subprogram_has.calls k a0_0 _ _ l0_1 a0_2 77 98000 true _ (Kd.C_below HR.out HB1.out) HC.out HS.out).mono ?_); rintro e w2 ⟨rfl, hb2⟩; have HB2 := Aside0.mk (below_then HB1.out HB1.out.size hb2); have BK2 := Aside0.mk (blk_below BK.out hb2); clear hb2 hz0 hz1 hz2) | ((with_reducible refine gate_dst (N := 17) rfl ?_); refine map_make 17 rfl rfl .u8 5 rfl ?_; intro gm w3 hgm hmm hb3; have HGM := Aside0.mk (show w.heap.size ≤ gm from by rw [hgm]; exact HB2.out.size); have HL := Aside0.mk hmm; have BK3 := Aside0.mk (blk_below BK2.out hb3); have HB3 := Aside0.mk (below_then HB2.out HB2.out.size hb3); have hz1 : w3.cell? ⟨gb, 1, none⟩ = some (.slice A0_1 l0_1.length c0_1) := (blk_cell BK3.out 1).trans rfl; clear hgm hmm hb3))
    go_loopw [21, 7, 8, 9] (fun i vn vt vo w' => ∃ (j : Nat) (C : Int → Int) (n t : Int) (ok : Bool) (F : Int → Option Value), i = .int .i64 j ∧ vn = .int .i64 n ∧ vt = .int .i64 t ∧ vo = .bool ok ∧ Aside0 (j ≤ l0_1.length) ∧ Aside0 (callL (l0_1.drop j) C n t ok = some R) ∧ Aside0 (MapIs Try.prog 5 .u8 w' gm j F) ∧ Aside0 (∀ y, (F y).getD (.int .i64 0) = .int .i64 (C y)) ∧ Aside0 (Below w.heap.size w w')) (fun i _ _ _ _ => l0_1.length - (intOf i).toNat)
    case atStart => exact ⟨0, fun _ => 0, 0, 1, true, _, rfl, rfl, rfl, rfl, ⟨Nat.zero_le _⟩, ⟨HL0.out⟩, ⟨HL.out⟩, ⟨fun _ => rfl⟩, ⟨HB3.out⟩⟩
    case round =>
      obtain ⟨j, C, n, t, ok, F, rfl, rfl, rfl, rfl, HJ, HI, HMr, HF, HBr⟩ := hrel
      clear HL HL0 hz1 BK BK2 BK3 HB2 HB3 HS HG HB1
      by_cases hlt : j < l0_1.length
      · obtain ⟨ad, e, hx0, hx1⟩ := at_T78 (Kd.C_below HR.out HBr.out) (j : Int) (by omega) (by omega)
        cases e
        have hrd : rd_T78 l0_1 (j : Int) = l0_1[j] := by simp [rd_T78, hlt]
        rw [hrd] at hx0 hx1
        have hwl := HW.out l0_1[j] (List.getElem_mem hlt)
        obtain ⟨v, b, hv, hI2⟩ := call_step hlt HI.out
        have HV := Aside0.mk hv
        have HI2 := Aside0.mk hI2
        clear hrd hv hI2
        generalize l0_1[j] = x at *
        have WFL := Aside0.mk (show (Lit.int .u8 x.f0).wf = true from WalkArith.wf_u8 (by omega))
        have NJ := Aside0.mk (show j < maxLen from by have := HM.out; unfold maxLen; omega)
        clear hwl
        simp only [Int.toNat_natCast] at hx0 hx1
        have hlt' : decide ((j : Int) < (l0_1.length : Int)) = true := by simp; omega
        by_cases c80 : x.f0 = 80
        · have t80 : (x.f0 == 80) = true := beq_iff_eq.mpr c80
          have c76 : ¬ x.f0 = 76 := by omega
          have c77 : ¬ x.f0 = 77 := by omega
          have c78 : ¬ x.f0 = 78 := by omega
          have C80 := Aside0.mk c80
          have C76 := Aside0.mk c76
          have C77 := Aside0.mk c77
          have C78 := Aside0.mk c78
          clear c80 c76 c77 c78
          cases ok with
          | true =>
            have HI3 := Aside0.mk (show callL (l0_1.drop (j + 1)) (fun y => if y = x.f0 then wrap64 (C y + 1) else C y) v t b = some R from by have h_ := HI2.out; rw [if_pos C80.out, if_neg C76.out, if_pos (Or.inl C80.out)] at h_; exact h_)
            go_wp2_with (first | ((with_reducible refine gate_dst (N := 28) rfl ?_); refine map_look 28 rfl rfl rfl Try.underlying5 Try.underlying96 zero_int3 (HMr.out.alloc _) rfl x.f0 rfl WFL.out _ (HF.out x.f0) ?_) | (refine map_put rfl rfl Try.underlying5 Try.underlying96 (HMr.out.alloc _) NJ.out rfl x.f0 rfl WFL.out (.int .i64 (wrap64 (C x.f0 + 1))) (by first | rfl | (go_simp; rfl)) ?_; intro w4 hm4 hg4; have hB : w4.heap[wr.heap.size]? = some (.cells #[.int .u8 x.f0, .int .i64 x.f1] 78 (0, 0)) := (hg4.block _ (below_alloc_lt wr _) (fun e => Nat.ne_of_gt HMr.out.lt (by injection e))).trans (alloc_at wr _); have BW := Aside0.mk hB; have HM4 := Aside0.mk hm4; have HF4 := Aside0.mk (cnt_put HF.out x.f0); have HB4 := Aside0.mk ((below_alloc HBr.out _).grown hg4 (Nat.le_trans HBr.out.size (Nat.le_of_lt (below_alloc_lt wr _))) (fun k_ e_ => by injection e_ with e_; rw [← e_]; exact HGM.out)); clear hm4 hg4 hB; have hy0 : w4.cell? ⟨wr.heap.size, 0, none⟩ = some (.int .u8 x.f0) := (blk_cell BW.out 0).trans rfl; have hy1 : w4.cell? ⟨wr.heap.size, 1, none⟩ = some (.int .i64 x.f1) := (blk_cell BW.out 1).trans rfl) | (go_at_call 59; (with_reducible refine (subprogram_whole.calls x.f1 v b _ HV.out).mono ?_); rintro e w5 ⟨rfl, hd5⟩; have hb5 := hd5.below; have BW5 := Aside0.mk (blk_below BW.out hb5); have HM5 := Aside0.mk (HM4.out.below hb5); have HB5 := Aside0.mk (below_then HB4.out HB4.out.size hb5); clear hd5 hb5 hy0 hy1; have hq0 : w5.cell? ⟨wr.heap.size, 0, none⟩ = some (.int .u8 x.f0) := (blk_cell BW5.out 0).trans rfl; have hq1 : w5.cell? ⟨wr.heap.size, 1, none⟩ = some (.int .i64 x.f1) := (blk_cell BW5.out 1).trans rfl))
            go_roundw
            case rel => exact ⟨j + 1, _, v, t, b, _, by rw [wrap_succ hlt HM.out], rfl, rfl, rfl, ⟨by omega⟩, ⟨HI3.out⟩, ⟨HM5.out⟩, ⟨HF4.out⟩, ⟨HB5.out⟩⟩
            case measure => rw [wrap_succ hlt HM.out]; simp only [intOf, Int.toNat_natCast]; omega
          | false =>
            have HI3 := Aside0.mk (show callL (l0_1.drop (j + 1)) (fun y => if y = x.f0 then wrap64 (C y + 1) else C y) v t false = some R from by have h_ := HI2.out; rw [if_pos C80.out, if_neg C76.out, if_pos (Or.inl C80.out)] at h_; exact h_)
            go_wp2_with (first | ((with_reducible refine gate_dst (N := 28) rfl ?_); refine map_look 28 rfl rfl rfl Try.underlying5 Try.underlying96 zero_int3 (HMr.out.alloc _) rfl x.f0 rfl WFL.out _ (HF.out x.f0) ?_) | (refine map_put rfl rfl Try.underlying5 Try.underlying96 (HMr.out.alloc _) NJ.out rfl x.f0 rfl WFL.out (.int .i64 (wrap64 (C x.f0 + 1))) (by first | rfl | (go_simp; rfl)) ?_; intro w4 hm4 hg4; have hB : w4.heap[wr.heap.size]? = some (.cells #[.int .u8 x.f0, .int .i64 x.f1] 78 (0, 0)) := (hg4.block _ (below_alloc_lt wr _) (fun e => Nat.ne_of_gt HMr.out.lt (by injection e))).trans (alloc_at wr _); have BW := Aside0.mk hB; have HM4 := Aside0.mk hm4; have HF4 := Aside0.mk (cnt_put HF.out x.f0); have HB4 := Aside0.mk ((below_alloc HBr.out _).grown hg4 (Nat.le_trans HBr.out.size (Nat.le_of_lt (below_alloc_lt wr _))) (fun k_ e_ => by injection e_ with e_; rw [← e_]; exact HGM.out)); clear hm4 hg4 hB; have hy0 : w4.cell? ⟨wr.heap.size, 0, none⟩ = some (.int .u8 x.f0) := (blk_cell BW.out 0).trans rfl; have hy1 : w4.cell? ⟨wr.heap.size, 1, none⟩ = some (.int .i64 x.f1) := (blk_cell BW.out 1).trans rfl) | (go_at_call 59; (with_reducible refine (subprogram_whole.calls x.f1 v b _ HV.out).mono ?_); rintro e w5 ⟨rfl, hd5⟩; have hb5 := hd5.below; have BW5 := Aside0.mk (blk_below BW.out hb5); have HM5 := Aside0.mk (HM4.out.below hb5); have HB5 := Aside0.mk (below_then HB4.out HB4.out.size hb5); clear hd5 hb5 hy0 hy1; have hq0 : w5.cell? ⟨wr.heap.size, 0, none⟩ = some (.int .u8 x.f0) := (blk_cell BW5.out 0).trans rfl; have hq1 : w5.cell? ⟨wr.heap.size, 1, none⟩ = some (.int .i64 x.f1) := (blk_cell BW5.out 1).trans rfl))
            go_roundw
            case rel => exact ⟨j + 1, _, v, t, false, _, by rw [wrap_succ hlt HM.out], rfl, rfl, rfl, ⟨by omega⟩, ⟨HI3.out⟩, ⟨HM5.out⟩, ⟨HF4.out⟩, ⟨HB5.out⟩⟩
            case measure => rw [wrap_succ hlt HM.out]; simp only [intOf, Int.toNat_natCast]; omega
        have t80 : (x.f0 == 80) = false := beq_eq_false_iff_ne.mpr c80
        by_cases c76 : x.f0 = 76
        · have t76 : (x.f0 == 76) = true := beq_iff_eq.mpr c76
          have c77 : ¬ x.f0 = 77 := by omega
          have c78 : ¬ x.f0 = 78 := by omega
          have C76 := Aside0.mk c76
          have C80 := Aside0.mk c80
          have C77 := Aside0.mk c77
          have C78 := Aside0.mk c78
          clear c80 c76 c77 c78
          cases ok with
          | true =>
            have HI3 := Aside0.mk (show callL (l0_1.drop (j + 1)) (fun y => if y = x.f0 then wrap64 (C y + 1) else C y) n v b = some R from by have h_ := HI2.out; rw [if_neg C80.out, if_pos C76.out, if_pos (Or.inr C76.out)] at h_; exact h_)
            go_wp2_with (first | ((with_reducible refine gate_dst (N := 28) rfl ?_); refine map_look 28 rfl rfl rfl Try.underlying5 Try.underlying96 zero_int3 (HMr.out.alloc _) rfl x.f0 rfl WFL.out _ (HF.out x.f0) ?_) | (refine map_put rfl rfl Try.underlying5 Try.underlying96 (HMr.out.alloc _) NJ.out rfl x.f0 rfl WFL.out (.int .i64 (wrap64 (C x.f0 + 1))) (by first | rfl | (go_simp; rfl)) ?_; intro w4 hm4 hg4; have hB : w4.heap[wr.heap.size]? = some (.cells #[.int .u8 x.f0, .int .i64 x.f1] 78 (0, 0)) := (hg4.block _ (below_alloc_lt wr _) (fun e => Nat.ne_of_gt HMr.out.lt (by injection e))).trans (alloc_at wr _); have BW := Aside0.mk hB; have HM4 := Aside0.mk hm4; have HF4 := Aside0.mk (cnt_put HF.out x.f0); have HB4 := Aside0.mk ((below_alloc HBr.out _).grown hg4 (Nat.le_trans HBr.out.size (Nat.le_of_lt (below_alloc_lt wr _))) (fun k_ e_ => by injection e_ with e_; rw [← e_]; exact HGM.out)); clear hm4 hg4 hB; have hy0 : w4.cell? ⟨wr.heap.size, 0, none⟩ = some (.int .u8 x.f0) := (blk_cell BW.out 0).trans rfl; have hy1 : w4.cell? ⟨wr.heap.size, 1, none⟩ = some (.int .i64 x.f1) := (blk_cell BW.out 1).trans rfl) | (go_at_call 59; (with_reducible refine (subprogram_whole.calls x.f1 v b _ HV.out).mono ?_); rintro e w5 ⟨rfl, hd5⟩; have hb5 := hd5.below; have BW5 := Aside0.mk (blk_below BW.out hb5); have HM5 := Aside0.mk (HM4.out.below hb5); have HB5 := Aside0.mk (below_then HB4.out HB4.out.size hb5); clear hd5 hb5 hy0 hy1; have hq0 : w5.cell? ⟨wr.heap.size, 0, none⟩ = some (.int .u8 x.f0) := (blk_cell BW5.out 0).trans rfl; have hq1 : w5.cell? ⟨wr.heap.size, 1, none⟩ = some (.int .i64 x.f1) := (blk_cell BW5.out 1).trans rfl))
            go_roundw
            case rel => exact ⟨j + 1, _, n, v, b, _, by rw [wrap_succ hlt HM.out], rfl, rfl, rfl, ⟨by omega⟩, ⟨HI3.out⟩, ⟨HM5.out⟩, ⟨HF4.out⟩, ⟨HB5.out⟩⟩
            case measure => rw [wrap_succ hlt HM.out]; simp only [intOf, Int.toNat_natCast]; omega
          | false =>
            have HI3 := Aside0.mk (show callL (l0_1.drop (j + 1)) (fun y => if y = x.f0 then wrap64 (C y + 1) else C y) n v false = some R from by have h_ := HI2.out; rw [if_neg C80.out, if_pos C76.out, if_pos (Or.inr C76.out)] at h_; exact h_)
            go_wp2_with (first | ((with_reducible refine gate_dst (N := 28) rfl ?_); refine map_look 28 rfl rfl rfl Try.underlying5 Try.underlying96 zero_int3 (HMr.out.alloc _) rfl x.f0 rfl WFL.out _ (HF.out x.f0) ?_) | (refine map_put rfl rfl Try.underlying5 Try.underlying96 (HMr.out.alloc _) NJ.out rfl x.f0 rfl WFL.out (.int .i64 (wrap64 (C x.f0 + 1))) (by first | rfl | (go_simp; rfl)) ?_; intro w4 hm4 hg4; have hB : w4.heap[wr.heap.size]? = some (.cells #[.int .u8 x.f0, .int .i64 x.f1] 78 (0, 0)) := (hg4.block _ (below_alloc_lt wr _) (fun e => Nat.ne_of_gt HMr.out.lt (by injection e))).trans (alloc_at wr _); have BW := Aside0.mk hB; have HM4 := Aside0.mk hm4; have HF4 := Aside0.mk (cnt_put HF.out x.f0); have HB4 := Aside0.mk ((below_alloc HBr.out _).grown hg4 (Nat.le_trans HBr.out.size (Nat.le_of_lt (below_alloc_lt wr _))) (fun k_ e_ => by injection e_ with e_; rw [← e_]; exact HGM.out)); clear hm4 hg4 hB; have hy0 : w4.cell? ⟨wr.heap.size, 0, none⟩ = some (.int .u8 x.f0) := (blk_cell BW.out 0).trans rfl; have hy1 : w4.cell? ⟨wr.heap.size, 1, none⟩ = some (.int .i64 x.f1) := (blk_cell BW.out 1).trans rfl) | (go_at_call 59; (with_reducible refine (subprogram_whole.calls x.f1 v b _ HV.out).mono ?_); rintro e w5 ⟨rfl, hd5⟩; have hb5 := hd5.below; have BW5 := Aside0.mk (blk_below BW.out hb5); have HM5 := Aside0.mk (HM4.out.below hb5); have HB5 := Aside0.mk (below_then HB4.out HB4.out.size hb5); clear hd5 hb5 hy0 hy1; have hq0 : w5.cell? ⟨wr.heap.size, 0, none⟩ = some (.int .u8 x.f0) := (blk_cell BW5.out 0).trans rfl; have hq1 : w5.cell? ⟨wr.heap.size, 1, none⟩ = some (.int .i64 x.f1) := (blk_cell BW5.out 1).trans rfl))
            go_roundw
            case rel => exact ⟨j + 1, _, n, v, false, _, by rw [wrap_succ hlt HM.out], rfl, rfl, rfl, ⟨by omega⟩, ⟨HI3.out⟩, ⟨HM5.out⟩, ⟨HF4.out⟩, ⟨HB5.out⟩⟩
            case measure => rw [wrap_succ hlt HM.out]; simp only [intOf, Int.toNat_natCast]; omega
        have t76 : (x.f0 == 76) = false := beq_eq_false_iff_ne.mpr c76
        by_cases c77 : x.f0 = 77
        · have t77 : (x.f0 == 77) = true := beq_iff_eq.mpr c77
          have c78 : ¬ x.f0 = 78 := by omega
          have C77 := Aside0.mk c77
          have C80 := Aside0.mk c80
          have C76 := Aside0.mk c76
          have C78 := Aside0.mk c78
          clear c80 c76 c77 c78
          have HI3 := Aside0.mk (show callL (l0_1.drop (j + 1)) (fun y => if y = x.f0 then wrap64 (C y + 1) else C y) n t ok = some R from by have h_ := HI2.out; rw [if_neg C80.out, if_neg C76.out, if_neg (fun h => h.elim C80.out C76.out), if_pos (Or.inl C77.out)] at h_; exact h_)
          go_wp2_with (first | ((with_reducible refine gate_dst (N := 28) rfl ?_); refine map_look 28 rfl rfl rfl Try.underlying5 Try.underlying96 zero_int3 (HMr.out.alloc _) rfl x.f0 rfl WFL.out _ (HF.out x.f0) ?_) | (refine map_put rfl rfl Try.underlying5 Try.underlying96 (HMr.out.alloc _) NJ.out rfl x.f0 rfl WFL.out (.int .i64 (wrap64 (C x.f0 + 1))) (by first | rfl | (go_simp; rfl)) ?_; intro w4 hm4 hg4; have hB : w4.heap[wr.heap.size]? = some (.cells #[.int .u8 x.f0, .int .i64 x.f1] 78 (0, 0)) := (hg4.block _ (below_alloc_lt wr _) (fun e => Nat.ne_of_gt HMr.out.lt (by injection e))).trans (alloc_at wr _); have BW := Aside0.mk hB; have HM4 := Aside0.mk hm4; have HF4 := Aside0.mk (cnt_put HF.out x.f0); have HB4 := Aside0.mk ((below_alloc HBr.out _).grown hg4 (Nat.le_trans HBr.out.size (Nat.le_of_lt (below_alloc_lt wr _))) (fun k_ e_ => by injection e_ with e_; rw [← e_]; exact HGM.out)); clear hm4 hg4 hB; have hy0 : w4.cell? ⟨wr.heap.size, 0, none⟩ = some (.int .u8 x.f0) := (blk_cell BW.out 0).trans rfl; have hy1 : w4.cell? ⟨wr.heap.size, 1, none⟩ = some (.int .i64 x.f1) := (blk_cell BW.out 1).trans rfl) | (go_at_call 59; (with_reducible refine (subprogram_whole.calls x.f1 v b _ HV.out).mono ?_); rintro e w5 ⟨rfl, hd5⟩; have hb5 := hd5.below; have BW5 := Aside0.mk (blk_below BW.out hb5); have HM5 := Aside0.mk (HM4.out.below hb5); have HB5 := Aside0.mk (below_then HB4.out HB4.out.size hb5); clear hd5 hb5 hy0 hy1; have hq0 : w5.cell? ⟨wr.heap.size, 0, none⟩ = some (.int .u8 x.f0) := (blk_cell BW5.out 0).trans rfl; have hq1 : w5.cell? ⟨wr.heap.size, 1, none⟩ = some (.int .i64 x.f1) := (blk_cell BW5.out 1).trans rfl))
          go_roundw
          case rel => exact ⟨j + 1, _, n, t, ok, _, by rw [wrap_succ hlt HM.out], rfl, rfl, rfl, ⟨by omega⟩, ⟨HI3.out⟩, ⟨HM5.out⟩, ⟨HF4.out⟩, ⟨HB5.out⟩⟩
          case measure => rw [wrap_succ hlt HM.out]; simp only [intOf, Int.toNat_natCast]; omega
        have t77 : (x.f0 == 77) = false := beq_eq_false_iff_ne.mpr c77
        by_cases c78 : x.f0 = 78
        · have t78 : (x.f0 == 78) = true := beq_iff_eq.mpr c78
          have C78 := Aside0.mk c78
          have C80 := Aside0.mk c80
          have C76 := Aside0.mk c76
          have C77 := Aside0.mk c77
          clear c80 c76 c77 c78
          have HI3 := Aside0.mk (show callL (l0_1.drop (j + 1)) (fun y => if y = x.f0 then wrap64 (C y + 1) else C y) n t ok = some R from by have h_ := HI2.out; rw [if_neg C80.out, if_neg C76.out, if_neg (fun h => h.elim C80.out C76.out), if_pos (Or.inr C78.out)] at h_; exact h_)
          go_wp2_with (first | ((with_reducible refine gate_dst (N := 28) rfl ?_); refine map_look 28 rfl rfl rfl Try.underlying5 Try.underlying96 zero_int3 (HMr.out.alloc _) rfl x.f0 rfl WFL.out _ (HF.out x.f0) ?_) | (refine map_put rfl rfl Try.underlying5 Try.underlying96 (HMr.out.alloc _) NJ.out rfl x.f0 rfl WFL.out (.int .i64 (wrap64 (C x.f0 + 1))) (by first | rfl | (go_simp; rfl)) ?_; intro w4 hm4 hg4; have hB : w4.heap[wr.heap.size]? = some (.cells #[.int .u8 x.f0, .int .i64 x.f1] 78 (0, 0)) := (hg4.block _ (below_alloc_lt wr _) (fun e => Nat.ne_of_gt HMr.out.lt (by injection e))).trans (alloc_at wr _); have BW := Aside0.mk hB; have HM4 := Aside0.mk hm4; have HF4 := Aside0.mk (cnt_put HF.out x.f0); have HB4 := Aside0.mk ((below_alloc HBr.out _).grown hg4 (Nat.le_trans HBr.out.size (Nat.le_of_lt (below_alloc_lt wr _))) (fun k_ e_ => by injection e_ with e_; rw [← e_]; exact HGM.out)); clear hm4 hg4 hB; have hy0 : w4.cell? ⟨wr.heap.size, 0, none⟩ = some (.int .u8 x.f0) := (blk_cell BW.out 0).trans rfl; have hy1 : w4.cell? ⟨wr.heap.size, 1, none⟩ = some (.int .i64 x.f1) := (blk_cell BW.out 1).trans rfl) | (go_at_call 59; (with_reducible refine (subprogram_whole.calls x.f1 v b _ HV.out).mono ?_); rintro e w5 ⟨rfl, hd5⟩; have hb5 := hd5.below; have BW5 := Aside0.mk (blk_below BW.out hb5); have HM5 := Aside0.mk (HM4.out.below hb5); have HB5 := Aside0.mk (below_then HB4.out HB4.out.size hb5); clear hd5 hb5 hy0 hy1; have hq0 : w5.cell? ⟨wr.heap.size, 0, none⟩ = some (.int .u8 x.f0) := (blk_cell BW5.out 0).trans rfl; have hq1 : w5.cell? ⟨wr.heap.size, 1, none⟩ = some (.int .i64 x.f1) := (blk_cell BW5.out 1).trans rfl))
          go_roundw
          case rel => exact ⟨j + 1, _, n, t, ok, _, by rw [wrap_succ hlt HM.out], rfl, rfl, rfl, ⟨by omega⟩, ⟨HI3.out⟩, ⟨HM5.out⟩, ⟨HF4.out⟩, ⟨HB5.out⟩⟩
          case measure => rw [wrap_succ hlt HM.out]; simp only [intOf, Int.toNat_natCast]; omega
        have t78 : (x.f0 == 78) = false := beq_eq_false_iff_ne.mpr c78
        have C80 := Aside0.mk c80
        have C76 := Aside0.mk c76
        have C77 := Aside0.mk c77
        have C78 := Aside0.mk c78
        clear c80 c76 c77 c78
        have HI3 := Aside0.mk (show callL (l0_1.drop (j + 1)) (fun y => if y = x.f0 then wrap64 (C y + 1) else C y) n t false = some R from by have h_ := HI2.out; rw [if_neg C80.out, if_neg C76.out, if_neg (fun h => h.elim C80.out C76.out), if_neg (fun h => h.elim C77.out C78.out)] at h_; exact h_)
        go_wp2_with (first | ((with_reducible refine gate_dst (N := 28) rfl ?_); refine map_look 28 rfl rfl rfl Try.underlying5 Try.underlying96 zero_int3 (HMr.out.alloc _) rfl x.f0 rfl WFL.out _ (HF.out x.f0) ?_) | (refine map_put rfl rfl Try.underlying5 Try.underlying96 (HMr.out.alloc _) NJ.out rfl x.f0 rfl WFL.out (.int .i64 (wrap64 (C x.f0 + 1))) (by first | rfl | (go_simp; rfl)) ?_; intro w4 hm4 hg4; have hB : w4.heap[wr.heap.size]? = some (.cells #[.int .u8 x.f0, .int .i64 x.f1] 78 (0, 0)) := (hg4.block _ (below_alloc_lt wr _) (fun e => Nat.ne_of_gt HMr.out.lt (by injection e))).trans (alloc_at wr _); have BW := Aside0.mk hB; have HM4 := Aside0.mk hm4; have HF4 := Aside0.mk (cnt_put HF.out x.f0); have HB4 := Aside0.mk ((below_alloc HBr.out _).grown hg4 (Nat.le_trans HBr.out.size (Nat.le_of_lt (below_alloc_lt wr _))) (fun k_ e_ => by injection e_ with e_; rw [← e_]; exact HGM.out)); clear hm4 hg4 hB; have hy0 : w4.cell? ⟨wr.heap.size, 0, none⟩ = some (.int .u8 x.f0) := (blk_cell BW.out 0).trans rfl; have hy1 : w4.cell? ⟨wr.heap.size, 1, none⟩ = some (.int .i64 x.f1) := (blk_cell BW.out 1).trans rfl) | (go_at_call 59; (with_reducible refine (subprogram_whole.calls x.f1 v b _ HV.out).mono ?_); rintro e w5 ⟨rfl, hd5⟩; have hb5 := hd5.below; have BW5 := Aside0.mk (blk_below BW.out hb5); have HM5 := Aside0.mk (HM4.out.below hb5); have HB5 := Aside0.mk (below_then HB4.out HB4.out.size hb5); clear hd5 hb5 hy0 hy1; have hq0 : w5.cell? ⟨wr.heap.size, 0, none⟩ = some (.int .u8 x.f0) := (blk_cell BW5.out 0).trans rfl; have hq1 : w5.cell? ⟨wr.heap.size, 1, none⟩ = some (.int .i64 x.f1) := (blk_cell BW5.out 1).trans rfl))
        go_roundw
        case rel => exact ⟨j + 1, _, n, t, false, _, by rw [wrap_succ hlt HM.out], rfl, rfl, rfl, ⟨by omega⟩, ⟨HI3.out⟩, ⟨HM5.out⟩, ⟨HF4.out⟩, ⟨HB5.out⟩⟩
        case measure => rw [wrap_succ hlt HM.out]; simp only [intOf, Int.toNat_natCast]; omega
      have hlt' : decide ((j : Int) < (l0_1.length : Int)) = false := by simp; omega
      have hI := HI.out
      rw [List.drop_eq_nil_of_le (by omega), callL] at hI
      have hR := Option.some.inj hI
      have HEE := HE.out
      rw [← hR] at HEE
      simp only [callR] at HEE
      clear hI hR HE HI
      have HX := Aside0.mk HEE
      clear HEE
      have wf77 : (Lit.int .u8 77).wf = true := rfl
      have wf80 : (Lit.int .u8 80).wf = true := rfl
      have wf76 : (Lit.int .u8 76).wf = true := rfl
      have wf78 : (Lit.int .u8 78).wf = true := rfl
      cases ok with
      | false =>
        have HY := HX.out
        simp only [if_true, Prod.mk.injEq] at HY
        obtain ⟨rfl, rfl, rfl, rfl⟩ := HY
        go_wp2_with (first | ((with_reducible refine gate_dst (N := 60) rfl ?_); (try (refine gate_guard (by rfl) ?_; dsimp only)); refine map_look 60 rfl rfl rfl Try.underlying5 Try.underlying96 zero_int3 HMr.out rfl 77 rfl wf77 _ (HF.out 77) ?_) | ((with_reducible refine gate_dst (N := 65) rfl ?_); (try (refine gate_guard (by rfl) ?_; dsimp only)); refine map_look 65 rfl rfl rfl Try.underlying5 Try.underlying96 zero_int3 HMr.out rfl 80 rfl wf80 _ (HF.out 80) ?_) | ((with_reducible refine gate_dst (N := 70) rfl ?_); (try (refine gate_guard (by rfl) ?_; dsimp only)); refine map_look 70 rfl rfl rfl Try.underlying5 Try.underlying96 zero_int3 HMr.out rfl 76 rfl wf76 _ (HF.out 76) ?_) | ((with_reducible refine gate_dst (N := 75) rfl ?_); (try (refine gate_guard (by rfl) ?_; dsimp only)); refine map_look 75 rfl rfl rfl Try.underlying5 Try.underlying96 zero_int3 HMr.out rfl 78 rfl wf78 _ (HF.out 78) ?_))
        refine bodyPost_ret (results_list (rs := [.tmp 2, .tmp 3, .tmp 4, .tmp 5]) rfl (by simp) (.tmp (.tmp (.tmp (.tmp .nil))))) rfl ?_
        exact ⟨rfl, HBr.out⟩
      | true =>
        by_cases k1 : C 77 = 1
        rotate_left
        · have qk1 : (C 77 != 1) = true := bne_iff_ne.mpr k1
          have HY : _ = _ := HX.out
          simp only [Bool.true_eq_false, if_false,  not_true_eq_false, not_false_eq_true, if_true, Prod.mk.injEq, k1] at HY
          obtain ⟨rfl, rfl, rfl, rfl⟩ := HY
          clear k1
          go_wp2_with (first | ((with_reducible refine gate_dst (N := 60) rfl ?_); (try (refine gate_guard (by rfl) ?_; dsimp only)); refine map_look 60 rfl rfl rfl Try.underlying5 Try.underlying96 zero_int3 HMr.out rfl 77 rfl wf77 _ (HF.out 77) ?_) | ((with_reducible refine gate_dst (N := 65) rfl ?_); (try (refine gate_guard (by rfl) ?_; dsimp only)); refine map_look 65 rfl rfl rfl Try.underlying5 Try.underlying96 zero_int3 HMr.out rfl 80 rfl wf80 _ (HF.out 80) ?_) | ((with_reducible refine gate_dst (N := 70) rfl ?_); (try (refine gate_guard (by rfl) ?_; dsimp only)); refine map_look 70 rfl rfl rfl Try.underlying5 Try.underlying96 zero_int3 HMr.out rfl 76 rfl wf76 _ (HF.out 76) ?_) | ((with_reducible refine gate_dst (N := 75) rfl ?_); (try (refine gate_guard (by rfl) ?_; dsimp only)); refine map_look 75 rfl rfl rfl Try.underlying5 Try.underlying96 zero_int3 HMr.out rfl 78 rfl wf78 _ (HF.out 78) ?_))
          refine bodyPost_ret (results_list (rs := [.tmp 2, .tmp 3, .tmp 4, .tmp 5]) rfl (by simp) (.tmp (.tmp (.tmp (.tmp .nil))))) rfl ?_
          exact ⟨rfl, HBr.out⟩
        have qk1 : (C 77 != 1) = false := bne_eq_false_iff_eq.mpr k1
        by_cases k2 : C 80 = 1
        rotate_left
        · have qk2 : (C 80 != 1) = true := bne_iff_ne.mpr k2
          have HY : _ = _ := HX.out
          simp only [Bool.true_eq_false, if_false, k1,  not_true_eq_false, not_false_eq_true, if_true, Prod.mk.injEq, k2] at HY
          obtain ⟨rfl, rfl, rfl, rfl⟩ := HY
          clear k1 k2
          go_wp2_with (first | ((with_reducible refine gate_dst (N := 60) rfl ?_); (try (refine gate_guard (by rfl) ?_; dsimp only)); refine map_look 60 rfl rfl rfl Try.underlying5 Try.underlying96 zero_int3 HMr.out rfl 77 rfl wf77 _ (HF.out 77) ?_) | ((with_reducible refine gate_dst (N := 65) rfl ?_); (try (refine gate_guard (by rfl) ?_; dsimp only)); refine map_look 65 rfl rfl rfl Try.underlying5 Try.underlying96 zero_int3 HMr.out rfl 80 rfl wf80 _ (HF.out 80) ?_) | ((with_reducible refine gate_dst (N := 70) rfl ?_); (try (refine gate_guard (by rfl) ?_; dsimp only)); refine map_look 70 rfl rfl rfl Try.underlying5 Try.underlying96 zero_int3 HMr.out rfl 76 rfl wf76 _ (HF.out 76) ?_) | ((with_reducible refine gate_dst (N := 75) rfl ?_); (try (refine gate_guard (by rfl) ?_; dsimp only)); refine map_look 75 rfl rfl rfl Try.underlying5 Try.underlying96 zero_int3 HMr.out rfl 78 rfl wf78 _ (HF.out 78) ?_))
          refine bodyPost_ret (results_list (rs := [.tmp 2, .tmp 3, .tmp 4, .tmp 5]) rfl (by simp) (.tmp (.tmp (.tmp (.tmp .nil))))) rfl ?_
          exact ⟨rfl, HBr.out⟩
        have qk2 : (C 80 != 1) = false := bne_eq_false_iff_eq.mpr k2
        by_cases k3 : ¬ C 76 > 1
        rotate_left
        · have qk3 : decide (1 < C 76) = true := decide_eq_true (by omega)
          have HY : _ = _ := HX.out
          simp only [Bool.true_eq_false, if_false, k1, k2,  not_true_eq_false, not_false_eq_true, if_true, Prod.mk.injEq, show C 76 > 1 from by omega] at HY
          obtain ⟨rfl, rfl, rfl, rfl⟩ := HY
          clear k1 k2 k3
          go_wp2_with (first | ((with_reducible refine gate_dst (N := 60) rfl ?_); (try (refine gate_guard (by rfl) ?_; dsimp only)); refine map_look 60 rfl rfl rfl Try.underlying5 Try.underlying96 zero_int3 HMr.out rfl 77 rfl wf77 _ (HF.out 77) ?_) | ((with_reducible refine gate_dst (N := 65) rfl ?_); (try (refine gate_guard (by rfl) ?_; dsimp only)); refine map_look 65 rfl rfl rfl Try.underlying5 Try.underlying96 zero_int3 HMr.out rfl 80 rfl wf80 _ (HF.out 80) ?_) | ((with_reducible refine gate_dst (N := 70) rfl ?_); (try (refine gate_guard (by rfl) ?_; dsimp only)); refine map_look 70 rfl rfl rfl Try.underlying5 Try.underlying96 zero_int3 HMr.out rfl 76 rfl wf76 _ (HF.out 76) ?_) | ((with_reducible refine gate_dst (N := 75) rfl ?_); (try (refine gate_guard (by rfl) ?_; dsimp only)); refine map_look 75 rfl rfl rfl Try.underlying5 Try.underlying96 zero_int3 HMr.out rfl 78 rfl wf78 _ (HF.out 78) ?_))
          refine bodyPost_ret (results_list (rs := [.tmp 2, .tmp 3, .tmp 4, .tmp 5]) rfl (by simp) (.tmp (.tmp (.tmp (.tmp .nil))))) rfl ?_
          exact ⟨rfl, HBr.out⟩
        have qk3 : decide (1 < C 76) = false := decide_eq_false k3
        by_cases k4 : ¬ C 78 > 1
        rotate_left
        · have qk4 : decide (1 < C 78) = true := decide_eq_true (by omega)
          have HY : _ = _ := HX.out
          simp only [Bool.true_eq_false, if_false, k1, k2, k3,  not_true_eq_false, not_false_eq_true, if_true, Prod.mk.injEq, show C 78 > 1 from by omega] at HY
          obtain ⟨rfl, rfl, rfl, rfl⟩ := HY
          clear k1 k2 k3 k4
          go_wp2_with (first | ((with_reducible refine gate_dst (N := 60) rfl ?_); (try (refine gate_guard (by rfl) ?_; dsimp only)); refine map_look 60 rfl rfl rfl Try.underlying5 Try.underlying96 zero_int3 HMr.out rfl 77 rfl wf77 _ (HF.out 77) ?_) | ((with_reducible refine gate_dst (N := 65) rfl ?_); (try (refine gate_guard (by rfl) ?_; dsimp only)); refine map_look 65 rfl rfl rfl Try.underlying5 Try.underlying96 zero_int3 HMr.out rfl 80 rfl wf80 _ (HF.out 80) ?_) | ((with_reducible refine gate_dst (N := 70) rfl ?_); (try (refine gate_guard (by rfl) ?_; dsimp only)); refine map_look 70 rfl rfl rfl Try.underlying5 Try.underlying96 zero_int3 HMr.out rfl 76 rfl wf76 _ (HF.out 76) ?_) | ((with_reducible refine gate_dst (N := 75) rfl ?_); (try (refine gate_guard (by rfl) ?_; dsimp only)); refine map_look 75 rfl rfl rfl Try.underlying5 Try.underlying96 zero_int3 HMr.out rfl 78 rfl wf78 _ (HF.out 78) ?_))
          refine bodyPost_ret (results_list (rs := [.tmp 2, .tmp 3, .tmp 4, .tmp 5]) rfl (by simp) (.tmp (.tmp (.tmp (.tmp .nil))))) rfl ?_
          exact ⟨rfl, HBr.out⟩
        have qk4 : decide (1 < C 78) = false := decide_eq_false k4
        have HY : _ = _ := HX.out
        simp only [Bool.true_eq_false, if_false, not_true_eq_false, not_false_eq_true, if_true, Prod.mk.injEq, k1, k2, k3, k4] at HY
        obtain ⟨rfl, rfl, rfl, rfl⟩ := HY
        clear k1 k2 k3 k4
        go_wp2_with (first | ((with_reducible refine gate_dst (N := 60) rfl ?_); (try (refine gate_guard (by rfl) ?_; dsimp only)); refine map_look 60 rfl rfl rfl Try.underlying5 Try.underlying96 zero_int3 HMr.out rfl 77 rfl wf77 _ (HF.out 77) ?_) | ((with_reducible refine gate_dst (N := 65) rfl ?_); (try (refine gate_guard (by rfl) ?_; dsimp only)); refine map_look 65 rfl rfl rfl Try.underlying5 Try.underlying96 zero_int3 HMr.out rfl 80 rfl wf80 _ (HF.out 80) ?_) | ((with_reducible refine gate_dst (N := 70) rfl ?_); (try (refine gate_guard (by rfl) ?_; dsimp only)); refine map_look 70 rfl rfl rfl Try.underlying5 Try.underlying96 zero_int3 HMr.out rfl 76 rfl wf76 _ (HF.out 76) ?_) | ((with_reducible refine gate_dst (N := 75) rfl ?_); (try (refine gate_guard (by rfl) ?_; dsimp only)); refine map_look 75 rfl rfl rfl Try.underlying5 Try.underlying96 zero_int3 HMr.out rfl 78 rfl wf78 _ (HF.out 78) ?_))
        refine bodyPost_ret (results_list (rs := [.tmp 2, .tmp 3, .tmp 4, .tmp 5]) rfl (by simp) (.tmp (.tmp (.tmp (.tmp .nil))))) rfl ?_
        exact ⟨rfl, HBr.out⟩
end Go.Proofs.Ytehkhbnhmehobaa.P
namespace Go.Proofs.Ytehkhbnhmehobaa.P
open Go.RowKit Go.ChangeShapes Go.WideShapes Go.Deep Go.Proofs.YtehkhbnhmehobaaW.PrintWords Go.Proofs.YtehkhbnhmehobaaW.PrintLast Go.Proofs.YtehkhbnhmehobaaW.PrintMore
set_option linter.unusedVariables false
structure Opens (P : Program) (t : TypeId) {α : Type} (d : Kd α) (wf : α → Prop) : Prop where
  of : ∀ {H : Type} {enc : TypeId × Value → H} {w : World} {base : Nat} {spare : Nat → Bool} {held : Bool} {fuel : Nat} {cs : List Value} {x : DataW H × List MemPlace}, DataW.trod enc P w base spare held fuel t cs = some x → ∃ y, d.K w y cs ∧ wf y
section
variable {P : Program} {t e : TypeId}
theorem opens_int {k : IntKind} (ht : P.underlying t = some (.int k)) : Opens P t (Kd.int k) (fun n => k.min ≤ n ∧ n ≤ k.max) :=
  ⟨fun h => by obtain ⟨n, rfl, _, hw⟩ := DataW.trod_int ht h; exact ⟨n, rfl, by simpa [Lit.wf] using hw⟩⟩
theorem opens_bool (ht : P.underlying t = some .bool) : Opens P t Kd.bool (fun _ => True) :=
  ⟨fun h => by obtain ⟨n, rfl, _⟩ := DataW.trod_bool ht h; exact ⟨n, rfl, trivial⟩⟩
theorem opens_string (ht : P.underlying t = some .string) : Opens P t Kd.string (fun s => s.size ≤ maxLen) :=
  ⟨fun h => by obtain ⟨n, rfl, _, hw⟩ := DataW.trod_string ht h; exact ⟨n, rfl, hw⟩⟩
theorem opens_slice {α : Type} {d : Kd α} {wf : α → Prop} (q : Nat) (ht : P.underlying t = some (.slice e)) (hc : P.cellsOf e = d.sz) (he : Opens P e d wf) : Opens P t (Kd.slice q d) (fun ys => ys.length ≤ maxLen ∧ ∀ y ∈ ys, wf y) := by
  refine ⟨fun {H enc w base spare held fuel cs x} h => ?_⟩
  rcases open_slice ht h with ⟨rfl, _⟩ | ⟨a, len, cap, m, n, D, Pl, rfl, _, hl, hcap, hm, _, hel⟩
  · exact ⟨[], ⟨none, 0, rfl, Nat.le_refl _, rfl, by simp, fun hlt => by simp at hlt⟩, by simp, fun y hy => by simp at hy⟩
  have h2 : ∀ i : Fin len, ∃ y, wf y ∧ ∃ c, c.length = d.sz ∧ d.K w y c ∧ ∀ j u, c[j]? = some u → w.cell? (a.add (i * d.sz + j)) = some u := by
    intro i
    obtain ⟨c, hcs, htr⟩ := hel i (by have := i.isLt; rw [hm]; split <;> omega)
    rw [hc] at hcs
    obtain ⟨_, hcl, hat⟩ := World.cells?_some hcs
    obtain ⟨y, hy, hwf⟩ := he.of htr
    refine ⟨y, hwf, c, hcl, hy, fun j u hu => ?_⟩
    have hj : j < d.sz := by
      have := (List.getElem?_eq_some_iff.1 hu).1
      omega
    rw [← Go.Deep.add_add, hat j hj, hu]
  refine ⟨List.ofFn fun i => Classical.choose (h2 i), ⟨some a, cap, by simp, by simpa using hl, by simp, ?_, fun _ => ⟨a, rfl, fun j p hp => ?_⟩⟩, by simp; omega, fun y hy => ?_⟩
  · simp only [List.length_ofFn]
    unfold maxLen at hcap
    omega
  · rw [List.getElem?_ofFn] at hp
    split at hp
    · rename_i hj
      obtain rfl := Option.some.inj hp
      obtain ⟨_, c, h3, h4, h5⟩ := Classical.choose_spec (h2 ⟨j, hj⟩)
      exact ⟨c, h3, h4, fun i u hu => h5 i u hu⟩
    cases hp
  obtain ⟨i, rfl⟩ := (List.mem_ofFn).1 hy
  exact (Classical.choose_spec (h2 i)).1
theorem opens_iso {α β : Type} {d : Kd α} {wf : α → Prop} (f : β → α) (g : α → β) (hfg : ∀ x, f (g x) = x) (h : Opens P t d wf) : Opens P t (Kd.iso d f) (fun y => wf (f y)) :=
  ⟨fun hx => by obtain ⟨y, hy, hw⟩ := h.of hx; exact ⟨g y, (by show d.K _ (f (g y)) _; rw [hfg]; exact hy), by rw [hfg]; exact hw⟩⟩
structure OpensF (P : Program) (fs : List Field) (off : Nat) {α : Type} (d : Kd α) (wf : α → Prop) : Prop where
  of : ∀ {H : Type} {enc : TypeId × Value → H} {w : World} {base : Nat} {spare : Nat → Bool} {held : Bool} {n : Nat} {cs : List Value}, (∀ (i : Nat) (f : Field), fs[i]? = some f → ∃ x : DataW H × List MemPlace, DataW.trod enc P w base spare held n f.type ((cs.drop f.offset).take (P.cellsOf f.type)) = some x) → ∃ y, d.K w y ((cs.drop off).take d.sz) ∧ wf y
theorem opensF_one {α : Type} {d : Kd α} {wf : α → Prop} {f : Field} {off : Nat} (ho : f.offset = off) (hc : P.cellsOf f.type = d.sz) (h : Opens P f.type d wf) : OpensF P [f] off d wf :=
  ⟨fun hx => by obtain ⟨x, hx⟩ := hx 0 f rfl; rw [ho, hc] at hx; exact h.of hx⟩
theorem opensF_cons {α β : Type} {d : Kd α} {d' : Kd β} {wf : α → Prop} {wf' : β → Prop} {f : Field} {fs : List Field} {off : Nat} (ho : f.offset = off) (hc : P.cellsOf f.type = d.sz) (h : Opens P f.type d wf) (h' : OpensF P fs (off + d.sz) d' wf') : OpensF P (f :: fs) off (Kd.pair d d') (fun x => wf x.1 ∧ wf' x.2) := by
  refine ⟨fun hx => ?_⟩
  obtain ⟨x, hx0⟩ := hx 0 f rfl
  rw [ho, hc] at hx0
  obtain ⟨y, hy, hw⟩ := h.of hx0
  obtain ⟨y', hy', hw'⟩ := h'.of (fun i f hf => hx (i + 1) f hf)
  refine ⟨(y, y'), ⟨_, _, ?_, hy, hy'⟩, hw, hw'⟩
  show List.take (d.sz + d'.sz) _ = _
  rw [List.take_add, List.drop_drop]
theorem opens_struct {α : Type} {d : Kd α} {wf : α → Prop} {fs : Array Field} (ht : P.underlying t = some (.struct fs)) (hc : P.cellsOf t = d.sz) (h : OpensF P fs.toList 0 d wf) : Opens P t d wf := by
  refine ⟨fun hx => ?_⟩
  obtain ⟨xs, n, _, _, hl, hlen, hf⟩ := DataW.trod_struct ht hx
  obtain ⟨y, hy, hw⟩ := h.of (fun i f hi => by
    rw [Array.getElem?_toList] at hi
    have hlt : i < xs.length := by rw [hlen]; exact (Array.getElem?_eq_some_iff.1 hi).1
    exact ⟨xs[i], (hf i f hi).trans (List.getElem?_eq_getElem hlt)⟩)
  rw [List.drop_zero, List.take_of_length_le (by omega)] at hy
  exact ⟨y, hy, hw⟩
end
end Go.Proofs.Ytehkhbnhmehobaa.P
namespace Go.Proofs.Ytehkhbnhmehobaa.P
open Go.RowKit Go.ChangeShapes Go.WideShapes Go.Proofs.YtehkhbnhmehobaaW.PrintWords Go.Proofs.YtehkhbnhmehobaaW.PrintLast Go.Proofs.YtehkhbnhmehobaaW.PrintMore
set_option linter.unusedVariables false
def I64 (n : Int) : Prop := -9223372036854775808 ≤ n ∧ n ≤ 9223372036854775807
def okWord (x : S78) : Prop := (0 ≤ x.f0 ∧ x.f0 ≤ 255) ∧ I64 x.f1
def okBlock (x : S32) : Prop := (x.f1.length ≤ maxLen ∧ ∀ y ∈ x.f1, okWord y) ∧ x.f2.size ≤ maxLen
theorem opens_Word : Opens Try.prog 78 k78 okWord := by
  have h := opens_iso (fun x : S78 => (x.f0, x.f1)) (fun p => ⟨p.1, p.2⟩) (fun _ => rfl) (opens_struct Try.underlying78 (by kernel_rfl) (opensF_cons rfl (by kernel_rfl) (opens_int (k := .u8) (by kernel_rfl)) (opensF_one rfl (by kernel_rfl) (opens_int (k := .i64) (by kernel_rfl)))))
  exact ⟨fun hx => h.of hx⟩
theorem opens_Block : Opens Try.prog 32 k32 okBlock := by
  have h := opens_iso (fun x : S32 => (x.f0, x.f1, x.f2)) (fun p => ⟨p.1, p.2.1, p.2.2⟩) (fun _ => rfl) (opens_struct Try.underlying32 (by kernel_rfl) (opensF_cons rfl (by kernel_rfl) (opens_bool (by kernel_rfl)) (opensF_cons rfl (by kernel_rfl) (opens_slice 78 (by kernel_rfl) (by kernel_rfl) opens_Word) (opensF_one rfl (by kernel_rfl) (opens_string (by kernel_rfl))))))
  exact ⟨fun hx => by obtain ⟨y, hy, hw⟩ := h.of hx; exact ⟨y, hy, hw.2⟩⟩
theorem opens_Blocks : Opens Try.prog 35 (Kd.slice 32 k32) (fun ys => ys.length ≤ maxLen ∧ ∀ y ∈ ys, okBlock y) := opens_slice 32 (by kernel_rfl) (by kernel_rfl) opens_Block
section
variable {H : Type} {enc : TypeId × Value → H} {w : World} {base : Nat} {spare : Nat → Bool} {held : Bool} {r : Reach} {b0 : Nat} {v : Value} {d : DataW H} {p : List MemPlace}
set_option maxRecDepth 100000 in
theorem arg_Blocks (hv : Value.okWide Try.prog w r b0 35 v) (h : DataW.Trod enc Try.prog w base spare held 35 v d p) :
    ∃ (l : List S32) (A1 : Option Addr) (c1 : Nat), v = .slice A1 l.length c1 ∧ l.length ≤ c1 ∧ Kd.C k32 w A1 l.length l ∧ l.length ≤ maxLen ∧ ∀ b ∈ l, okBlock b := by
  obtain ⟨fuel, hf⟩ := h
  obtain ⟨l, ⟨A1, c1, he, h1, h2⟩, hw⟩ := opens_Blocks.of hf
  obtain ⟨a, len, cap, rfl⟩ := okWide_slice Try.underlying35 hv
  refine ⟨l, A1, c1, ?_, h1, h2, hw⟩
  simpa [Value.cells] using he
end
end Go.Proofs.Ytehkhbnhmehobaa.P
namespace Go.Proofs.Ytehkhbnhmehobaa.P
open Go.RowKit Go.Proofs.YtehkhbnhmehobaaW.PrintWords Go.Proofs.YtehkhbnhmehobaaW.PrintLast Go.Proofs.YtehkhbnhmehobaaW.PrintMore
attribute [local go_sem] max2_int min2_int max_two min_two max_three min_three max_four min_four
set_option linter.unusedVariables false
set_option linter.unusedSimpArgs false
def subprogram_marked.f (k : Nat) (a0_0 : Bool) (l0_1 : List (S78)) (a0_2 : ByteArray) : Option (Bool) := (block_Codes.f k a0_0 l0_1 a0_2 79).bind fun t373 => (if (t373.length : Int) > 0 then (some true) else ((subprogram_has.f k a0_0 l0_1 a0_2 77 30000).bind fun t376 => (if t376 = true then (some true) else ((subprogram_has.f k a0_0 l0_1 a0_2 77 99000).bind fun t377 => (some t377)))))
set_option maxHeartbeats 8000000 in
set_option maxRecDepth 100000 in
theorem subprogram_marked.calls (k : Nat) (a0_0 : Bool) (A0_1 : Option Addr) (c0_1 : Nat) (l0_1 : List (S78)) (a0_2 : ByteArray) (r : Bool) (w : World) (hr0_1 : Kd.C k78 w A0_1 l0_1.length l0_1) (hc0_1 : l0_1.length ≤ c0_1) (h : subprogram_marked.f k a0_0 l0_1 a0_2 = some r) :
  Calls Try.prog 100 #[.agg #[.bool a0_0, .slice A0_1 l0_1.length c0_1, .string a0_2]] w fun e w' => e = .returned (.bool r) ∧ Below w.heap.size w w' := by
 have hu32 := Try.underlying32
 have HR0_1 := Aside0.mk hr0_1
 have HC0_1 := Aside0.mk hc0_1
 clear hr0_1 hc0_1
 have HB := Aside0.mk (Below.refl w.heap.size w)
 have H : ((block_Codes.f k a0_0 l0_1 a0_2 79).bind fun t373 => (if (t373.length : Int) > 0 then (some true) else ((subprogram_has.f k a0_0 l0_1 a0_2 77 30000).bind fun t376 => (if t376 = true then (some true) else ((subprogram_has.f k a0_0 l0_1 a0_2 77 99000).bind fun t377 => (some t377)))))) = some r := h
 clear h
 replace H := Option.bind_eq_some_iff.mp H
 obtain ⟨t373, A20, H⟩ := H
 have A2 := Aside0.mk A20
 clear A20
 by_cases c3 : (t373.length : Int) > 0
 ·rw [if_pos c3] at H
  have c3b0 := decide_eq_true c3
  have c3b1 : decide (0 < t373.length) = true := decide_eq_true (by omega)
  clear c3
  obtain rfl := Option.some.inj H
  go_enter Try.func100, Try.ntmps100
  go_wp2_with (first | ((with_reducible refine gate_dst (N := 1) rfl ?_); refine yX 1 #[.bool a0_0, .slice A0_1 l0_1.length c0_1, .string a0_2] 32 ?_; intro gb372 hg w4 hbox hb; have BK372 := Aside0.mk (hbox); have GW372 := Aside0.mk ((yG hg : w.heap.size ≤ gb372)); have GE372 := Aside0.mk ((yG hg : w.heap.size ≤ gb372)); replace HB := Aside0.mk (below_step yB hb); clear hb hbox hg; have hcz5_0 := yZ0 BK372.out; have hcz5_1 := yZ1 BK372.out; have hcz5_2 := yZ2 BK372.out; have hfz5_0 := blk_frozen BK372.out 0; have hfz5_1 := blk_frozen BK372.out 1; have hfz5_2 := blk_frozen BK372.out 2) | ((with_reducible refine gate_callee (f := 93) rfl ?_); refine goesL_ (some 4) rfl rfl Try.func93 (by kernel_rfl) rfl #[.agg #[.bool a0_0, .slice A0_1 l0_1.length c0_1, .string a0_2], .int .u8 79] rfl yQ ?_; (with_reducible refine (block_Codes.calls k a0_0 _ _ l0_1 a0_2 79 t373 _ ?side1 ?side2 A2.out).mono ?_); (case side1 => exact yC HR0_1.out); (case side2 => exact HC0_1.out); rintro e w6 ⟨v374, rfl, ho0, hb⟩; refine ⟨_, rfl, ?_⟩; have HO375 := Aside0.mk (Kd.R_lower ho0 (below_size yB)); replace BK372 := Aside0.mk (blk_below (g := gb372) yK hb); replace HB := Aside0.mk (below_step yB hb); (try clear hb); (try clear ho0); obtain ⟨Ao7, co7, eo7⟩ := Kd.R_slice HO375.out; subst eo7))
  go_ret
  exact ⟨yE, yB⟩
 rw [if_neg c3] at H
 have c3b0 := decide_eq_false c3
 have c3b1 : decide (0 < t373.length) = false := decide_eq_false (by omega)
 clear c3
 replace H := Option.bind_eq_some_iff.mp H
 obtain ⟨t376, A80, H⟩ := H
 have A8 := Aside0.mk A80
 clear A80
 by_cases c9 : t376 = true
 ·subst c9
  rw [if_pos rfl] at H
  obtain rfl := Option.some.inj H
  go_enter Try.func100, Try.ntmps100
  go_wp2_with (first | ((with_reducible refine gate_dst (N := 1) rfl ?_); refine yX 1 #[.bool a0_0, .slice A0_1 l0_1.length c0_1, .string a0_2] 32 ?_; intro gb372 hg w10 hbox hb; have BK372 := Aside0.mk (hbox); have GW372 := Aside0.mk ((yG hg : w.heap.size ≤ gb372)); have GE372 := Aside0.mk ((yG hg : w.heap.size ≤ gb372)); replace HB := Aside0.mk (below_step yB hb); clear hb hbox hg; have hcz11_0 := yZ0 BK372.out; have hcz11_1 := yZ1 BK372.out; have hcz11_2 := yZ2 BK372.out; have hfz11_0 := blk_frozen BK372.out 0; have hfz11_1 := blk_frozen BK372.out 1; have hfz11_2 := blk_frozen BK372.out 2) | ((with_reducible refine gate_callee (f := 93) rfl ?_); refine goesL_ (some 4) rfl rfl Try.func93 (by kernel_rfl) rfl #[.agg #[.bool a0_0, .slice A0_1 l0_1.length c0_1, .string a0_2], .int .u8 79] rfl yQ ?_; (with_reducible refine (block_Codes.calls k a0_0 _ _ l0_1 a0_2 79 t373 _ ?side1 ?side2 A2.out).mono ?_); (case side1 => exact yC HR0_1.out); (case side2 => exact HC0_1.out); rintro e w12 ⟨v374, rfl, ho0, hb⟩; refine ⟨_, rfl, ?_⟩; have HO375 := Aside0.mk (Kd.R_lower ho0 (below_size yB)); replace BK372 := Aside0.mk (blk_below (g := gb372) yK hb); replace HB := Aside0.mk (below_step yB hb); (try clear hb); (try clear ho0); obtain ⟨Ao13, co13, eo13⟩ := Kd.R_slice HO375.out; subst eo13; have hcz14_0 := yZ0 BK372.out; have hcz14_1 := yZ1 BK372.out; have hcz14_2 := yZ2 BK372.out; have hfz14_0 := blk_frozen BK372.out 0; have hfz14_1 := blk_frozen BK372.out 1; have hfz14_2 := blk_frozen BK372.out 2) | (go_at_call 58; (with_reducible refine (subprogram_has.calls k a0_0 _ _ l0_1 a0_2 77 30000 true _ ?side1 ?side2 A8.out).mono ?_); (case side1 => exact yC HR0_1.out); (case side2 => exact HC0_1.out); rintro e w15 ⟨rfl, hb⟩; replace HO375 := Aside0.mk (Kd.R_below (yR HO375.out) hb); replace BK372 := Aside0.mk (blk_below (g := gb372) yK hb); replace HB := Aside0.mk (below_step yB hb); (try clear hb)))
  go_ret
  exact ⟨yE, yB⟩
 replace c9 := Bool.eq_false_iff.mpr c9
 subst c9
 replace H : ((subprogram_has.f k a0_0 l0_1 a0_2 77 99000).bind fun t377 => (some t377)) = some r := by rw [if_neg (show ¬ (false = true) by decide)] at H; exact H
 replace H := Option.bind_eq_some_iff.mp H
 obtain ⟨t377, A160, H⟩ := H
 have A16 := Aside0.mk A160
 clear A160
 obtain rfl := Option.some.inj H
 go_enter Try.func100, Try.ntmps100
 go_wp2_with (first | ((with_reducible refine gate_dst (N := 1) rfl ?_); refine yX 1 #[.bool a0_0, .slice A0_1 l0_1.length c0_1, .string a0_2] 32 ?_; intro gb372 hg w17 hbox hb; have BK372 := Aside0.mk (hbox); have GW372 := Aside0.mk ((yG hg : w.heap.size ≤ gb372)); have GE372 := Aside0.mk ((yG hg : w.heap.size ≤ gb372)); replace HB := Aside0.mk (below_step yB hb); clear hb hbox hg; have hcz18_0 := yZ0 BK372.out; have hcz18_1 := yZ1 BK372.out; have hcz18_2 := yZ2 BK372.out; have hfz18_0 := blk_frozen BK372.out 0; have hfz18_1 := blk_frozen BK372.out 1; have hfz18_2 := blk_frozen BK372.out 2) | ((with_reducible refine gate_callee (f := 93) rfl ?_); refine goesL_ (some 4) rfl rfl Try.func93 (by kernel_rfl) rfl #[.agg #[.bool a0_0, .slice A0_1 l0_1.length c0_1, .string a0_2], .int .u8 79] rfl yQ ?_; (with_reducible refine (block_Codes.calls k a0_0 _ _ l0_1 a0_2 79 t373 _ ?side1 ?side2 A2.out).mono ?_); (case side1 => exact yC HR0_1.out); (case side2 => exact HC0_1.out); rintro e w19 ⟨v374, rfl, ho0, hb⟩; refine ⟨_, rfl, ?_⟩; have HO375 := Aside0.mk (Kd.R_lower ho0 (below_size yB)); replace BK372 := Aside0.mk (blk_below (g := gb372) yK hb); replace HB := Aside0.mk (below_step yB hb); (try clear hb); (try clear ho0); obtain ⟨Ao20, co20, eo20⟩ := Kd.R_slice HO375.out; subst eo20; have hcz21_0 := yZ0 BK372.out; have hcz21_1 := yZ1 BK372.out; have hcz21_2 := yZ2 BK372.out; have hfz21_0 := blk_frozen BK372.out 0; have hfz21_1 := blk_frozen BK372.out 1; have hfz21_2 := blk_frozen BK372.out 2) | (go_at_call 58; (with_reducible refine (subprogram_has.calls k a0_0 _ _ l0_1 a0_2 77 30000 false _ ?side1 ?side2 A8.out).mono ?_); (case side1 => exact yC HR0_1.out); (case side2 => exact HC0_1.out); rintro e w22 ⟨rfl, hb⟩; replace HO375 := Aside0.mk (Kd.R_below (yR HO375.out) hb); replace BK372 := Aside0.mk (blk_below (g := gb372) yK hb); replace HB := Aside0.mk (below_step yB hb); (try clear hb); have hcz23_0 := yZ0 BK372.out; have hcz23_1 := yZ1 BK372.out; have hcz23_2 := yZ2 BK372.out; have hfz23_0 := blk_frozen BK372.out 0; have hfz23_1 := blk_frozen BK372.out 1; have hfz23_2 := blk_frozen BK372.out 2) | (go_at_call 58; (with_reducible refine (subprogram_has.calls k a0_0 _ _ l0_1 a0_2 77 99000 t377 _ ?side1 ?side2 A16.out).mono ?_); (case side1 => exact yC HR0_1.out); (case side2 => exact HC0_1.out); rintro e w24 ⟨rfl, hb⟩; replace HO375 := Aside0.mk (Kd.R_below (yR HO375.out) hb); replace BK372 := Aside0.mk (blk_below (g := gb372) yK hb); replace HB := Aside0.mk (below_step yB hb); (try clear hb)))
 go_ret
 exact ⟨yE, yB⟩
def swarfref43_has.l0 : Nat → Int → Int → Int → Bool → List (S78) → ByteArray → Option (Bool)
 | 0, _, _, _, _, _, _ => none
 | k + 1, x1, x2, x7, x504000, x504001, x504002 => if x7 < (x504001.length : Int) then (if 0 ≤ x7 then (if ((rd_T78 x504001 x7).f0) = x1 then (if ((rd_T78 x504001 x7).f1) = x2 then (some true) else (swarfref43_has.l0 k x1 x2 (wrap64 (x7 + 1)) x504000 x504001 x504002)) else (swarfref43_has.l0 k x1 x2 (wrap64 (x7 + 1)) x504000 x504001 x504002)) else (none)) else (some false)
def swarfref43_has.f (k : Nat) (a0_0 : Bool) (l0_1 : List (S78)) (a0_2 : ByteArray) (a1 : Int) (a2 : Int) : Option (Bool) := swarfref43_has.l0 k a1 a2 0 a0_0 l0_1 a0_2
set_option maxHeartbeats 8000000 in
set_option maxRecDepth 100000 in
theorem swarfref43_has.calls (k : Nat) (a0_0 : Bool) (A0_1 : Option Addr) (c0_1 : Nat) (l0_1 : List (S78)) (a0_2 : ByteArray) (a1 : Int) (a2 : Int) (r : Bool) (w : World) (hr0_1 : Kd.C k78 w A0_1 l0_1.length l0_1) (hc0_1 : l0_1.length ≤ c0_1) (h : swarfref43_has.f k a0_0 l0_1 a0_2 a1 a2 = some r) :
  Calls Try.prog 60 #[.agg #[.bool a0_0, .slice A0_1 l0_1.length c0_1, .string a0_2], .int .u8 a1, .int .i64 a2] w fun e w' => e = .returned (.bool r) ∧ Below w.heap.size w w' := by
 have hu32 := Try.underlying32
 have HR0_1 := Aside0.mk hr0_1
 have HC0_1 := Aside0.mk hc0_1
 clear hr0_1 hc0_1
 have HB := Aside0.mk (Below.refl w.heap.size w)
 have H : (swarfref43_has.l0 k a1 a2 0 a0_0 l0_1 a0_2) = some r := h
 clear h
 have H' := Aside0.mk H
 clear H
 go_enter Try.func60, Try.ntmps60
 go_wp2_with (first | ((with_reducible refine gate_dst (N := 3) rfl ?_); refine yX 3 #[.bool a0_0, .slice A0_1 l0_1.length c0_1, .string a0_2] 32 ?_; intro gb503 hg w4 hbox hb; have BK503 := Aside0.mk (hbox); have GE503 := Aside0.mk ((yG hg : w.heap.size ≤ gb503)); replace HB := Aside0.mk (below_step yB hb); clear hb hbox hg))
 go_loopg [7] k (fun kq v7 w' => ∃ (x7_1 : Int), v7 = .int .i64 x7_1 ∧ Aside0 (swarfref43_has.l0 kq a1 a2 x7_1 a0_0 l0_1 a0_2 = some r) ∧ Aside0 (kq ≤ k) ∧ Aside0 (w'.heap[gb503]? = some (.cells #[.bool a0_0, (.slice A0_1 l0_1.length c0_1), .string a0_2] 32 (0, 0))) ∧ Aside0 (Below w.heap.size w w'))
 case atStart => exact ⟨(0), yS, H', ⟨Nat.le_refl _⟩, ⟨by refine yH ?_; exact BK503.out⟩, ⟨yB⟩⟩
 case round =>
  clear H'
  try clear p2
  obtain ⟨x7_1, rfl, HA, HK1, BK503, HB⟩ := hrel
  cases gk with
  | zero => exact absurd HA.out (by simp [swarfref43_has.l0])
  | succ k1 =>
   have H := HA.out
   clear HA
   simp only [swarfref43_has.l0] at H
   by_cases c5 : x7_1 < (l0_1.length : Int)
   ·rw [if_pos c5] at H
    have c5b0 := decide_eq_true c5
    clear c5
    by_cases c6 : 0 ≤ x7_1
    ·rw [if_pos c6] at H
     have c6b0 := decide_eq_true c6
     clear c6
     by_cases c7 : ((rd_T78 l0_1 x7_1).f0) = a1
     ·rw [if_pos c7] at H
      have c7b0 : (((rd_T78 l0_1 x7_1).f0) == a1) = true := beq_iff_eq.mpr c7
      have c7b1 : (((rd_T78 l0_1 x7_1).f0) != a1) = false := bne_eq_false_iff_eq.mpr c7
      clear c7
      by_cases c8 : ((rd_T78 l0_1 x7_1).f1) = a2
      ·rw [if_pos c8] at H
       have c8b0 : (((rd_T78 l0_1 x7_1).f1) == a2) = true := beq_iff_eq.mpr c8
       have c8b1 : (((rd_T78 l0_1 x7_1).f1) != a2) = false := bne_eq_false_iff_eq.mpr c8
       clear c8
       obtain rfl := Option.some.inj H
       have hcz9_0 := yZ0 BK503.out
       have hcz9_1 := yZ1 BK503.out
       have hcz9_2 := yZ2 BK503.out
       have hfz9_0 := blk_frozen BK503.out 0
       have hfz9_1 := blk_frozen BK503.out 1
       have hfz9_2 := blk_frozen BK503.out 2
       have p504 : 0 ≤ (x7_1 : Int) := yD
       have q504 : x7_1 < (l0_1.length : Int) := yD
       obtain ⟨ad504, e504, hx504_0, hx504_1⟩ := at_T78 HR0_1.out x7_1 p504 q504
       cases e504
       replace hx504_0 := yM HB.out hx504_0
       replace hx504_1 := yM HB.out hx504_1
       replace p504 := eq_true p504
       replace q504 := eq_true q504
       have p505 : 0 ≤ (x7_1 : Int) := yD
       have q505 : x7_1 < (l0_1.length : Int) := yD
       obtain ⟨ad505, e505, hx505_0, hx505_1⟩ := at_T78 HR0_1.out x7_1 p505 q505
       obtain rfl : ad504 = ad505 := (by injection e505)
       replace hx505_0 := yM HB.out hx505_0
       replace hx505_1 := yM HB.out hx505_1
       replace p505 := eq_true p505
       replace q505 := eq_true q505
       go_wp2
       go_ret
       exact ⟨yE, yB⟩
      rw [if_neg c8] at H
      have c8b0 : (((rd_T78 l0_1 x7_1).f1) == a2) = false := beq_eq_false_iff_ne.mpr c8
      have c8b1 : (((rd_T78 l0_1 x7_1).f1) != a2) = true := bne_iff_ne.mpr c8
      have H' := Aside0.mk H
      clear H
      have hcz10_0 := yZ0 BK503.out
      have hcz10_1 := yZ1 BK503.out
      have hcz10_2 := yZ2 BK503.out
      have hfz10_0 := blk_frozen BK503.out 0
      have hfz10_1 := blk_frozen BK503.out 1
      have hfz10_2 := blk_frozen BK503.out 2
      have p504 : 0 ≤ (x7_1 : Int) := yD
      have q504 : x7_1 < (l0_1.length : Int) := yD
      obtain ⟨ad504, e504, hx504_0, hx504_1⟩ := at_T78 HR0_1.out x7_1 p504 q504
      cases e504
      replace hx504_0 := yM HB.out hx504_0
      replace hx504_1 := yM HB.out hx504_1
      replace p504 := eq_true p504
      replace q504 := eq_true q504
      have p505 : 0 ≤ (x7_1 : Int) := yD
      have q505 : x7_1 < (l0_1.length : Int) := yD
      obtain ⟨ad505, e505, hx505_0, hx505_1⟩ := at_T78 HR0_1.out x7_1 p505 q505
      obtain rfl : ad504 = ad505 := (by injection e505)
      replace hx505_0 := yM HB.out hx505_0
      replace hx505_1 := yM HB.out hx505_1
      replace p505 := eq_true p505
      replace q505 := eq_true q505
      go_wp2
      go_roundg k1
      case measure => have := HK1.out; omega
      case rel => exact ⟨(wrap64 (x7_1 + 1)), yS, H', ⟨by have := HK1.out; omega⟩, ⟨by refine yH ?_; exact BK503.out⟩, ⟨yB⟩⟩
     rw [if_neg c7] at H
     have c7b0 : (((rd_T78 l0_1 x7_1).f0) == a1) = false := beq_eq_false_iff_ne.mpr c7
     have c7b1 : (((rd_T78 l0_1 x7_1).f0) != a1) = true := bne_iff_ne.mpr c7
     have H' := Aside0.mk H
     clear H
     have hcz11_0 := yZ0 BK503.out
     have hcz11_1 := yZ1 BK503.out
     have hcz11_2 := yZ2 BK503.out
     have hfz11_0 := blk_frozen BK503.out 0
     have hfz11_1 := blk_frozen BK503.out 1
     have hfz11_2 := blk_frozen BK503.out 2
     have p504 : 0 ≤ (x7_1 : Int) := yD
     have q504 : x7_1 < (l0_1.length : Int) := yD
     obtain ⟨ad504, e504, hx504_0, hx504_1⟩ := at_T78 HR0_1.out x7_1 p504 q504
     cases e504
     replace hx504_0 := yM HB.out hx504_0
     replace hx504_1 := yM HB.out hx504_1
     replace p504 := eq_true p504
     replace q504 := eq_true q504
     go_wp2
     go_roundg k1
     case measure => have := HK1.out; omega
     case rel => exact ⟨(wrap64 (x7_1 + 1)), yS, H', ⟨by have := HK1.out; omega⟩, ⟨by refine yH ?_; exact BK503.out⟩, ⟨yB⟩⟩
    rw [if_neg c6] at H
    exact absurd H (by simp)
   rw [if_neg c5] at H
   have c5b0 := decide_eq_false c5
   clear c5
   obtain rfl := Option.some.inj H
   have hcz12_0 := yZ0 BK503.out
   have hcz12_1 := yZ1 BK503.out
   have hcz12_2 := yZ2 BK503.out
   have hfz12_0 := blk_frozen BK503.out 0
   have hfz12_1 := blk_frozen BK503.out 1
   have hfz12_2 := blk_frozen BK503.out 2
   go_wp2
   go_ret
   exact ⟨yE, yB⟩
def swarfref43_whole.f (a0 : Int) : Option (Int) := if (Int.tmod a0 1000) = 0 then (if a0 < 1000 then (some 0) else (if a0 > 9999000 then (some 0) else (some (wrap64 (Int.tdiv a0 1000))))) else (some 0)
set_option maxHeartbeats 8000000 in
set_option maxRecDepth 100000 in
theorem swarfref43_whole.calls (a0 : Int) (r : Int) (w : World) (h : swarfref43_whole.f a0 = some r) :
  Calls Try.prog 61 #[.int .i64 a0] w fun e w' => e = .returned (.int .i64 r) ∧ Drawn0 w w' := by
 have H : (if (Int.tmod a0 1000) = 0 then (if a0 < 1000 then (some 0) else (if a0 > 9999000 then (some 0) else (some (wrap64 (Int.tdiv a0 1000))))) else (some 0)) = some r := h
 clear h
 by_cases c2 : (Int.tmod a0 1000) = 0
 ·rw [if_pos c2] at H
  have c2b0 : ((Int.tmod a0 1000) == 0) = true := beq_iff_eq.mpr c2
  have c2b1 : ((Int.tmod a0 1000) != 0) = false := bne_eq_false_iff_eq.mpr c2
  clear c2
  by_cases c3 : a0 < 1000
  ·rw [if_pos c3] at H
   have c3b0 := decide_eq_true c3
   clear c3
   obtain rfl := Option.some.inj H
   go_enter Try.func61, Try.ntmps61
   go_wp2
   go_ret
   exact ⟨by first | rfl | (simp; done) | (simp [*]; done), by repeat (first | exact Drawn0.refl _ | apply Drawn0.step)⟩
  rw [if_neg c3] at H
  have c3b0 := decide_eq_false c3
  clear c3
  by_cases c4 : a0 > 9999000
  ·rw [if_pos c4] at H
   have c4b0 := decide_eq_true c4
   clear c4
   obtain rfl := Option.some.inj H
   go_enter Try.func61, Try.ntmps61
   go_wp2
   go_ret
   exact ⟨by first | rfl | (simp; done) | (simp [*]; done), by repeat (first | exact Drawn0.refl _ | apply Drawn0.step)⟩
  rw [if_neg c4] at H
  have c4b0 := decide_eq_false c4
  clear c4
  obtain rfl := Option.some.inj H
  go_enter Try.func61, Try.ntmps61
  go_wp2
  go_ret
  exact ⟨by first | rfl | (simp; done) | (simp [*]; done), by repeat (first | exact Drawn0.refl _ | apply Drawn0.step)⟩
 rw [if_neg c2] at H
 have c2b0 : ((Int.tmod a0 1000) == 0) = false := beq_eq_false_iff_ne.mpr c2
 have c2b1 : ((Int.tmod a0 1000) != 0) = true := bne_iff_ne.mpr c2
 obtain rfl := Option.some.inj H
 go_enter Try.func61, Try.ntmps61
 go_wp2
 go_ret
 exact ⟨by first | rfl | (simp; done) | (simp [*]; done), by repeat (first | exact Drawn0.refl _ | apply Drawn0.step)⟩
def swarfref41_Codes.l0 : Nat → Int → List Int → Int → Bool → List (S78) → ByteArray → Option (List Int)
 | 0, _, _, _, _, _, _ => none
 | k + 1, x1, x5, x6, x589000, x589001, x589002 => if x6 < (x589001.length : Int) then (if 0 ≤ x6 then (if ((rd_T78 x589001 x6).f0) = x1 then (if x5.length < 17592186044416 then (swarfref41_Codes.l0 k x1 (x5 ++ [(rd_T78 x589001 x6).f1]) (wrap64 (x6 + 1)) x589000 x589001 x589002) else (none)) else (swarfref41_Codes.l0 k x1 x5 (wrap64 (x6 + 1)) x589000 x589001 x589002)) else (none)) else (some x5)
def swarfref41_Codes.f (k : Nat) (a0_0 : Bool) (l0_1 : List (S78)) (a0_2 : ByteArray) (a1 : Int) : Option (List Int) := swarfref41_Codes.l0 k a1 ([] : List Int) 0 a0_0 l0_1 a0_2
set_option maxHeartbeats 8000000 in
set_option maxRecDepth 100000 in
theorem swarfref41_Codes.calls (k : Nat) (a0_0 : Bool) (A0_1 : Option Addr) (c0_1 : Nat) (l0_1 : List (S78)) (a0_2 : ByteArray) (a1 : Int) (r : List Int) (w : World) (hr0_1 : Kd.C k78 w A0_1 l0_1.length l0_1) (hc0_1 : l0_1.length ≤ c0_1) (h : swarfref41_Codes.f k a0_0 l0_1 a0_2 a1 = some r) :
  Calls Try.prog 104 #[.agg #[.bool a0_0, .slice A0_1 l0_1.length c0_1, .string a0_2], .int .u8 a1] w fun e w' => ∃ v0_ : Value, e = .returned (v0_) ∧ Kd.R (Kd.int .i64) 2 w' w.heap.size (fun _ => True) v0_ r ∧ Below w.heap.size w w' := by
 have hu32 := Try.underlying32
 have HR0_1 := Aside0.mk hr0_1
 have HC0_1 := Aside0.mk hc0_1
 clear hr0_1 hc0_1
 have HB := Aside0.mk (Below.refl w.heap.size w)
 have H : (swarfref41_Codes.l0 k a1 ([] : List Int) 0 a0_0 l0_1 a0_2) = some r := h
 clear h
 have H' := Aside0.mk H
 clear H
 go_enter Try.func104, Try.ntmps104
 go_wp2_with (first | ((with_reducible refine gate_dst (N := 2) rfl ?_); refine yX 2 #[.bool a0_0, .slice A0_1 l0_1.length c0_1, .string a0_2] 32 ?_; intro gb588 hg w3 hbox hb; have BK588 := Aside0.mk (hbox); have GE588 := Aside0.mk ((yG hg : w.heap.size ≤ gb588)); replace HB := Aside0.mk (below_step yB hb); clear hb hbox hg))
 go_loopg [5, 6] k (fun kq v5 v6 w' => ∃ (x5_1 : List Int) (x6_1 : Int), v6 = .int .i64 x6_1 ∧ Aside0 (swarfref41_Codes.l0 kq a1 x5_1 x6_1 a0_0 l0_1 a0_2 = some r) ∧ Aside0 (kq ≤ k) ∧ Aside0 (Kd.R (Kd.int .i64) 2 w' w.heap.size (fun _ => True) v5 x5_1) ∧ Aside0 (w'.heap[gb588]? = some (.cells #[.bool a0_0, (.slice A0_1 l0_1.length c0_1), .string a0_2] 32 (0, 0))) ∧ Aside0 (Below w.heap.size w w'))
 case atStart => exact ⟨(([] : List Int)), (0), yS, H', ⟨Nat.le_refl _⟩, ⟨by first | exact Kd.R_nil _ _ _ _ _ | exact Kd.N_nil _ _ _ _ _ | exact Kd.V_nil _ _ _ _ _ | exact Kd.Q_nil _ _ _ _ _ | exact Kd.S_nil _ _ _ _ _⟩, ⟨by refine yH ?_; exact BK588.out⟩, ⟨yB⟩⟩
 case round =>
  clear H'
  try clear c1
  try clear p2
  obtain ⟨x5_1, x6_1, rfl, HA, HK1, HO_5, BK588, HB⟩ := hrel
  cases gk with
  | zero => exact absurd HA.out (by simp [swarfref41_Codes.l0])
  | succ k1 =>
   have H := HA.out
   clear HA
   simp only [swarfref41_Codes.l0] at H
   by_cases c4 : x6_1 < (l0_1.length : Int)
   ·rw [if_pos c4] at H
    have c4b0 := decide_eq_true c4
    clear c4
    by_cases c5 : 0 ≤ x6_1
    ·rw [if_pos c5] at H
     have c5b0 := decide_eq_true c5
     clear c5
     by_cases c6 : ((rd_T78 l0_1 x6_1).f0) = a1
     ·rw [if_pos c6] at H
      have c6b0 : (((rd_T78 l0_1 x6_1).f0) == a1) = true := beq_iff_eq.mpr c6
      have c6b1 : (((rd_T78 l0_1 x6_1).f0) != a1) = false := bne_eq_false_iff_eq.mpr c6
      clear c6
      by_cases c7 : x5_1.length < 17592186044416
      ·rw [if_pos c7] at H
       have LMc7 := Aside0.mk c7
       clear c7
       obtain ⟨y591, hy591⟩ : ∃ y_ : List Int, y_ = (x5_1 ++ [(rd_T78 l0_1 x6_1).f1]) := ⟨_, rfl⟩
       replace H : (swarfref41_Codes.l0 k1 a1 y591 (wrap64 (x6_1 + 1)) a0_0 l0_1 a0_2) = some r := by first | (rw [hy591]; with_reducible exact H) | (have H2_ := (Option.bind_some _ _).symm.trans H; rw [hy591]; with_reducible exact H2_) | (have H2_ := (Option.bind_some _ _).symm.trans H; with_reducible exact H2_) | with_reducible exact H | (rw [hy591]; exact H) | exact H
       have Ny591 := Aside0.mk hy591
       clear hy591
       have H' := Aside0.mk H
       clear H
       have hcz8_0 := yZ0 BK588.out
       have hcz8_1 := yZ1 BK588.out
       have hcz8_2 := yZ2 BK588.out
       have hfz8_0 := blk_frozen BK588.out 0
       have hfz8_1 := blk_frozen BK588.out 1
       have hfz8_2 := blk_frozen BK588.out 2
       have p589 : 0 ≤ (x6_1 : Int) := yD
       have q589 : x6_1 < (l0_1.length : Int) := yD
       obtain ⟨ad589, e589, hx589_0, hx589_1⟩ := at_T78 HR0_1.out x6_1 p589 q589
       cases e589
       replace hx589_0 := yM HB.out hx589_0
       replace hx589_1 := yM HB.out hx589_1
       replace p589 := eq_true p589
       replace q589 := eq_true q589
       have p590 : 0 ≤ (x6_1 : Int) := yD
       have q590 : x6_1 < (l0_1.length : Int) := yD
       obtain ⟨ad590, e590, hx590_0, hx590_1⟩ := at_T78 HR0_1.out x6_1 p590 q590
       obtain rfl : ad589 = ad590 := (by injection e590)
       replace hx590_0 := yM HB.out hx590_0
       replace hx590_1 := yM HB.out hx590_1
       replace p590 := eq_true p590
       replace q590 := eq_true q590
       go_wp2_with (first | ((with_reducible refine gate_builtin (b := .append) (xs := #[.tmp 22, .tmp 29]) rfl ?_); at_builtin; refine Kd.R_append (Kd.int .i64) (w0 := w) w.heap.size rfl (.tmp 22) (.tmp 29) 91 2 (.int .i64 0) 8 rfl Try.underlying91 info2 rfl (by decide) (by omega) u5 x5_1 ((rd_T78 l0_1 x6_1).f1) [.int .i64 ((rd_T78 l0_1 x6_1).f1)] (fun _ => True) (fun _ => False) rfl rfl ?aP (fun _ hk => hk.elim) ?aF ?aO ?aB ?aS ?aL ?_; (case aP => exact rfl); (case aB => exact yB); (case aF => exact (fun _ _ => trivial)); (case aO => exact (yR HO_5.out)); (case aS => exact (below_size yB)); (case aL => have := LMc7.out; omega); intro v592 w9 ho hb hg hat; rw [← Ny591.out] at ho; have n0_ := Aside0.mk (blk_grown (g := gb588) yK hg (Kd.R_ne HO_5.out BK588.out (by decide))); have n1_ := Aside0.mk (hb); have n2_ := Aside0.mk (ho); clear BK588; clear HB; clear HO_5; have BK588 := n0_; have HB := n1_; have HO593 := n2_; clear n0_ n1_ n2_; clear ho hb hg hat))
       go_roundg k1
       case measure => have := HK1.out; omega
       case rel => exact ⟨(y591), (wrap64 (x6_1 + 1)), yS, H', ⟨by have := HK1.out; omega⟩, ⟨by refine yR ?_; exact HO593.out⟩, ⟨by refine yH ?_; exact BK588.out⟩, ⟨yB⟩⟩
      rw [if_neg c7] at H
      exact absurd H (by simp)
     rw [if_neg c6] at H
     have c6b0 : (((rd_T78 l0_1 x6_1).f0) == a1) = false := beq_eq_false_iff_ne.mpr c6
     have c6b1 : (((rd_T78 l0_1 x6_1).f0) != a1) = true := bne_iff_ne.mpr c6
     have H' := Aside0.mk H
     clear H
     have hcz10_0 := yZ0 BK588.out
     have hcz10_1 := yZ1 BK588.out
     have hcz10_2 := yZ2 BK588.out
     have hfz10_0 := blk_frozen BK588.out 0
     have hfz10_1 := blk_frozen BK588.out 1
     have hfz10_2 := blk_frozen BK588.out 2
     have p589 : 0 ≤ (x6_1 : Int) := yD
     have q589 : x6_1 < (l0_1.length : Int) := yD
     obtain ⟨ad589, e589, hx589_0, hx589_1⟩ := at_T78 HR0_1.out x6_1 p589 q589
     cases e589
     replace hx589_0 := yM HB.out hx589_0
     replace hx589_1 := yM HB.out hx589_1
     replace p589 := eq_true p589
     replace q589 := eq_true q589
     go_wp2
     go_roundg k1
     case measure => have := HK1.out; omega
     case rel => exact ⟨(x5_1), (wrap64 (x6_1 + 1)), yS, H', ⟨by have := HK1.out; omega⟩, ⟨by refine yR ?_; exact HO_5.out⟩, ⟨by refine yH ?_; exact BK588.out⟩, ⟨yB⟩⟩
    rw [if_neg c5] at H
    exact absurd H (by simp)
   rw [if_neg c4] at H
   have c4b0 := decide_eq_false c4
   clear c4
   obtain rfl := Option.some.inj H
   have hcz11_0 := yZ0 BK588.out
   have hcz11_1 := yZ1 BK588.out
   have hcz11_2 := yZ2 BK588.out
   have hfz11_0 := blk_frozen BK588.out 0
   have hfz11_1 := blk_frozen BK588.out 1
   have hfz11_2 := blk_frozen BK588.out 2
   go_wp2
   go_ret
   exact ⟨_, yE, by refine yR ?_; exact HO_5.out, yB⟩
def swarfref43_letter.f (k : Nat) (a0_0 : Bool) (l0_1 : List (S78)) (a0_2 : ByteArray) (a1 : Int) : Option (Bool) := (swarfref41_Codes.f k a0_0 l0_1 a0_2 a1).bind fun t595 => (some (decide ((t595.length : Int) > 0)))
set_option maxHeartbeats 8000000 in
set_option maxRecDepth 100000 in
theorem swarfref43_letter.calls (k : Nat) (a0_0 : Bool) (A0_1 : Option Addr) (c0_1 : Nat) (l0_1 : List (S78)) (a0_2 : ByteArray) (a1 : Int) (r : Bool) (w : World) (hr0_1 : Kd.C k78 w A0_1 l0_1.length l0_1) (hc0_1 : l0_1.length ≤ c0_1) (h : swarfref43_letter.f k a0_0 l0_1 a0_2 a1 = some r) :
  Calls Try.prog 83 #[.agg #[.bool a0_0, .slice A0_1 l0_1.length c0_1, .string a0_2], .int .u8 a1] w fun e w' => e = .returned (.bool r) ∧ Below w.heap.size w w' := by
 have hu32 := Try.underlying32
 have HR0_1 := Aside0.mk hr0_1
 have HC0_1 := Aside0.mk hc0_1
 clear hr0_1 hc0_1
 have HB := Aside0.mk (Below.refl w.heap.size w)
 have H : ((swarfref41_Codes.f k a0_0 l0_1 a0_2 a1).bind fun t595 => (some (decide ((t595.length : Int) > 0)))) = some r := h
 clear h
 replace H := Option.bind_eq_some_iff.mp H
 obtain ⟨t595, A30, H⟩ := H
 have A3 := Aside0.mk A30
 clear A30
 obtain rfl := Option.some.inj H
 go_enter Try.func83, Try.ntmps83
 go_wp2_with (first | ((with_reducible refine gate_dst (N := 2) rfl ?_); refine yX 2 #[.bool a0_0, .slice A0_1 l0_1.length c0_1, .string a0_2] 32 ?_; intro gb594 hg w4 hbox hb; have BK594 := Aside0.mk (hbox); have GE594 := Aside0.mk ((yG hg : w.heap.size ≤ gb594)); replace HB := Aside0.mk (below_step yB hb); clear hb hbox hg; have hcz5_0 := yZ0 BK594.out; have hcz5_1 := yZ1 BK594.out; have hcz5_2 := yZ2 BK594.out; have hfz5_0 := blk_frozen BK594.out 0; have hfz5_1 := blk_frozen BK594.out 1; have hfz5_2 := blk_frozen BK594.out 2) | ((with_reducible refine gate_callee (f := 104) rfl ?_); refine goesL_ (some 7) rfl rfl Try.func104 (by kernel_rfl) rfl #[.agg #[.bool a0_0, .slice A0_1 l0_1.length c0_1, .string a0_2], .int .u8 a1] rfl yQ ?_; (with_reducible refine (swarfref41_Codes.calls k a0_0 _ _ l0_1 a0_2 a1 t595 _ ?side1 ?side2 A3.out).mono ?_); (case side1 => exact yC HR0_1.out); (case side2 => exact HC0_1.out); rintro e w6 ⟨v596, rfl, ho0, hb⟩; refine ⟨_, rfl, ?_⟩; have HO597 := Aside0.mk (Kd.R_lower ho0 (below_size yB)); replace BK594 := Aside0.mk (blk_below (g := gb594) yK hb); replace HB := Aside0.mk (below_step yB hb); (try clear hb); (try clear ho0); obtain ⟨Ao7, co7, eo7⟩ := Kd.R_slice HO597.out; subst eo7))
 go_ret
 exact ⟨yE, yB⟩
def swarfref43_End.f (k : Nat) (a0_0 : Bool) (l0_1 : List (S78)) (a0_2 : ByteArray) : Option (Bool) := (swarfref43_has.f k a0_0 l0_1 a0_2 77 30000).bind fun t585 => (some t585)
set_option maxHeartbeats 8000000 in
set_option maxRecDepth 100000 in
theorem swarfref43_End.calls (k : Nat) (a0_0 : Bool) (A0_1 : Option Addr) (c0_1 : Nat) (l0_1 : List (S78)) (a0_2 : ByteArray) (r : Bool) (w : World) (hr0_1 : Kd.C k78 w A0_1 l0_1.length l0_1) (hc0_1 : l0_1.length ≤ c0_1) (h : swarfref43_End.f k a0_0 l0_1 a0_2 = some r) :
  Calls Try.prog 81 #[.agg #[.bool a0_0, .slice A0_1 l0_1.length c0_1, .string a0_2]] w fun e w' => e = .returned (.bool r) ∧ Below w.heap.size w w' := by
 have hu32 := Try.underlying32
 have HR0_1 := Aside0.mk hr0_1
 have HC0_1 := Aside0.mk hc0_1
 clear hr0_1 hc0_1
 have HB := Aside0.mk (Below.refl w.heap.size w)
 have H : ((swarfref43_has.f k a0_0 l0_1 a0_2 77 30000).bind fun t585 => (some t585)) = some r := h
 clear h
 replace H := Option.bind_eq_some_iff.mp H
 obtain ⟨t585, A20, H⟩ := H
 have A2 := Aside0.mk A20
 clear A20
 obtain rfl := Option.some.inj H
 go_enter Try.func81, Try.ntmps81
 go_wp2_with (first | ((with_reducible refine gate_dst (N := 1) rfl ?_); refine yX 1 #[.bool a0_0, .slice A0_1 l0_1.length c0_1, .string a0_2] 32 ?_; intro gb584 hg w3 hbox hb; have BK584 := Aside0.mk (hbox); have GE584 := Aside0.mk ((yG hg : w.heap.size ≤ gb584)); replace HB := Aside0.mk (below_step yB hb); clear hb hbox hg; have hcz4_0 := yZ0 BK584.out; have hcz4_1 := yZ1 BK584.out; have hcz4_2 := yZ2 BK584.out; have hfz4_0 := blk_frozen BK584.out 0; have hfz4_1 := blk_frozen BK584.out 1; have hfz4_2 := blk_frozen BK584.out 2) | ((with_reducible refine gate_callee (f := 60) rfl ?_); refine goesL_ (some 4) rfl rfl Try.func60 (by kernel_rfl) rfl #[.agg #[.bool a0_0, .slice A0_1 l0_1.length c0_1, .string a0_2], .int .u8 77, .int .i64 30000] rfl yQ ?_; (with_reducible refine (swarfref43_has.calls k a0_0 _ _ l0_1 a0_2 77 30000 t585 _ ?side1 ?side2 A2.out).mono ?_); (case side1 => exact yC HR0_1.out); (case side2 => exact HC0_1.out); rintro e w5 ⟨rfl, hb⟩; refine ⟨_, rfl, ?_⟩; replace BK584 := Aside0.mk (blk_below (g := gb584) yK hb); replace HB := Aside0.mk (below_step yB hb); (try clear hb)))
 go_ret
 exact ⟨yE, yB⟩
def swarfref43_Return.f (k : Nat) (a0_0 : Bool) (l0_1 : List (S78)) (a0_2 : ByteArray) : Option (Bool) := (swarfref43_has.f k a0_0 l0_1 a0_2 77 99000).bind fun t587 => (some t587)
set_option maxHeartbeats 8000000 in
set_option maxRecDepth 100000 in
theorem swarfref43_Return.calls (k : Nat) (a0_0 : Bool) (A0_1 : Option Addr) (c0_1 : Nat) (l0_1 : List (S78)) (a0_2 : ByteArray) (r : Bool) (w : World) (hr0_1 : Kd.C k78 w A0_1 l0_1.length l0_1) (hc0_1 : l0_1.length ≤ c0_1) (h : swarfref43_Return.f k a0_0 l0_1 a0_2 = some r) :
  Calls Try.prog 82 #[.agg #[.bool a0_0, .slice A0_1 l0_1.length c0_1, .string a0_2]] w fun e w' => e = .returned (.bool r) ∧ Below w.heap.size w w' := by
 have hu32 := Try.underlying32
 have HR0_1 := Aside0.mk hr0_1
 have HC0_1 := Aside0.mk hc0_1
 clear hr0_1 hc0_1
 have HB := Aside0.mk (Below.refl w.heap.size w)
 have H : ((swarfref43_has.f k a0_0 l0_1 a0_2 77 99000).bind fun t587 => (some t587)) = some r := h
 clear h
 replace H := Option.bind_eq_some_iff.mp H
 obtain ⟨t587, A20, H⟩ := H
 have A2 := Aside0.mk A20
 clear A20
 obtain rfl := Option.some.inj H
 go_enter Try.func82, Try.ntmps82
 go_wp2_with (first | ((with_reducible refine gate_dst (N := 1) rfl ?_); refine yX 1 #[.bool a0_0, .slice A0_1 l0_1.length c0_1, .string a0_2] 32 ?_; intro gb586 hg w3 hbox hb; have BK586 := Aside0.mk (hbox); have GE586 := Aside0.mk ((yG hg : w.heap.size ≤ gb586)); replace HB := Aside0.mk (below_step yB hb); clear hb hbox hg; have hcz4_0 := yZ0 BK586.out; have hcz4_1 := yZ1 BK586.out; have hcz4_2 := yZ2 BK586.out; have hfz4_0 := blk_frozen BK586.out 0; have hfz4_1 := blk_frozen BK586.out 1; have hfz4_2 := blk_frozen BK586.out 2) | ((with_reducible refine gate_callee (f := 60) rfl ?_); refine goesL_ (some 4) rfl rfl Try.func60 (by kernel_rfl) rfl #[.agg #[.bool a0_0, .slice A0_1 l0_1.length c0_1, .string a0_2], .int .u8 77, .int .i64 99000] rfl yQ ?_; (with_reducible refine (swarfref43_has.calls k a0_0 _ _ l0_1 a0_2 77 99000 t587 _ ?side1 ?side2 A2.out).mono ?_); (case side1 => exact yC HR0_1.out); (case side2 => exact HC0_1.out); rintro e w5 ⟨rfl, hb⟩; refine ⟨_, rfl, ?_⟩; replace BK586 := Aside0.mk (blk_below (g := gb586) yK hb); replace HB := Aside0.mk (below_step yB hb); (try clear hb)))
 go_ret
 exact ⟨yE, yB⟩
def swarfref41_Few.l0 : Nat → List (S32) → Int → Option (Bool)
 | 0, _, _ => none
 | k + 1, x0, x5 => if x5 < (x0.length : Int) then (if 0 ≤ x5 then (if (((rd_T32 x0 x5).f1).length : Int) > 20 then (some false) else (if (((rd_T32 x0 x5).f2).size : Int) > 120 then (some false) else (swarfref41_Few.l0 k x0 (wrap64 (x5 + 1))))) else (none)) else (some true)
def swarfref41_Few.f (k : Nat) (l0 : List (S32)) (a1 : Int) : Option (Bool) := if (l0.length : Int) > a1 then (some false) else (swarfref41_Few.l0 k l0 0)
set_option maxHeartbeats 8000000 in
set_option maxRecDepth 100000 in
theorem swarfref41_Few.calls (k : Nat) (A0 : Option Addr) (c0 : Nat) (l0 : List (S32)) (a1 : Int) (r : Bool) (w : World) (hr0 : Kd.C k32 w A0 l0.length l0) (hc0 : l0.length ≤ c0) (h : swarfref41_Few.f k l0 a1 = some r) :
  Calls Try.prog 56 #[.slice A0 l0.length c0, .int .i64 a1] w fun e w' => e = .returned (.bool r) ∧ Drawn0 w w' := by
 have HR0 := Aside0.mk hr0
 have HC0 := Aside0.mk hc0
 clear hr0 hc0
 have H : (if (l0.length : Int) > a1 then (some false) else (swarfref41_Few.l0 k l0 0)) = some r := h
 clear h
 by_cases c3 : (l0.length : Int) > a1
 ·rw [if_pos c3] at H
  have c3b0 := decide_eq_true c3
  clear c3
  obtain rfl := Option.some.inj H
  go_enter Try.func56, Try.ntmps56
  go_wp2
  go_ret
  exact ⟨by first | rfl | (simp; done) | (simp [*]; done), by repeat (first | exact Drawn0.refl _ | apply Drawn0.step)⟩
 rw [if_neg c3] at H
 have c3b0 := decide_eq_false c3
 clear c3
 have H' := Aside0.mk H
 clear H
 go_enter Try.func56, Try.ntmps56
 go_wp2
 go_loopg [5] k (fun kq v5 w' => ∃ (x5_1 : Int), v5 = .int .i64 x5_1 ∧ Aside0 (swarfref41_Few.l0 kq l0 x5_1 = some r) ∧ Aside0 (kq ≤ k) ∧ Drawn0 w w')
 case atStart => exact ⟨(0), yS, H', ⟨Nat.le_refl _⟩, by repeat (first | exact Drawn0.refl _ | apply Drawn0.step)⟩
 case round =>
  clear H'
  try clear p2
  try clear c3
  try clear c3b0
  obtain ⟨x5_1, rfl, HA, HK1, ⟨m1, rfl⟩⟩ := hrel
  cases gk with
  | zero => exact absurd HA.out (by simp [swarfref41_Few.l0])
  | succ k1 =>
   have H := HA.out
   clear HA
   simp only [swarfref41_Few.l0] at H
   by_cases c4 : x5_1 < (l0.length : Int)
   ·rw [if_pos c4] at H
    have c4b0 := decide_eq_true c4
    clear c4
    by_cases c5 : 0 ≤ x5_1
    ·rw [if_pos c5] at H
     have c5b0 := decide_eq_true c5
     clear c5
     by_cases c6 : (((rd_T32 l0 x5_1).f1).length : Int) > 20
     ·rw [if_pos c6] at H
      have c6b0 := decide_eq_true c6
      have c6b1 : decide (20 < ((rd_T32 l0 x5_1).f1).length) = true := decide_eq_true (by omega)
      clear c6
      obtain rfl := Option.some.inj H
      have p493 : 0 ≤ (x5_1 : Int) := yD
      have q493 : x5_1 < (l0.length : Int) := yD
      obtain ⟨ad493, A493_1, c493_1, e493, hx493_0, hx493_1, hx493_2, hl493_1, hi493_1⟩ := at_T32 HR0.out x5_1 p493 q493
      cases e493
      have HR493_1 := Aside0.mk hi493_1
      have HC493_1 := Aside0.mk hl493_1
      clear hi493_1 hl493_1
      replace p493 := eq_true p493
      replace q493 := eq_true q493
      go_wp2
      go_ret
      exact ⟨by first | rfl | (simp; done) | (simp [*]; done), by repeat (first | exact Drawn0.refl _ | apply Drawn0.step)⟩
     rw [if_neg c6] at H
     have c6b0 := decide_eq_false c6
     have c6b1 : decide (20 < ((rd_T32 l0 x5_1).f1).length) = false := decide_eq_false (by omega)
     clear c6
     by_cases c7 : (((rd_T32 l0 x5_1).f2).size : Int) > 120
     ·rw [if_pos c7] at H
      have c7b0 := decide_eq_true c7
      have c7b1 : decide (120 < ((rd_T32 l0 x5_1).f2).size) = true := decide_eq_true (by omega)
      clear c7
      obtain rfl := Option.some.inj H
      have p493 : 0 ≤ (x5_1 : Int) := yD
      have q493 : x5_1 < (l0.length : Int) := yD
      obtain ⟨ad493, A493_1, c493_1, e493, hx493_0, hx493_1, hx493_2, hl493_1, hi493_1⟩ := at_T32 HR0.out x5_1 p493 q493
      cases e493
      have HR493_1 := Aside0.mk hi493_1
      have HC493_1 := Aside0.mk hl493_1
      clear hi493_1 hl493_1
      replace p493 := eq_true p493
      replace q493 := eq_true q493
      have p494 : 0 ≤ (x5_1 : Int) := yD
      have q494 : x5_1 < (l0.length : Int) := yD
      obtain ⟨ad494, A494_1, c494_1, e494, hx494_0, hx494_1, hx494_2, hl494_1, hi494_1⟩ := at_T32 HR0.out x5_1 p494 q494
      obtain rfl : ad493 = ad494 := (by injection e494)
      have HQA494_1 := Aside0.mk (show A494_1 = A493_1 from by first | (have e_ := Option.some.inj (hw493_1.symm.trans hw494_1); injection e_ with e1_ e2_ e3_; exact e1_.symm) | (have e_ := Option.some.inj (hx493_1.symm.trans hx494_1); injection e_ with e1_ e2_ e3_; exact e1_.symm))
      have HQc494_1 := Aside0.mk (show c494_1 = c493_1 from by first | (have e_ := Option.some.inj (hw493_1.symm.trans hw494_1); injection e_ with e1_ e2_ e3_; exact e3_.symm) | (have e_ := Option.some.inj (hx493_1.symm.trans hx494_1); injection e_ with e1_ e2_ e3_; exact e3_.symm))
      have HR494_1 := Aside0.mk hi494_1
      have HC494_1 := Aside0.mk hl494_1
      clear hi494_1 hl494_1
      replace p494 := eq_true p494
      replace q494 := eq_true q494
      have ea_ := Option.some.inj (hx493_1.symm.trans hx494_1)
      injection ea_ with ea_ en_ ec_
      subst ea_
      subst ec_
      clear en_
      go_wp2
      go_ret
      exact ⟨by first | rfl | (simp; done) | (simp [*]; done), by repeat (first | exact Drawn0.refl _ | apply Drawn0.step)⟩
     rw [if_neg c7] at H
     have c7b0 := decide_eq_false c7
     have c7b1 : decide (120 < ((rd_T32 l0 x5_1).f2).size) = false := decide_eq_false (by omega)
     clear c7
     have H' := Aside0.mk H
     clear H
     have p493 : 0 ≤ (x5_1 : Int) := yD
     have q493 : x5_1 < (l0.length : Int) := yD
     obtain ⟨ad493, A493_1, c493_1, e493, hx493_0, hx493_1, hx493_2, hl493_1, hi493_1⟩ := at_T32 HR0.out x5_1 p493 q493
     cases e493
     have HR493_1 := Aside0.mk hi493_1
     have HC493_1 := Aside0.mk hl493_1
     clear hi493_1 hl493_1
     replace p493 := eq_true p493
     replace q493 := eq_true q493
     have p494 : 0 ≤ (x5_1 : Int) := yD
     have q494 : x5_1 < (l0.length : Int) := yD
     obtain ⟨ad494, A494_1, c494_1, e494, hx494_0, hx494_1, hx494_2, hl494_1, hi494_1⟩ := at_T32 HR0.out x5_1 p494 q494
     obtain rfl : ad493 = ad494 := (by injection e494)
     have HQA494_1 := Aside0.mk (show A494_1 = A493_1 from by first | (have e_ := Option.some.inj (hw493_1.symm.trans hw494_1); injection e_ with e1_ e2_ e3_; exact e1_.symm) | (have e_ := Option.some.inj (hx493_1.symm.trans hx494_1); injection e_ with e1_ e2_ e3_; exact e1_.symm))
     have HQc494_1 := Aside0.mk (show c494_1 = c493_1 from by first | (have e_ := Option.some.inj (hw493_1.symm.trans hw494_1); injection e_ with e1_ e2_ e3_; exact e3_.symm) | (have e_ := Option.some.inj (hx493_1.symm.trans hx494_1); injection e_ with e1_ e2_ e3_; exact e3_.symm))
     have HR494_1 := Aside0.mk hi494_1
     have HC494_1 := Aside0.mk hl494_1
     clear hi494_1 hl494_1
     replace p494 := eq_true p494
     replace q494 := eq_true q494
     have ea_ := Option.some.inj (hx493_1.symm.trans hx494_1)
     injection ea_ with ea_ en_ ec_
     subst ea_
     subst ec_
     clear en_
     go_wp2
     go_roundg k1
     case measure => have := HK1.out; omega
     case rel => exact ⟨(wrap64 (x5_1 + 1)), yS, H', ⟨by have := HK1.out; omega⟩, by repeat (first | exact Drawn0.refl _ | apply Drawn0.step)⟩
    rw [if_neg c5] at H
    exact absurd H (by simp)
   rw [if_neg c4] at H
   have c4b0 := decide_eq_false c4
   clear c4
   obtain rfl := Option.some.inj H
   go_wp2
   go_ret
   exact ⟨by first | rfl | (simp; done) | (simp [*]; done), by repeat (first | exact Drawn0.refl _ | apply Drawn0.step)⟩
def swarfref41_printable.f (a0 : Int) : Option (Bool) := if a0 ≥ 32 then (if a0 ≤ 126 then (if a0 = 40 then (some false) else (some (a0 != 41))) else (some false)) else (some false)
set_option maxHeartbeats 8000000 in
set_option maxRecDepth 100000 in
theorem swarfref41_printable.calls (a0 : Int) (r : Bool) (w : World) (h : swarfref41_printable.f a0 = some r) :
  Calls Try.prog 91 #[.int .u8 a0] w fun e w' => e = .returned (.bool r) ∧ Drawn0 w w' := by
 have H : (if a0 ≥ 32 then (if a0 ≤ 126 then (if a0 = 40 then (some false) else (some (a0 != 41))) else (some false)) else (some false)) = some r := h
 clear h
 by_cases c2 : a0 ≥ 32
 ·rw [if_pos c2] at H
  have c2b0 := decide_eq_true c2
  clear c2
  by_cases c3 : a0 ≤ 126
  ·rw [if_pos c3] at H
   have c3b0 := decide_eq_true c3
   clear c3
   by_cases c4 : a0 = 40
   ·rw [if_pos c4] at H
    have c4b0 : (a0 == 40) = true := beq_iff_eq.mpr c4
    have c4b1 : (a0 != 40) = false := bne_eq_false_iff_eq.mpr c4
    clear c4
    obtain rfl := Option.some.inj H
    go_enter Try.func91, Try.ntmps91
    go_wp2
    go_ret
    exact ⟨by first | rfl | (simp; done) | (simp [*]; done), by repeat (first | exact Drawn0.refl _ | apply Drawn0.step)⟩
   rw [if_neg c4] at H
   have c4b0 : (a0 == 40) = false := beq_eq_false_iff_ne.mpr c4
   have c4b1 : (a0 != 40) = true := bne_iff_ne.mpr c4
   obtain rfl := Option.some.inj H
   go_enter Try.func91, Try.ntmps91
   go_wp2
   go_ret
   exact ⟨by first | rfl | (simp; done) | (simp [*]; done), by repeat (first | exact Drawn0.refl _ | apply Drawn0.step)⟩
  rw [if_neg c3] at H
  have c3b0 := decide_eq_false c3
  clear c3
  obtain rfl := Option.some.inj H
  go_enter Try.func91, Try.ntmps91
  go_wp2
  go_ret
  exact ⟨by first | rfl | (simp; done) | (simp [*]; done), by repeat (first | exact Drawn0.refl _ | apply Drawn0.step)⟩
 rw [if_neg c2] at H
 have c2b0 := decide_eq_false c2
 clear c2
 obtain rfl := Option.some.inj H
 go_enter Try.func91, Try.ntmps91
 go_wp2
 go_ret
 exact ⟨by first | rfl | (simp; done) | (simp [*]; done), by repeat (first | exact Drawn0.refl _ | apply Drawn0.step)⟩
mutual
def swarfref41_Valid.j0 : Nat → Bool → Bool → List (S78) → ByteArray → Option (Int)
 | 0, _, _, _, _ => none
 | k + 1, x15, x496000, x496001, x496002 => if x15 = true then (some 1) else (swarfref41_Valid.l0 k 0 x496000 x496001 x496002)
def swarfref41_Valid.l0 : Nat → Int → Bool → List (S78) → ByteArray → Option (Int)
 | 0, _, _, _, _ => none
 | k + 1, x3, x496000, x496001, x496002 => if x3 < (x496001.length : Int) then (if 0 ≤ x3 then (if ((rd_T78 x496001 x3).f0) < 65 then (some 1) else (if ((rd_T78 x496001 x3).f0) > 90 then (some 1) else (if ((rd_T78 x496001 x3).f1) > 1000000000000 then (some 1) else (if ((rd_T78 x496001 x3).f1) < (-1000000000000) then (some 1) else (swarfref41_Valid.l0 k (wrap64 (x3 + 1)) x496000 x496001 x496002))))) else (none)) else (swarfref41_Valid.l1 k 0 x496000 x496001 x496002)
def swarfref41_Valid.l1 : Nat → Int → Bool → List (S78) → ByteArray → Option (Int)
 | 0, _, _, _, _ => none
 | k + 1, x5, x496000, x496001, x496002 => if x5 < (x496002.size : Int) then (if 0 ≤ x5 then ((swarfref41_printable.f (bt x496002 x5)).bind fun t498 => (if t498 = true then (swarfref41_Valid.l1 k (wrap64 (x5 + 1)) x496000 x496001 x496002) else (some 1))) else (none)) else (some 0)
end
def swarfref41_Valid.f (k : Nat) (a0_0 : Bool) (l0_1 : List (S78)) (a0_2 : ByteArray) : Option (Int) := if (l0_1.length : Int) > 16 then (swarfref41_Valid.j0 k true a0_0 l0_1 a0_2) else (swarfref41_Valid.j0 k (decide ((a0_2.size : Int) > 100)) a0_0 l0_1 a0_2)
set_option maxHeartbeats 8000000 in
set_option maxRecDepth 100000 in
theorem swarfref41_Valid.calls (k : Nat) (a0_0 : Bool) (A0_1 : Option Addr) (c0_1 : Nat) (l0_1 : List (S78)) (a0_2 : ByteArray) (r : Int) (w : World) (hr0_1 : Kd.C k78 w A0_1 l0_1.length l0_1) (hc0_1 : l0_1.length ≤ c0_1) (h : swarfref41_Valid.f k a0_0 l0_1 a0_2 = some r) :
  Calls Try.prog 57 #[.agg #[.bool a0_0, .slice A0_1 l0_1.length c0_1, .string a0_2]] w fun e w' => e = .returned (.int .i64 r) ∧ Below w.heap.size w w' := by
 have hu32 := Try.underlying32
 have hu78 := Try.underlying78
 have HR0_1 := Aside0.mk hr0_1
 have HC0_1 := Aside0.mk hc0_1
 clear hr0_1 hc0_1
 have HB := Aside0.mk (Below.refl w.heap.size w)
 have H : (if (l0_1.length : Int) > 16 then (swarfref41_Valid.j0 k true a0_0 l0_1 a0_2) else (swarfref41_Valid.j0 k (decide ((a0_2.size : Int) > 100)) a0_0 l0_1 a0_2)) = some r := h
 clear h
 have HC2 := Aside0.mk H
 clear H
 go_enter Try.func57, Try.ntmps57
 go_upto_region 1 with (first | ((with_reducible refine gate_dst (N := 1) rfl ?_); (try (refine gate_guard (by rfl) ?_; dsimp only)); refine yX 1 #[.bool a0_0, .slice A0_1 l0_1.length c0_1, .string a0_2] 32 ?_; intro gb495 hg w3 hbox hb; have BK495 := Aside0.mk (hbox); have GE495 := Aside0.mk ((yG hg : w.heap.size ≤ gb495)); replace HB := Aside0.mk (below_step yB hb); clear hb hbox hg))
 (try simp only [Act.put, List.setIfInBounds_toArray, List.set_cons_zero, List.set_cons_succ])
 go_cut [15] (fun v15 wc => ∃ (kq : Nat) (x15_1 : Bool), v15 = .bool x15_1 ∧ Aside0 (swarfref41_Valid.j0 kq x15_1 a0_0 l0_1 a0_2 = some r) ∧ Aside0 (kq ≤ k) ∧ Aside0 (wc.heap[gb495]? = some (.cells #[.bool a0_0, (.slice A0_1 l0_1.length c0_1), .string a0_2] 32 (0, 0))) ∧ Aside0 (Below w.heap.size w wc))
 case first =>
  have H := HC2.out
  clear HC2
  by_cases c4 : (l0_1.length : Int) > 16
  ·rw [if_pos c4] at H
   have c4b0 := decide_eq_true c4
   have c4b1 : decide (16 < l0_1.length) = true := decide_eq_true (by omega)
   clear c4
   (first | rw [c4b0] | (simp only [i64_w, i32_w]; rw [c4b0]) | skip)
   have H' := Aside0.mk H
   clear H
   have hcz5_0 := yZ0 BK495.out
   have hcz5_1 := yZ1 BK495.out
   have hcz5_2 := yZ2 BK495.out
   have hfz5_0 := blk_frozen BK495.out 0
   have hfz5_1 := blk_frozen BK495.out 1
   have hfz5_2 := blk_frozen BK495.out 2
   go_wp2
   go_meet
   case rel => exact ⟨_, (true), yS, H', ⟨by first | omega | exact Nat.le_refl _⟩, ⟨by refine yH ?_; exact BK495.out⟩, ⟨yB⟩⟩
  rw [if_neg c4] at H
  have c4b0 := decide_eq_false c4
  have c4b1 : decide (16 < l0_1.length) = false := decide_eq_false (by omega)
  clear c4
  (first | rw [c4b0] | (simp only [i64_w, i32_w]; rw [c4b0]) | skip)
  have H' := Aside0.mk H
  clear H
  have hcz6_0 := yZ0 BK495.out
  have hcz6_1 := yZ1 BK495.out
  have hcz6_2 := yZ2 BK495.out
  have hfz6_0 := blk_frozen BK495.out 0
  have hfz6_1 := blk_frozen BK495.out 1
  have hfz6_2 := blk_frozen BK495.out 2
  go_wp2
  go_meet
  case rel => exact ⟨_, (decide ((a0_2.size : Int) > 100)), yS, H', ⟨by first | omega | exact Nat.le_refl _⟩, ⟨by refine yH ?_; exact BK495.out⟩, ⟨yB⟩⟩
 case rest =>
  clear HC2
  try clear p2
  try clear c4
  try clear c4b0
  try clear c4b1
  try clear c5
  try clear hcz5_0
  try clear hcz5_1
  try clear hcz5_2
  try clear hcz6_0
  try clear hcz6_1
  try clear hcz6_2
  try clear hfz5_0
  try clear hfz5_1
  try clear hfz5_2
  try clear hfz6_0
  try clear hfz6_1
  try clear hfz6_2
  obtain ⟨kq, x15_1, rfl, HA, HJ1, BK495, HB⟩ := hcut
  cases kq with
  | zero => exact absurd HA.out (by simp [swarfref41_Valid.j0])
  | succ kj1 =>
   have H := HA.out
   clear HA
   simp only [swarfref41_Valid.j0] at H
   by_cases c7 : x15_1 = true
   ·subst c7
    rw [if_pos rfl] at H
    obtain rfl := Option.some.inj H
    go_wp2
    go_ret
    exact ⟨yE, yB⟩
   replace c7 := Bool.eq_false_iff.mpr c7
   subst c7
   replace H : (swarfref41_Valid.l0 kj1 0 a0_0 l0_1 a0_2) = some r := by rw [if_neg (show ¬ (false = true) by decide)] at H; exact H
   have H' := Aside0.mk H
   clear H
   go_wp2
   go_loopg [3] kj1 (fun kq v3 w' => ∃ (x3_2 : Int), v3 = .int .i64 x3_2 ∧ Aside0 (swarfref41_Valid.l0 kq x3_2 a0_0 l0_1 a0_2 = some r) ∧ Aside0 (kq ≤ kj1) ∧ Aside0 (w'.heap[gb495]? = some (.cells #[.bool a0_0, (.slice A0_1 l0_1.length c0_1), .string a0_2] 32 (0, 0))) ∧ Aside0 (Below w.heap.size w w'))
   case atStart => exact ⟨(0), yS, H', ⟨Nat.le_refl _⟩, ⟨by refine yH ?_; exact BK495.out⟩, ⟨yB⟩⟩
   case round =>
    clear H'
    try clear p2
    try clear c4
    try clear c4b0
    try clear c4b1
    try clear c5
    try clear c7
    try clear hcz5_0
    try clear hcz5_1
    try clear hcz5_2
    try clear hcz6_0
    try clear hcz6_1
    try clear hcz6_2
    try clear hfz5_0
    try clear hfz5_1
    try clear hfz5_2
    try clear hfz6_0
    try clear hfz6_1
    try clear hfz6_2
    try clear p2
    obtain ⟨x3_2, rfl, HA, HK2, BK495, HB⟩ := hrel
    cases gk with
    | zero => exact absurd HA.out (by simp [swarfref41_Valid.l0])
    | succ k2 =>
     have H := HA.out
     clear HA
     simp only [swarfref41_Valid.l0] at H
     by_cases c8 : x3_2 < (l0_1.length : Int)
     ·rw [if_pos c8] at H
      have c8b0 := decide_eq_true c8
      clear c8
      by_cases c9 : 0 ≤ x3_2
      ·rw [if_pos c9] at H
       have c9b0 := decide_eq_true c9
       clear c9
       by_cases c10 : ((rd_T78 l0_1 x3_2).f0) < 65
       ·rw [if_pos c10] at H
        have c10b0 := decide_eq_true c10
        clear c10
        obtain rfl := Option.some.inj H
        have hcz11_0 := yZ0 BK495.out
        have hcz11_1 := yZ1 BK495.out
        have hcz11_2 := yZ2 BK495.out
        have hfz11_0 := blk_frozen BK495.out 0
        have hfz11_1 := blk_frozen BK495.out 1
        have hfz11_2 := blk_frozen BK495.out 2
        have p496 : 0 ≤ (x3_2 : Int) := yD
        have q496 : x3_2 < (l0_1.length : Int) := yD
        obtain ⟨ad496, e496, hx496_0, hx496_1⟩ := at_T78 HR0_1.out x3_2 p496 q496
        cases e496
        replace hx496_0 := yM HB.out hx496_0
        replace hx496_1 := yM HB.out hx496_1
        replace p496 := eq_true p496
        replace q496 := eq_true q496
        go_wp2_with (first | ((with_reducible refine gate_dst (N := 4) rfl ?_); (try (refine gate_guard (by rfl) ?_; dsimp only)); refine yX 4 #[.int .u8 0, .int .i64 0] 78 ?_; intro gb497 hg w12 hbox hb; have BK497 := Aside0.mk (hbox); have GW497 := Aside0.mk ((yG hg : w.heap.size ≤ gb497)); have GE497 := Aside0.mk ((yG hg : w.heap.size ≤ gb497)); replace HB := Aside0.mk (below_step yB hb); have NB495_497 := Aside0.mk ((yJ hg yK : gb495 ≠ gb497)); have NB497_495 := Aside0.mk ((yI hg yK : gb497 ≠ gb495)); replace BK495 := Aside0.mk (blk_below (g := gb495) yK hb); clear hb hbox hg; have hnb13 := NB497_495.out; have hnc13 := NB495_497.out; have hcz14_0 := yZ0 BK497.out; have hcz14_1 := yZ1 BK497.out; have hfz14_0 := blk_frozen BK497.out 0; have hfz14_1 := blk_frozen BK497.out 1))
        go_ret
        exact ⟨yE, yB⟩
       rw [if_neg c10] at H
       have c10b0 := decide_eq_false c10
       clear c10
       by_cases c15 : ((rd_T78 l0_1 x3_2).f0) > 90
       ·rw [if_pos c15] at H
        have c15b0 := decide_eq_true c15
        clear c15
        obtain rfl := Option.some.inj H
        have hcz16_0 := yZ0 BK495.out
        have hcz16_1 := yZ1 BK495.out
        have hcz16_2 := yZ2 BK495.out
        have hfz16_0 := blk_frozen BK495.out 0
        have hfz16_1 := blk_frozen BK495.out 1
        have hfz16_2 := blk_frozen BK495.out 2
        have p496 : 0 ≤ (x3_2 : Int) := yD
        have q496 : x3_2 < (l0_1.length : Int) := yD
        obtain ⟨ad496, e496, hx496_0, hx496_1⟩ := at_T78 HR0_1.out x3_2 p496 q496
        cases e496
        replace hx496_0 := yM HB.out hx496_0
        replace hx496_1 := yM HB.out hx496_1
        replace p496 := eq_true p496
        replace q496 := eq_true q496
        go_wp2_with (first | ((with_reducible refine gate_dst (N := 4) rfl ?_); (try (refine gate_guard (by rfl) ?_; dsimp only)); refine yX 4 #[.int .u8 0, .int .i64 0] 78 ?_; intro gb497 hg w17 hbox hb; have BK497 := Aside0.mk (hbox); have GW497 := Aside0.mk ((yG hg : w.heap.size ≤ gb497)); have GE497 := Aside0.mk ((yG hg : w.heap.size ≤ gb497)); replace HB := Aside0.mk (below_step yB hb); have NB495_497 := Aside0.mk ((yJ hg yK : gb495 ≠ gb497)); have NB497_495 := Aside0.mk ((yI hg yK : gb497 ≠ gb495)); replace BK495 := Aside0.mk (blk_below (g := gb495) yK hb); clear hb hbox hg; have hnb18 := NB497_495.out; have hnc18 := NB495_497.out; have hcz19_0 := yZ0 BK497.out; have hcz19_1 := yZ1 BK497.out; have hfz19_0 := blk_frozen BK497.out 0; have hfz19_1 := blk_frozen BK497.out 1))
        go_ret
        exact ⟨yE, yB⟩
       rw [if_neg c15] at H
       have c15b0 := decide_eq_false c15
       clear c15
       by_cases c20 : ((rd_T78 l0_1 x3_2).f1) > 1000000000000
       ·rw [if_pos c20] at H
        have c20b0 := decide_eq_true c20
        clear c20
        obtain rfl := Option.some.inj H
        have hcz21_0 := yZ0 BK495.out
        have hcz21_1 := yZ1 BK495.out
        have hcz21_2 := yZ2 BK495.out
        have hfz21_0 := blk_frozen BK495.out 0
        have hfz21_1 := blk_frozen BK495.out 1
        have hfz21_2 := blk_frozen BK495.out 2
        have p496 : 0 ≤ (x3_2 : Int) := yD
        have q496 : x3_2 < (l0_1.length : Int) := yD
        obtain ⟨ad496, e496, hx496_0, hx496_1⟩ := at_T78 HR0_1.out x3_2 p496 q496
        cases e496
        replace hx496_0 := yM HB.out hx496_0
        replace hx496_1 := yM HB.out hx496_1
        replace p496 := eq_true p496
        replace q496 := eq_true q496
        go_wp2_with (first | ((with_reducible refine gate_dst (N := 4) rfl ?_); (try (refine gate_guard (by rfl) ?_; dsimp only)); refine yX 4 #[.int .u8 0, .int .i64 0] 78 ?_; intro gb497 hg w22 hbox hb; have BK497 := Aside0.mk (hbox); have GW497 := Aside0.mk ((yG hg : w.heap.size ≤ gb497)); have GE497 := Aside0.mk ((yG hg : w.heap.size ≤ gb497)); replace HB := Aside0.mk (below_step yB hb); have NB495_497 := Aside0.mk ((yJ hg yK : gb495 ≠ gb497)); have NB497_495 := Aside0.mk ((yI hg yK : gb497 ≠ gb495)); replace BK495 := Aside0.mk (blk_below (g := gb495) yK hb); clear hb hbox hg; have hnb23 := NB497_495.out; have hnc23 := NB495_497.out; have hcz24_0 := yZ0 BK497.out; have hcz24_1 := yZ1 BK497.out; have hfz24_0 := blk_frozen BK497.out 0; have hfz24_1 := blk_frozen BK497.out 1))
        go_ret
        exact ⟨yE, yB⟩
       rw [if_neg c20] at H
       have c20b0 := decide_eq_false c20
       clear c20
       by_cases c25 : ((rd_T78 l0_1 x3_2).f1) < (-1000000000000)
       ·rw [if_pos c25] at H
        have c25b0 := decide_eq_true c25
        clear c25
        obtain rfl := Option.some.inj H
        have hcz26_0 := yZ0 BK495.out
        have hcz26_1 := yZ1 BK495.out
        have hcz26_2 := yZ2 BK495.out
        have hfz26_0 := blk_frozen BK495.out 0
        have hfz26_1 := blk_frozen BK495.out 1
        have hfz26_2 := blk_frozen BK495.out 2
        have p496 : 0 ≤ (x3_2 : Int) := yD
        have q496 : x3_2 < (l0_1.length : Int) := yD
        obtain ⟨ad496, e496, hx496_0, hx496_1⟩ := at_T78 HR0_1.out x3_2 p496 q496
        cases e496
        replace hx496_0 := yM HB.out hx496_0
        replace hx496_1 := yM HB.out hx496_1
        replace p496 := eq_true p496
        replace q496 := eq_true q496
        go_wp2_with (first | ((with_reducible refine gate_dst (N := 4) rfl ?_); (try (refine gate_guard (by rfl) ?_; dsimp only)); refine yX 4 #[.int .u8 0, .int .i64 0] 78 ?_; intro gb497 hg w27 hbox hb; have BK497 := Aside0.mk (hbox); have GW497 := Aside0.mk ((yG hg : w.heap.size ≤ gb497)); have GE497 := Aside0.mk ((yG hg : w.heap.size ≤ gb497)); replace HB := Aside0.mk (below_step yB hb); have NB495_497 := Aside0.mk ((yJ hg yK : gb495 ≠ gb497)); have NB497_495 := Aside0.mk ((yI hg yK : gb497 ≠ gb495)); replace BK495 := Aside0.mk (blk_below (g := gb495) yK hb); clear hb hbox hg; have hnb28 := NB497_495.out; have hnc28 := NB495_497.out; have hcz29_0 := yZ0 BK497.out; have hcz29_1 := yZ1 BK497.out; have hfz29_0 := blk_frozen BK497.out 0; have hfz29_1 := blk_frozen BK497.out 1))
        go_ret
        exact ⟨yE, yB⟩
       rw [if_neg c25] at H
       have c25b0 := decide_eq_false c25
       clear c25
       have H' := Aside0.mk H
       clear H
       have hcz30_0 := yZ0 BK495.out
       have hcz30_1 := yZ1 BK495.out
       have hcz30_2 := yZ2 BK495.out
       have hfz30_0 := blk_frozen BK495.out 0
       have hfz30_1 := blk_frozen BK495.out 1
       have hfz30_2 := blk_frozen BK495.out 2
       have p496 : 0 ≤ (x3_2 : Int) := yD
       have q496 : x3_2 < (l0_1.length : Int) := yD
       obtain ⟨ad496, e496, hx496_0, hx496_1⟩ := at_T78 HR0_1.out x3_2 p496 q496
       cases e496
       replace hx496_0 := yM HB.out hx496_0
       replace hx496_1 := yM HB.out hx496_1
       replace p496 := eq_true p496
       replace q496 := eq_true q496
       go_wp2_with (first | ((with_reducible refine gate_dst (N := 4) rfl ?_); (try (refine gate_guard (by rfl) ?_; dsimp only)); refine yX 4 #[.int .u8 0, .int .i64 0] 78 ?_; intro gb497 hg w31 hbox hb; have BK497 := Aside0.mk (hbox); have GW497 := Aside0.mk ((yG hg : w.heap.size ≤ gb497)); have GE497 := Aside0.mk ((yG hg : w.heap.size ≤ gb497)); replace HB := Aside0.mk (below_step yB hb); have NB495_497 := Aside0.mk ((yJ hg yK : gb495 ≠ gb497)); have NB497_495 := Aside0.mk ((yI hg yK : gb497 ≠ gb495)); replace BK495 := Aside0.mk (blk_below (g := gb495) yK hb); clear hb hbox hg; have hnb32 := NB497_495.out; have hnc32 := NB495_497.out; have hcz33_0 := yZ0 BK497.out; have hcz33_1 := yZ1 BK497.out; have hfz33_0 := blk_frozen BK497.out 0; have hfz33_1 := blk_frozen BK497.out 1))
       go_roundg k2
       case measure => have := HJ1.out; have := HK2.out; omega
       case rel => exact ⟨(wrap64 (x3_2 + 1)), yS, H', ⟨by have := HJ1.out; have := HK2.out; omega⟩, ⟨by refine yH ?_; refine blk_far ?_ NB495_497.out _; refine yH ?_; refine blk_far ?_ NB495_497.out _; refine yH ?_; exact BK495.out⟩, ⟨yB⟩⟩
      rw [if_neg c9] at H
      exact absurd H (by simp)
     rw [if_neg c8] at H
     have c8b0 := decide_eq_false c8
     clear c8
     have H' := Aside0.mk H
     clear H
     have hcz34_0 := yZ0 BK495.out
     have hcz34_1 := yZ1 BK495.out
     have hcz34_2 := yZ2 BK495.out
     have hfz34_0 := blk_frozen BK495.out 0
     have hfz34_1 := blk_frozen BK495.out 1
     have hfz34_2 := blk_frozen BK495.out 2
     go_wp2
     go_loopg [5] k2 (fun kq v5 w' => ∃ (x5_3 : Int), v5 = .int .i64 x5_3 ∧ Aside0 (swarfref41_Valid.l1 kq x5_3 a0_0 l0_1 a0_2 = some r) ∧ Aside0 (kq ≤ k2) ∧ Aside0 (w'.heap[gb495]? = some (.cells #[.bool a0_0, (.slice A0_1 l0_1.length c0_1), .string a0_2] 32 (0, 0))) ∧ Aside0 (Below w.heap.size w w'))
     case atStart => exact ⟨(0), yS, H', ⟨Nat.le_refl _⟩, ⟨by refine yH ?_; exact BK495.out⟩, ⟨yB⟩⟩
     case round =>
      clear H'
      try clear c1
      try clear c2
      try clear p2
      try clear c3
      try clear c4
      try clear c4b0
      try clear c4b1
      try clear p4
      try clear q4
      try clear hx4
      try clear c5
      try clear p6
      try clear c7
      try clear c8
      try clear c8b0
      try clear c9
      try clear c9b0
      try clear c10
      try clear c10b0
      try clear c13
      try clear c15
      try clear c15b0
      try clear c18
      try clear c20
      try clear c20b0
      try clear c23
      try clear c25
      try clear c25b0
      try clear c28
      try clear c32
      try clear hcz11_0
      try clear hcz11_1
      try clear hcz11_2
      try clear hcz14_0
      try clear hcz14_1
      try clear hcz16_0
      try clear hcz16_1
      try clear hcz16_2
      try clear hcz19_0
      try clear hcz19_1
      try clear hcz21_0
      try clear hcz21_1
      try clear hcz21_2
      try clear hcz24_0
      try clear hcz24_1
      try clear hcz26_0
      try clear hcz26_1
      try clear hcz26_2
      try clear hcz29_0
      try clear hcz29_1
      try clear hcz30_0
      try clear hcz30_1
      try clear hcz30_2
      try clear hcz33_0
      try clear hcz33_1
      try clear hcz34_0
      try clear hcz34_1
      try clear hcz34_2
      try clear hcz5_0
      try clear hcz5_1
      try clear hcz5_2
      try clear hcz6_0
      try clear hcz6_1
      try clear hcz6_2
      try clear hfz11_0
      try clear hfz11_1
      try clear hfz11_2
      try clear hfz14_0
      try clear hfz14_1
      try clear hfz16_0
      try clear hfz16_1
      try clear hfz16_2
      try clear hfz19_0
      try clear hfz19_1
      try clear hfz21_0
      try clear hfz21_1
      try clear hfz21_2
      try clear hfz24_0
      try clear hfz24_1
      try clear hfz26_0
      try clear hfz26_1
      try clear hfz26_2
      try clear hfz29_0
      try clear hfz29_1
      try clear hfz30_0
      try clear hfz30_1
      try clear hfz30_2
      try clear hfz33_0
      try clear hfz33_1
      try clear hfz34_0
      try clear hfz34_1
      try clear hfz34_2
      try clear hfz5_0
      try clear hfz5_1
      try clear hfz5_2
      try clear hfz6_0
      try clear hfz6_1
      try clear hfz6_2
      try clear hx496_0
      try clear hx496_1
      try clear p2
      try clear p496
      try clear q496
      obtain ⟨x5_3, rfl, HA, HK3, BK495, HB⟩ := hrel
      cases gk with
      | zero => exact absurd HA.out (by simp [swarfref41_Valid.l1])
      | succ k3 =>
       have H := HA.out
       clear HA
       simp only [swarfref41_Valid.l1] at H
       by_cases c35 : x5_3 < (a0_2.size : Int)
       ·rw [if_pos c35] at H
        have c35b0 := decide_eq_true c35
        clear c35
        by_cases c36 : 0 ≤ x5_3
        ·rw [if_pos c36] at H
         have c36b0 := decide_eq_true c36
         clear c36
         replace H := Option.bind_eq_some_iff.mp H
         obtain ⟨t498, A380, H⟩ := H
         have A38 := Aside0.mk A380
         clear A380
         by_cases c39 : t498 = true
         ·subst c39
          rw [if_pos rfl] at H
          have H' := Aside0.mk H
          clear H
          have hcz40_0 := yZ0 BK495.out
          have hcz40_1 := yZ1 BK495.out
          have hcz40_2 := yZ2 BK495.out
          have hfz40_0 := blk_frozen BK495.out 0
          have hfz40_1 := blk_frozen BK495.out 1
          have hfz40_2 := blk_frozen BK495.out 2
          have p37 : 0 ≤ (x5_3 : Int) := yD
          have q37 : x5_3 < (a0_2.size : Int) := yD
          have hx37 := bt_at a0_2 x5_3
          replace p37 := eq_true p37
          replace q37 := eq_true q37
          go_wp2_with (first | ((with_reducible refine gate_callee (f := 91) rfl ?_); refine goesL_ (some 57) rfl rfl Try.func91 (by kernel_rfl) rfl #[.int .u8 (bt a0_2 x5_3)] rfl yQ ?_; (with_reducible refine (swarfref41_printable.calls (bt a0_2 x5_3) true _ A38.out).mono ?_); rintro e w' ⟨rfl, ⟨nd, rfl⟩⟩; refine ⟨_, rfl, ?_⟩))
          go_roundg k3
          case measure => have := HJ1.out; have := HK2.out; have := HK3.out; omega
          case rel => exact ⟨(wrap64 (x5_3 + 1)), yS, H', ⟨by have := HJ1.out; have := HK2.out; have := HK3.out; omega⟩, ⟨by refine yH ?_; exact BK495.out⟩, ⟨yB⟩⟩
         replace c39 := Bool.eq_false_iff.mpr c39
         subst c39
         replace H : (some 1) = some r := by rw [if_neg (show ¬ (false = true) by decide)] at H; exact H
         obtain rfl := Option.some.inj H
         have hcz41_0 := yZ0 BK495.out
         have hcz41_1 := yZ1 BK495.out
         have hcz41_2 := yZ2 BK495.out
         have hfz41_0 := blk_frozen BK495.out 0
         have hfz41_1 := blk_frozen BK495.out 1
         have hfz41_2 := blk_frozen BK495.out 2
         have p37 : 0 ≤ (x5_3 : Int) := yD
         have q37 : x5_3 < (a0_2.size : Int) := yD
         have hx37 := bt_at a0_2 x5_3
         replace p37 := eq_true p37
         replace q37 := eq_true q37
         go_wp2_with (first | ((with_reducible refine gate_callee (f := 91) rfl ?_); refine goesL_ (some 57) rfl rfl Try.func91 (by kernel_rfl) rfl #[.int .u8 (bt a0_2 x5_3)] rfl yQ ?_; (with_reducible refine (swarfref41_printable.calls (bt a0_2 x5_3) false _ A38.out).mono ?_); rintro e w' ⟨rfl, ⟨nd, rfl⟩⟩; refine ⟨_, rfl, ?_⟩))
         go_ret
         exact ⟨yE, yB⟩
        rw [if_neg c36] at H
        exact absurd H (by simp)
       rw [if_neg c35] at H
       have c35b0 := decide_eq_false c35
       clear c35
       obtain rfl := Option.some.inj H
       have hcz42_0 := yZ0 BK495.out
       have hcz42_1 := yZ1 BK495.out
       have hcz42_2 := yZ2 BK495.out
       have hfz42_0 := blk_frozen BK495.out 0
       have hfz42_1 := blk_frozen BK495.out 1
       have hfz42_2 := blk_frozen BK495.out 2
       go_wp2
       go_ret
       exact ⟨yE, yB⟩
def swarflaw43_valid.l0 : Nat → List (S32) → Int → Int → Option (Bool)
 | 0, _, _, _ => none
 | k + 1, x11, x12, x13 => if x13 < x12 then (if 0 ≤ x13 then (if x13 < (x11.length : Int) then ((swarfref41_Valid.f k ((rd_T32 x11 x13).f0) ((rd_T32 x11 x13).f1) ((rd_T32 x11 x13).f2)).bind fun t502 => (if t502 = 0 then (swarflaw43_valid.l0 k x11 x12 (wrap64 (x13 + 1))) else (some false))) else (none)) else (none)) else (some true)
def swarflaw43_valid.f (k : Nat) (l0 : List (S32)) (a1 : Int) : Option (Bool) := (swarfref41_Few.f k l0 a1).bind fun t499 => (if t499 = true then (swarflaw43_valid.l0 k l0 (l0.length : Int) 0) else (some false))
set_option maxHeartbeats 8000000 in
set_option maxRecDepth 100000 in
theorem swarflaw43_valid.calls (k : Nat) (A0 : Option Addr) (c0 : Nat) (l0 : List (S32)) (a1 : Int) (r : Bool) (w : World) (hr0 : Kd.C k32 w A0 l0.length l0) (hc0 : l0.length ≤ c0) (h : swarflaw43_valid.f k l0 a1 = some r) :
  Calls Try.prog 24 #[.slice A0 l0.length c0, .int .i64 a1] w fun e w' => e = .returned (.bool r) ∧ Below w.heap.size w w' := by
 have hu32 := Try.underlying32
 have HR0 := Aside0.mk hr0
 have HC0 := Aside0.mk hc0
 clear hr0 hc0
 have HB := Aside0.mk (Below.refl w.heap.size w)
 have H : ((swarfref41_Few.f k l0 a1).bind fun t499 => (if t499 = true then (swarflaw43_valid.l0 k l0 (l0.length : Int) 0) else (some false))) = some r := h
 clear h
 replace H := Option.bind_eq_some_iff.mp H
 obtain ⟨t499, A30, H⟩ := H
 have A3 := Aside0.mk A30
 clear A30
 by_cases c4 : t499 = true
 ·subst c4
  rw [if_pos rfl] at H
  have H' := Aside0.mk H
  clear H
  go_enter Try.func24, Try.ntmps24
  go_wp2_with (first | ((with_reducible refine gate_callee (f := 56) rfl ?_); refine goesL_ (some 9) rfl rfl Try.func56 (by kernel_rfl) rfl #[.slice A0 l0.length c0, .int .i64 a1] rfl yQ ?_; (with_reducible refine (swarfref41_Few.calls k _ _ l0 a1 true _ ?side1 ?side2 A3.out).mono ?_); (case side1 => repeat (first | exact HR0.out | (with_reducible refine Kd.C_alloc ?_ _) | (with_reducible refine Kd.C_drewN ?_ _) | (with_reducible refine Kd.C_drew ?_))); (case side2 => exact HC0.out); rintro e w' ⟨rfl, ⟨nd, rfl⟩⟩; refine ⟨_, rfl, ?_⟩))
  go_loopg [13] k (fun kq v13 w' => ∃ (x13_1 : Int), v13 = .int .i64 x13_1 ∧ Aside0 (swarflaw43_valid.l0 kq l0 (l0.length : Int) x13_1 = some r) ∧ Aside0 (kq ≤ k) ∧ Aside0 (Below w.heap.size w w'))
  case atStart => exact ⟨(0), yS, H', ⟨Nat.le_refl _⟩, ⟨yB⟩⟩
  case round =>
   clear H'
   try clear c2
   try clear p2
   try clear c4
   obtain ⟨x13_1, rfl, HA, HK1, HB⟩ := hrel
   cases gk with
   | zero => exact absurd HA.out (by simp [swarflaw43_valid.l0])
   | succ k1 =>
    have H := HA.out
    clear HA
    simp only [swarflaw43_valid.l0] at H
    by_cases c5 : x13_1 < (l0.length : Int)
    ·rw [if_pos c5] at H
     have c5b0 := decide_eq_true c5
     clear c5
     by_cases c6 : 0 ≤ x13_1
     ·rw [if_pos c6] at H
      have c6b0 := decide_eq_true c6
      clear c6
      by_cases c7 : x13_1 < (l0.length : Int)
      ·rw [if_pos c7] at H
       have c7b0 := decide_eq_true c7
       clear c7
       replace H := Option.bind_eq_some_iff.mp H
       obtain ⟨t502, A80, H⟩ := H
       have A8 := Aside0.mk A80
       clear A80
       by_cases c9 : t502 = 0
       ·rw [if_pos c9] at H
        have c9b0 : (t502 == 0) = true := beq_iff_eq.mpr c9
        have c9b1 : (t502 != 0) = false := bne_eq_false_iff_eq.mpr c9
        clear c9
        have H' := Aside0.mk H
        clear H
        have p500 : 0 ≤ (x13_1 : Int) := yD
        have q500 : x13_1 < (l0.length : Int) := yD
        obtain ⟨ad500, A500_1, c500_1, e500, hx500_0, hx500_1, hx500_2, hl500_1, hi500_1⟩ := at_T32 HR0.out x13_1 p500 q500
        cases e500
        replace hx500_0 := yM HB.out hx500_0
        replace hx500_1 := yM HB.out hx500_1
        replace hx500_2 := yM HB.out hx500_2
        have HR500_1 := Aside0.mk hi500_1
        have HC500_1 := Aside0.mk hl500_1
        clear hi500_1 hl500_1
        replace p500 := eq_true p500
        replace q500 := eq_true q500
        go_wp2_with (first | ((with_reducible refine gate_dst (N := 6) rfl ?_); refine yX 6 #[.bool false, .slice none 0 0, .string (⟨#[]⟩ : ByteArray)] 32 ?_; intro gb501 hg w10 hbox hb; have BK501 := Aside0.mk (hbox); have GW501 := Aside0.mk ((yG hg : w.heap.size ≤ gb501)); have GE501 := Aside0.mk ((yG hg : w.heap.size ≤ gb501)); replace HB := Aside0.mk (below_step yB hb); clear hb hbox hg; have hcz11_0 := yZ0 BK501.out; have hcz11_1 := yZ1 BK501.out; have hcz11_2 := yZ2 BK501.out; have hfz11_0 := blk_frozen BK501.out 0; have hfz11_1 := blk_frozen BK501.out 1; have hfz11_2 := blk_frozen BK501.out 2) | ((with_reducible refine gate_callee (f := 57) rfl ?_); refine goesL_ (some 18) rfl rfl Try.func57 (by kernel_rfl) rfl #[.agg #[.bool ((rd_T32 l0 x13_1).f0), .slice A500_1 ((rd_T32 l0 x13_1).f1).length c500_1, .string ((rd_T32 l0 x13_1).f2)]] rfl yQ ?_; (with_reducible refine (swarfref41_Valid.calls k1 ((rd_T32 l0 x13_1).f0) _ _ ((rd_T32 l0 x13_1).f1) ((rd_T32 l0 x13_1).f2) t502 _ ?side1 ?side2 A8.out).mono ?_); (case side1 => exact Kd.C_below HR500_1.out yB); (case side2 => exact HC500_1.out); rintro e w12 ⟨rfl, hb⟩; refine ⟨_, rfl, ?_⟩; replace BK501 := Aside0.mk (blk_below (g := gb501) (o := .cells #[.bool ((rd_T32 l0 x13_1).f0), .slice A500_1 ((rd_T32 l0 x13_1).f1).length c500_1, .string ((rd_T32 l0 x13_1).f2)] 32 (0, 0)) (by refine yH ?_; refine blk_put (cs := #[.bool ((rd_T32 l0 x13_1).f0), .slice A500_1 ((rd_T32 l0 x13_1).f1).length c500_1, .string (⟨#[]⟩ : ByteArray)]) ?_ 2 _ rfl; refine yH ?_; refine blk_put (cs := #[.bool ((rd_T32 l0 x13_1).f0), .slice none 0 0, .string (⟨#[]⟩ : ByteArray)]) ?_ 1 _ rfl; refine yH ?_; refine blk_put (cs := #[.bool false, .slice none 0 0, .string (⟨#[]⟩ : ByteArray)]) ?_ 0 _ rfl; refine yH ?_; exact BK501.out) hb); replace HB := Aside0.mk (below_step yB hb); (try clear hb)))
        go_roundg k1
        case measure => have := HK1.out; omega
        case rel => exact ⟨(wrap64 (x13_1 + 1)), yS, H', ⟨by have := HK1.out; omega⟩, ⟨yB⟩⟩
       rw [if_neg c9] at H
       have c9b0 : (t502 == 0) = false := beq_eq_false_iff_ne.mpr c9
       have c9b1 : (t502 != 0) = true := bne_iff_ne.mpr c9
       obtain rfl := Option.some.inj H
       have p500 : 0 ≤ (x13_1 : Int) := yD
       have q500 : x13_1 < (l0.length : Int) := yD
       obtain ⟨ad500, A500_1, c500_1, e500, hx500_0, hx500_1, hx500_2, hl500_1, hi500_1⟩ := at_T32 HR0.out x13_1 p500 q500
       cases e500
       replace hx500_0 := yM HB.out hx500_0
       replace hx500_1 := yM HB.out hx500_1
       replace hx500_2 := yM HB.out hx500_2
       have HR500_1 := Aside0.mk hi500_1
       have HC500_1 := Aside0.mk hl500_1
       clear hi500_1 hl500_1
       replace p500 := eq_true p500
       replace q500 := eq_true q500
       go_wp2_with (first | ((with_reducible refine gate_dst (N := 6) rfl ?_); refine yX 6 #[.bool false, .slice none 0 0, .string (⟨#[]⟩ : ByteArray)] 32 ?_; intro gb501 hg w13 hbox hb; have BK501 := Aside0.mk (hbox); have GW501 := Aside0.mk ((yG hg : w.heap.size ≤ gb501)); have GE501 := Aside0.mk ((yG hg : w.heap.size ≤ gb501)); replace HB := Aside0.mk (below_step yB hb); clear hb hbox hg; have hcz14_0 := yZ0 BK501.out; have hcz14_1 := yZ1 BK501.out; have hcz14_2 := yZ2 BK501.out; have hfz14_0 := blk_frozen BK501.out 0; have hfz14_1 := blk_frozen BK501.out 1; have hfz14_2 := blk_frozen BK501.out 2) | ((with_reducible refine gate_callee (f := 57) rfl ?_); refine goesL_ (some 18) rfl rfl Try.func57 (by kernel_rfl) rfl #[.agg #[.bool ((rd_T32 l0 x13_1).f0), .slice A500_1 ((rd_T32 l0 x13_1).f1).length c500_1, .string ((rd_T32 l0 x13_1).f2)]] rfl yQ ?_; (with_reducible refine (swarfref41_Valid.calls k1 ((rd_T32 l0 x13_1).f0) _ _ ((rd_T32 l0 x13_1).f1) ((rd_T32 l0 x13_1).f2) t502 _ ?side1 ?side2 A8.out).mono ?_); (case side1 => exact Kd.C_below HR500_1.out yB); (case side2 => exact HC500_1.out); rintro e w15 ⟨rfl, hb⟩; refine ⟨_, rfl, ?_⟩; replace BK501 := Aside0.mk (blk_below (g := gb501) (o := .cells #[.bool ((rd_T32 l0 x13_1).f0), .slice A500_1 ((rd_T32 l0 x13_1).f1).length c500_1, .string ((rd_T32 l0 x13_1).f2)] 32 (0, 0)) (by refine yH ?_; refine blk_put (cs := #[.bool ((rd_T32 l0 x13_1).f0), .slice A500_1 ((rd_T32 l0 x13_1).f1).length c500_1, .string (⟨#[]⟩ : ByteArray)]) ?_ 2 _ rfl; refine yH ?_; refine blk_put (cs := #[.bool ((rd_T32 l0 x13_1).f0), .slice none 0 0, .string (⟨#[]⟩ : ByteArray)]) ?_ 1 _ rfl; refine yH ?_; refine blk_put (cs := #[.bool false, .slice none 0 0, .string (⟨#[]⟩ : ByteArray)]) ?_ 0 _ rfl; refine yH ?_; exact BK501.out) hb); replace HB := Aside0.mk (below_step yB hb); (try clear hb)))
       go_ret
       exact ⟨yE, yB⟩
      rw [if_neg c7] at H
      exact absurd H (by simp)
     rw [if_neg c6] at H
     exact absurd H (by simp)
    rw [if_neg c5] at H
    have c5b0 := decide_eq_false c5
    clear c5
    obtain rfl := Option.some.inj H
    go_wp2
    go_ret
    exact ⟨yE, yB⟩
 replace c4 := Bool.eq_false_iff.mpr c4
 subst c4
 replace H : (some false) = some r := by rw [if_neg (show ¬ (false = true) by decide)] at H; exact H
 obtain rfl := Option.some.inj H
 go_enter Try.func24, Try.ntmps24
 go_wp2_with (first | ((with_reducible refine gate_callee (f := 56) rfl ?_); refine goesL_ (some 9) rfl rfl Try.func56 (by kernel_rfl) rfl #[.slice A0 l0.length c0, .int .i64 a1] rfl yQ ?_; (with_reducible refine (swarfref41_Few.calls k _ _ l0 a1 false _ ?side1 ?side2 A3.out).mono ?_); (case side1 => repeat (first | exact HR0.out | (with_reducible refine Kd.C_alloc ?_ _) | (with_reducible refine Kd.C_drewN ?_ _) | (with_reducible refine Kd.C_drew ?_))); (case side2 => exact HC0.out); rintro e w' ⟨rfl, ⟨nd, rfl⟩⟩; refine ⟨_, rfl, ?_⟩))
 go_ret
 exact ⟨yE, yB⟩
end Go.Proofs.Ytehkhbnhmehobaa.P
namespace Go.Proofs.Ytehkhbnhmehobaa.P
open Go.RowKit Go.Proofs.YtehkhbnhmehobaaW.PrintWords Go.Proofs.YtehkhbnhmehobaaW.PrintLast Go.Proofs.YtehkhbnhmehobaaW.PrintMore
set_option linter.unusedVariables false
set_option linter.unusedSimpArgs false
abbrev Wd := S78
abbrev Bk := S32
def hasS (l : List Wd) (a v : Int) : Bool := l.any (fun w => decide (w.f0 = a) && decide (w.f1 = v))
def codesS (l : List Wd) (a : Int) : List Int := (l.filter (fun w => decide (w.f0 = a))).map (fun w => w.f1)
def anyS (l : List Wd) (a : Int) : Bool := l.any (fun w => decide (w.f0 = a))
theorem codesS_cons (w : Wd) (l : List Wd) (a : Int) : codesS (w :: l) a = if w.f0 = a then w.f1 :: codesS l a else codesS l a := by
  unfold codesS
  by_cases h : w.f0 = a <;> simp [List.filter_cons, h]
theorem hasS_cons (w : Wd) (l : List Wd) (a v : Int) : hasS (w :: l) a v = (decide (w.f0 = a) && decide (w.f1 = v) || hasS l a v) := rfl
theorem codesS_length (l : List Wd) (a : Int) : (codesS l a).length ≤ l.length := by
  unfold codesS
  rw [List.length_map]
  exact List.length_filter_le _ _
theorem codesS_pos (l : List Wd) (a : Int) : decide (((codesS l a).length : Int) > 0) = anyS l a := by
  unfold codesS anyS
  rw [List.length_map]
  induction l with
  | nil => rfl
  | cons w l ih =>
    by_cases h : w.f0 = a
    · simp [List.filter_cons, h]
    simp only [List.filter_cons, h, decide_false, Bool.false_eq_true, if_false, List.any_cons, Bool.false_or]; exact ih
theorem mem_codesS (l : List Wd) (a v : Int) : decide (v ∈ codesS l a) = hasS l a v := by
  induction l with
  | nil => simp [codesS, hasS]
  | cons w l ih =>
    rw [codesS_cons]
    unfold hasS at ih ⊢
    rw [List.any_cons, ← ih]
    by_cases h : w.f0 = a
    · by_cases h2 : w.f1 = v
      · simp [h, h2]
      have h3 : ¬ v = w.f1 := fun e => h2 e.symm
      simp [h, h2, h3]
    simp [h]
theorem Codes_l0 (a : Int) (l : List Wd) (hl : l.length ≤ 1000000) : ∀ (n j : Nat) (acc : List Int), j + n = l.length → acc.length ≤ j → Ev (fun k => block_Codes.l0 k a acc l (l.length : Int) (j : Int)) (acc ++ codesS (l.drop j) a) := by
  intro n
  induction n with
  | zero =>
    intro j acc hj ha
    refine Ev.step (fun k => by rw [block_Codes.l0]) (Ev.neg (by omega) ?_)
    rw [List.drop_eq_nil_of_le (by omega)]
    simpa [codesS] using Ev.some
  | succ n ih =>
    intro j acc hj ha
    refine Ev.step (fun k => by rw [block_Codes.l0]) (Ev.pos (by omega) (Ev.pos (by omega) (Ev.pos (by omega) ?_)))
    rw [rd_T78_at (show j < l.length by omega), List.drop_eq_getElem_cons (show j < l.length by omega), codesS_cons]
    by_cases h : (l[j]'(by omega)).f0 = a
    · rw [if_pos h]
      refine Ev.pos h (Ev.pos (by omega) ?_)
      rw [wrapI (by omega)]
      have := ih (j + 1) (acc ++ [(l[j]'(by omega)).f1]) (by omega) (by simp; omega)
      simpa using this
    rw [if_neg h]
    refine Ev.neg h ?_
    rw [wrapI (by omega)]
    exact ih (j + 1) acc (by omega) (by omega)
theorem Codes_ev (s : Bool) (l : List Wd) (c : ByteArray) (a : Int) (hl : l.length ≤ 1000000) : Ev (fun k => block_Codes.f k s l c a) (codesS l a) := by
  unfold block_Codes.f
  simpa using Codes_l0 a l hl l.length 0 [] (by omega) (by simp)
theorem CodesR_l0 (s : Bool) (c : ByteArray) (a : Int) (l : List Wd) (hl : l.length ≤ 1000000) : ∀ (n j : Nat) (acc : List Int), j + n = l.length → acc.length ≤ j → Ev (fun k => swarfref41_Codes.l0 k a acc (j : Int) s l c) (acc ++ codesS (l.drop j) a) := by
  intro n
  induction n with
  | zero =>
    intro j acc hj ha
    refine Ev.step (fun k => by rw [swarfref41_Codes.l0]) (Ev.neg (by omega) ?_)
    rw [List.drop_eq_nil_of_le (by omega)]
    simpa [codesS] using Ev.some
  | succ n ih =>
    intro j acc hj ha
    refine Ev.step (fun k => by rw [swarfref41_Codes.l0]) (Ev.pos (by omega) (Ev.pos (by omega) ?_))
    rw [rd_T78_at (show j < l.length by omega), List.drop_eq_getElem_cons (show j < l.length by omega), codesS_cons]
    by_cases h : (l[j]'(by omega)).f0 = a
    · rw [if_pos h]
      refine Ev.pos h (Ev.pos (by omega) ?_)
      rw [wrapI (by omega)]
      have := ih (j + 1) (acc ++ [(l[j]'(by omega)).f1]) (by omega) (by simp; omega)
      simpa using this
    rw [if_neg h]
    refine Ev.neg h ?_
    rw [wrapI (by omega)]
    exact ih (j + 1) acc (by omega) (by omega)
theorem letter_ev (s : Bool) (l : List Wd) (c : ByteArray) (a : Int) (hl : l.length ≤ 1000000) : Ev (fun k => swarfref43_letter.f k s l c a) (anyS l a) := by
  unfold swarfref43_letter.f
  have h : Ev (fun k => swarfref41_Codes.f k s l c a) (codesS l a) := by
    unfold swarfref41_Codes.f
    simpa using CodesR_l0 s c a l hl l.length 0 [] (by omega) (by simp)
  refine Ev.bind h ?_
  rw [codesS_pos]
  exact Ev.some
theorem Index_l0 (v : Int) (l : List Int) (hl : l.length ≤ 1000000) : ∀ (n j : Nat), j + n = l.length → ∃ r : Int, Ev (fun k => slices_Index_int64_int64.l0 k l v (l.length : Int) (j : Int)) r ∧ (0 ≤ r ↔ v ∈ l.drop j) := by
  intro n
  induction n with
  | zero =>
    intro j hj
    refine ⟨-1, Ev.step (fun k => by rw [slices_Index_int64_int64.l0]) (Ev.neg (by omega) Ev.some), ?_⟩
    rw [List.drop_eq_nil_of_le (by omega)]
    simp
  | succ n ih =>
    intro j hj
    obtain ⟨r, h1, h2⟩ := ih (j + 1) (by omega)
    rw [List.drop_eq_getElem_cons (show j < l.length by omega)]
    by_cases h : v = l[j]'(by omega)
    · refine ⟨j, Ev.step (fun k => by rw [slices_Index_int64_int64.l0]) (Ev.pos (by omega) (Ev.pos (by omega) (Ev.pos (by omega) (Ev.pos ?_ Ev.some)))), ?_⟩
      · rw [rd_at (show j < l.length by omega)]; exact h
      exact ⟨fun _ => List.mem_cons.mpr (.inl h), fun _ => by omega⟩
    refine ⟨r, Ev.step (fun k => by rw [slices_Index_int64_int64.l0]) (Ev.pos (by omega) (Ev.pos (by omega) (Ev.pos (by omega) (Ev.neg ?_ ?_)))), ?_⟩
    · rw [rd_at (show j < l.length by omega)]; exact h
    · rw [wrapI (by omega)]; exact h1
    rw [h2, List.mem_cons]; exact ⟨fun h3 => .inr h3, fun h3 => h3.resolve_left h⟩
theorem has_ev (s : Bool) (l : List Wd) (c : ByteArray) (a v : Int) (hl : l.length ≤ 1000000) : Ev (fun k => subprogram_has.f k s l c a v) (hasS l a v) := by
  unfold subprogram_has.f
  refine Ev.bind (Codes_ev s l c a hl) ?_
  have hl2 : (codesS l a).length ≤ 1000000 := Nat.le_trans (codesS_length l a) hl
  obtain ⟨r, h1, h2⟩ := Index_l0 v (codesS l a) hl2 (codesS l a).length 0 (by omega)
  have h3 : Ev (fun k => slices_Contains_int64_int64.f k (codesS l a) v) (hasS l a v) := by
    unfold slices_Contains_int64_int64.f slices_Index_int64_int64.f
    refine Ev.bind h1 ?_
    rw [← mem_codesS, show decide (r ≥ 0) = decide (v ∈ codesS l a) from decide_eq_decide.mpr (by simpa using h2)]
    exact Ev.some
  exact Ev.bind h3 Ev.some
theorem hasR_l0 (s : Bool) (c : ByteArray) (a v : Int) (l : List Wd) (hl : l.length ≤ 1000000) : ∀ (n j : Nat), j + n = l.length → Ev (fun k => swarfref43_has.l0 k a v (j : Int) s l c) (hasS (l.drop j) a v) := by
  intro n
  induction n with
  | zero =>
    intro j hj
    refine Ev.step (fun k => by rw [swarfref43_has.l0]) (Ev.neg (by omega) ?_)
    rw [List.drop_eq_nil_of_le (by omega)]
    exact Ev.some
  | succ n ih =>
    intro j hj
    refine Ev.step (fun k => by rw [swarfref43_has.l0]) (Ev.pos (by omega) (Ev.pos (by omega) ?_))
    have h0 := ih (j + 1) (by omega)
    rw [rd_T78_at (show j < l.length by omega), List.drop_eq_getElem_cons (show j < l.length by omega)]
    by_cases h : (l[j]'(by omega)).f0 = a
    · refine Ev.pos h ?_
      by_cases h2 : (l[j]'(by omega)).f1 = v
      · rw [show hasS (l[j]'(by omega) :: l.drop (j + 1)) a v = true from by rw [hasS_cons, decide_eq_true h, decide_eq_true h2]; rfl]
        exact Ev.pos h2 Ev.some
      rw [show hasS (l[j]'(by omega) :: l.drop (j + 1)) a v = hasS (l.drop (j + 1)) a v from by rw [hasS_cons, decide_eq_true h, decide_eq_false h2]; rfl]
      refine Ev.neg h2 ?_
      rw [wrapI (by omega)]
      exact h0
    rw [show hasS (l[j]'(by omega) :: l.drop (j + 1)) a v = hasS (l.drop (j + 1)) a v from by rw [hasS_cons, decide_eq_false h]; rfl]
    refine Ev.neg h ?_
    rw [wrapI (by omega)]
    exact h0
theorem hasR_ev (s : Bool) (l : List Wd) (c : ByteArray) (a v : Int) (hl : l.length ≤ 1000000) : Ev (fun k => swarfref43_has.f k s l c a v) (hasS l a v) := by
  unfold swarfref43_has.f
  simpa using hasR_l0 s c a v l hl l.length 0 (by omega)
theorem End_ev (s : Bool) (l : List Wd) (c : ByteArray) (hl : l.length ≤ 1000000) : Ev (fun k => swarfref43_End.f k s l c) (hasS l 77 30000) := by
  unfold swarfref43_End.f
  exact Ev.bind (hasR_ev s l c 77 30000 hl) Ev.some
theorem Return_ev (s : Bool) (l : List Wd) (c : ByteArray) (hl : l.length ≤ 1000000) : Ev (fun k => swarfref43_Return.f k s l c) (hasS l 77 99000) := by
  unfold swarfref43_Return.f
  exact Ev.bind (hasR_ev s l c 77 99000 hl) Ev.some
def markS (l : List Wd) : Bool := anyS l 79 || (hasS l 77 30000 || hasS l 77 99000)
theorem marked_ev (s : Bool) (l : List Wd) (c : ByteArray) (hl : l.length ≤ 1000000) : Ev (fun k => subprogram_marked.f k s l c) (markS l) := by
  unfold subprogram_marked.f
  refine Ev.bind (Codes_ev s l c 79 hl) ?_
  have hp := codesS_pos l 79
  unfold markS
  rw [← hp]
  by_cases h : ((codesS l 79).length : Int) > 0
  · rw [decide_eq_true h, Bool.true_or]
    exact Ev.pos h Ev.some
  rw [decide_eq_false h, Bool.false_or]
  refine Ev.neg h (Ev.bind (has_ev s l c 77 30000 hl) ?_)
  cases h2 : hasS l 77 30000 with
  | true => exact Ev.pos rfl Ev.some
  | false =>
    rw [Bool.false_or]
    exact Ev.neg (by decide) (Ev.bind (has_ev s l c 77 99000 hl) Ev.some)
def wholeT (v : Int) : Int × Bool := (wrap64 (Int.tdiv v 1000), decide (Int.tmod v 1000 = 0 ∧ 1 ≤ wrap64 (Int.tdiv v 1000) ∧ wrap64 (Int.tdiv v 1000) ≤ 9999))
theorem whole_eq (v : Int) : subprogram_whole.f v = some (wholeT v) := by
  unfold subprogram_whole.f wholeT
  by_cases h1 : Int.tmod v 1000 = 0
  · rw [if_pos h1]
    by_cases h2 : wrap64 (Int.tdiv v 1000) ≥ 1
    · rw [if_pos h2]
      have h2' : 1 ≤ wrap64 (Int.tdiv v 1000) := h2
      simp [h1, h2']
    rw [if_neg h2]
    have h2' : ¬ 1 ≤ wrap64 (Int.tdiv v 1000) := h2
    simp [h1, h2']
  rw [if_neg h1]
  simp [h1]
def wholeR (v : Int) : Int := if (wholeT v).2 = true then (wholeT v).1 else 0
theorem tdiv_parts (v : Int) (h : I64 v) : wrap64 (Int.tdiv v 1000) = Int.tdiv v 1000 ∧ (0 ≤ v → Int.tdiv v 1000 = v / 1000 ∧ Int.tmod v 1000 = v % 1000) ∧ (v < 0 → Int.tdiv v 1000 ≤ 0) := by
  unfold I64 at h
  have hn : v < 0 → Int.tdiv v 1000 = -((-v) / 1000) := fun hv => by
    have : Int.tdiv (-(-v)) 1000 = -(Int.tdiv (-v) 1000) := Int.neg_tdiv ..
    rw [Int.neg_neg] at this
    rw [this, Int.tdiv_eq_ediv_of_nonneg (by omega)]
  refine ⟨?_, fun hv => ⟨Int.tdiv_eq_ediv_of_nonneg hv, Int.tmod_eq_emod_of_nonneg hv⟩, fun hv => ?_⟩
  · unfold wrap64
    by_cases hv : 0 ≤ v
    · rw [Int.tdiv_eq_ediv_of_nonneg hv]; omega
    rw [hn (by omega)]; omega
  rw [hn hv]; omega
theorem wholeR_eq (v : Int) (h : I64 v) : swarfref43_whole.f v = some (wholeR v) := by
  obtain ⟨h1, h2, h3⟩ := tdiv_parts v h
  unfold swarfref43_whole.f wholeR wholeT
  simp only [decide_eq_true_eq]
  rw [h1]
  by_cases hm : Int.tmod v 1000 = 0
  · rw [if_pos hm]
    by_cases hv : 0 ≤ v
    · obtain ⟨h4, h5⟩ := h2 hv
      rw [h4]
      rw [h5] at hm
      by_cases h6 : v < 1000
      · rw [if_pos h6, if_neg (by omega)]
      rw [if_neg h6]
      by_cases h7 : v > 9999000
      · rw [if_pos h7, if_neg (by omega)]
      rw [if_neg h7, if_pos ⟨by omega, by omega, by omega⟩]
    have := h3 (by omega)
    rw [if_pos (by omega), if_neg (by omega)]
  rw [if_neg hm, if_neg (by simp [hm])]
theorem wholeT_pos {v : Int} (h : (wholeT v).2 = true) : 1 ≤ (wholeT v).1 ∧ (wholeT v).1 ≤ 9999 := by
  unfold wholeT at h ⊢
  simp only [decide_eq_true_eq] at h
  exact h.2
def fewS (l : List Bk) (n : Int) : Bool := decide ((l.length : Int) ≤ n) && l.all (fun b => decide (b.f1.length ≤ 20) && decide (b.f2.size ≤ 120))
theorem Few_l0 (l : List Bk) (hl : l.length ≤ 9223372036854775807) : ∀ (n j : Nat), j + n = l.length → Ev (fun k => swarfref41_Few.l0 k l (j : Int)) ((l.drop j).all (fun b => decide (b.f1.length ≤ 20) && decide (b.f2.size ≤ 120))) := by
  intro n
  induction n with
  | zero =>
    intro j hj
    refine Ev.step (fun k => by rw [swarfref41_Few.l0]) (Ev.neg (by omega) ?_)
    rw [List.drop_eq_nil_of_le (by omega)]
    exact Ev.some
  | succ n ih =>
    intro j hj
    have h0 := ih (j + 1) (by omega)
    refine Ev.step (fun k => by rw [swarfref41_Few.l0]) (Ev.pos (by omega) (Ev.pos (by omega) ?_))
    rw [rd_T32_at (show j < l.length by omega), List.drop_eq_getElem_cons (show j < l.length by omega), List.all_cons]
    by_cases h1 : ((l[j]'(by omega)).f1.length : Int) > 20
    · rw [decide_eq_false (show ¬ (l[j]'(by omega)).f1.length ≤ 20 by omega), Bool.false_and, Bool.false_and]
      exact Ev.pos h1 Ev.some
    rw [decide_eq_true (show (l[j]'(by omega)).f1.length ≤ 20 by omega), Bool.true_and]
    refine Ev.neg h1 ?_
    by_cases h2 : ((l[j]'(by omega)).f2.size : Int) > 120
    · rw [decide_eq_false (show ¬ (l[j]'(by omega)).f2.size ≤ 120 by omega), Bool.false_and]
      exact Ev.pos h2 Ev.some
    rw [decide_eq_true (show (l[j]'(by omega)).f2.size ≤ 120 by omega), Bool.true_and]
    refine Ev.neg h2 ?_
    rw [wrapI (by omega)]
    exact h0
theorem Few_ev (l : List Bk) (n : Int) (hl : l.length ≤ 9223372036854775807) : Ev (fun k => swarfref41_Few.f k l n) (fewS l n) := by
  unfold swarfref41_Few.f fewS
  by_cases h : (l.length : Int) > n
  · rw [decide_eq_false (show ¬ (l.length : Int) ≤ n by omega), Bool.false_and]
    exact Ev.pos h Ev.some
  rw [decide_eq_true (show (l.length : Int) ≤ n by omega), Bool.true_and]
  refine Ev.neg h ?_
  simpa using Few_l0 l hl l.length 0 (by omega)
def goodB (b : Bk) : Prop := b.f1.length ≤ 16 ∧ ∀ x ∈ b.f1, (65 ≤ x.f0 ∧ x.f0 ≤ 90) ∧ -1000000000000 ≤ x.f1 ∧ x.f1 ≤ 1000000000000
theorem Valid_l1 (s : Bool) (l : List Wd) (c : ByteArray) (hc : c.size ≤ 9223372036854775807) : ∀ (n j : Nat), j + n = c.size → ∃ r, Ev (fun k => swarfref41_Valid.l1 k (j : Int) s l c) r := by
  intro n
  induction n with
  | zero =>
    intro j hj
    exact ⟨0, Ev.step (fun k => by rw [swarfref41_Valid.l1]) (Ev.neg (by omega) Ev.some)⟩
  | succ n ih =>
    intro j hj
    obtain ⟨r, h0⟩ := ih (j + 1) (by omega)
    have hp : ∃ b, swarfref41_printable.f (bt c (j : Int)) = some b := by
      unfold swarfref41_printable.f
      split
      · split
        · split <;> exact ⟨_, rfl⟩
        exact ⟨_, rfl⟩
      exact ⟨_, rfl⟩
    obtain ⟨b, hb⟩ := hp
    cases b with
    | true =>
      refine ⟨r, Ev.step (fun k => by rw [swarfref41_Valid.l1]) (Ev.pos (by omega) (Ev.pos (by omega) ?_))⟩
      rw [hb]
      refine Ev.bind Ev.some (Ev.pos rfl ?_)
      rw [wrapI (by omega)]
      exact h0
    | false =>
      refine ⟨1, Ev.step (fun k => by rw [swarfref41_Valid.l1]) (Ev.pos (by omega) (Ev.pos (by omega) ?_))⟩
      rw [hb]
      exact Ev.bind Ev.some (Ev.neg (by decide) Ev.some)
theorem Valid_l0 (s : Bool) (l : List Wd) (c : ByteArray) (hl : l.length ≤ 16) (hc : c.size ≤ 9223372036854775807) : ∀ (n j : Nat), j + n = l.length → ∃ r, Ev (fun k => swarfref41_Valid.l0 k (j : Int) s l c) r ∧ (r = 0 → ∀ x ∈ l.drop j, (65 ≤ x.f0 ∧ x.f0 ≤ 90) ∧ -1000000000000 ≤ x.f1 ∧ x.f1 ≤ 1000000000000) := by
  intro n
  induction n with
  | zero =>
    intro j hj
    obtain ⟨r, h⟩ := Valid_l1 s l c hc c.size 0 (by omega)
    replace h : Ev (fun k => swarfref41_Valid.l1 k 0 s l c) r := h
    refine ⟨r, Ev.step (fun k => by rw [swarfref41_Valid.l0]) (Ev.neg (by omega) h), fun _ x hx => ?_⟩
    rw [List.drop_eq_nil_of_le (by omega)] at hx
    cases hx
  | succ n ih =>
    intro j hj
    obtain ⟨r, h0, h1⟩ := ih (j + 1) (by omega)
    rw [List.drop_eq_getElem_cons (show j < l.length by omega)]
    by_cases a1 : (l[j]'(by omega)).f0 < 65
    · exact ⟨1, Ev.step (fun k => by rw [swarfref41_Valid.l0]) (Ev.pos (by omega) (Ev.pos (by omega) (by rw [rd_T78_at (show j < l.length by omega)]; exact Ev.pos a1 Ev.some))), fun h => by cases h⟩
    by_cases a2 : (l[j]'(by omega)).f0 > 90
    · exact ⟨1, Ev.step (fun k => by rw [swarfref41_Valid.l0]) (Ev.pos (by omega) (Ev.pos (by omega) (by rw [rd_T78_at (show j < l.length by omega)]; exact Ev.neg a1 (Ev.pos a2 Ev.some)))), fun h => by cases h⟩
    by_cases a3 : (l[j]'(by omega)).f1 > 1000000000000
    · exact ⟨1, Ev.step (fun k => by rw [swarfref41_Valid.l0]) (Ev.pos (by omega) (Ev.pos (by omega) (by rw [rd_T78_at (show j < l.length by omega)]; exact Ev.neg a1 (Ev.neg a2 (Ev.pos a3 Ev.some))))), fun h => by cases h⟩
    by_cases a4 : (l[j]'(by omega)).f1 < -1000000000000
    · exact ⟨1, Ev.step (fun k => by rw [swarfref41_Valid.l0]) (Ev.pos (by omega) (Ev.pos (by omega) (by rw [rd_T78_at (show j < l.length by omega)]; exact Ev.neg a1 (Ev.neg a2 (Ev.neg a3 (Ev.pos a4 Ev.some)))))), fun h => by cases h⟩
    refine ⟨r, Ev.step (fun k => by rw [swarfref41_Valid.l0]) (Ev.pos (by omega) (Ev.pos (by omega) (by rw [rd_T78_at (show j < l.length by omega)]; exact Ev.neg a1 (Ev.neg a2 (Ev.neg a3 (Ev.neg a4 (by rw [wrapI (by omega)]; exact h0))))))), fun hr x hx => ?_⟩
    rcases List.mem_cons.mp hx with rfl | hx
    · omega
    exact h1 hr x hx
theorem Valid_ev (b : Bk) (hb : okBlock b) : ∃ r, Ev (fun k => swarfref41_Valid.f k b.f0 b.f1 b.f2) r ∧ (r = 0 → goodB b) := by
  have hc : b.f2.size ≤ 9223372036854775807 := by have := hb.2; unfold maxLen at this; omega
  have hj1 : ∀ c, c = true → ∃ r, Ev (fun k => swarfref41_Valid.j0 k c b.f0 b.f1 b.f2) r ∧ (r = 0 → goodB b) := fun c hc => ⟨1, Ev.step (fun k => by rw [swarfref41_Valid.j0]) (Ev.pos hc Ev.some), fun h => by cases h⟩
  unfold swarfref41_Valid.f
  by_cases h : (b.f1.length : Int) > 16
  · obtain ⟨r, h1, h2⟩ := hj1 true rfl
    exact ⟨r, Ev.pos h h1, h2⟩
  by_cases h2 : (b.f2.size : Int) > 100
  · obtain ⟨r, h3, h4⟩ := hj1 (decide ((b.f2.size : Int) > 100)) (decide_eq_true h2)
    exact ⟨r, Ev.neg h h3, h4⟩
  obtain ⟨r, h3, h4⟩ := Valid_l0 b.f0 b.f1 b.f2 (by omega) hc b.f1.length 0 (by omega)
  replace h3 : Ev (fun k => swarfref41_Valid.l0 k 0 b.f0 b.f1 b.f2) r := h3
  refine ⟨r, Ev.neg h (Ev.step (fun k => by rw [swarfref41_Valid.j0]) (Ev.neg (by simp; omega) h3)), fun hr => ⟨by omega, by simpa using h4 hr⟩⟩
theorem valid_l0 (l : List Bk) (hl : l.length ≤ 9223372036854775807) (hb : ∀ b ∈ l, okBlock b) : ∀ (n j : Nat), j + n = l.length → ∃ r, Ev (fun k => swarflaw43_valid.l0 k l (l.length : Int) (j : Int)) r ∧ (r = true → ∀ b ∈ l.drop j, goodB b) := by
  intro n
  induction n with
  | zero =>
    intro j hj
    refine ⟨true, Ev.step (fun k => by rw [swarflaw43_valid.l0]) (Ev.neg (by omega) Ev.some), fun _ x hx => ?_⟩
    rw [List.drop_eq_nil_of_le (by omega)] at hx
    cases hx
  | succ n ih =>
    intro j hj
    obtain ⟨r, h0, h1⟩ := ih (j + 1) (by omega)
    obtain ⟨v, h2, h3⟩ := Valid_ev _ (hb _ (List.getElem_mem (show j < l.length by omega)))
    rw [List.drop_eq_getElem_cons (show j < l.length by omega)]
    by_cases hv : v = 0
    · refine ⟨r, Ev.step (fun k => by rw [swarflaw43_valid.l0]) (Ev.pos (by omega) (Ev.pos (by omega) (Ev.pos (by omega) ?_))), fun hr x hx => ?_⟩
      · rw [rd_T32_at (show j < l.length by omega)]
        refine Ev.bind h2 (Ev.pos hv ?_)
        rw [wrapI (by omega)]
        exact h0
      rcases List.mem_cons.mp hx with rfl | hx
      · exact h3 hv
      exact h1 hr x hx
    refine ⟨false, Ev.step (fun k => by rw [swarflaw43_valid.l0]) (Ev.pos (by omega) (Ev.pos (by omega) (Ev.pos (by omega) ?_))), fun h => by cases h⟩
    rw [rd_T32_at (show j < l.length by omega)]
    exact Ev.bind h2 (Ev.neg hv Ev.some)
theorem valid_ev (l : List Bk) (n : Int) (hl : l.length ≤ 9223372036854775807) (hb : ∀ b ∈ l, okBlock b) : ∃ r, Ev (fun k => swarflaw43_valid.f k l n) r ∧ (r = true → (l.length : Int) ≤ n ∧ ∀ b ∈ l, goodB b) := by
  unfold swarflaw43_valid.f
  by_cases h : fewS l n = true
  · obtain ⟨r, h1, h2⟩ := valid_l0 l hl hb l.length 0 (by omega)
    refine ⟨r, Ev.bind (Few_ev l n hl) (Ev.pos h h1), fun hr => ⟨?_, by simpa using h2 hr⟩⟩
    unfold fewS at h
    rw [Bool.and_eq_true] at h
    exact of_decide_eq_true h.1
  exact ⟨false, Ev.bind (Few_ev l n hl) (Ev.neg h Ev.some), fun h => by cases h⟩
theorem goodB.words {b : Bk} (h : goodB b) : wordsW b.f1 := fun x hx => by have := h.2 x hx; omega
theorem goodB.len {b : Bk} (h : goodB b) : b.f1.length ≤ 1000000 := by have := h.1; omega
theorem goodB.i64 {b : Bk} (h : goodB b) : ∀ x ∈ b.f1, I64 x.f1 := fun x hx => by have := h.2 x hx; unfold I64; omega
end Go.Proofs.Ytehkhbnhmehobaa.P
namespace Go.Proofs.Ytehkhbnhmehobaa.P
open Go.RowKit Go.Proofs.YtehkhbnhmehobaaW.PrintWords Go.Proofs.YtehkhbnhmehobaaW.PrintLast Go.Proofs.YtehkhbnhmehobaaW.PrintMore
attribute [local go_sem] max2_int min2_int max_two min_two max_three min_three max_four min_four
set_option linter.unusedVariables false
set_option linter.unusedSimpArgs false
def subprogram_foldable.f (k : Nat) (a0_0 : Bool) (l0_1 : List (S78)) (a0_2 : ByteArray) : Option (Bool) := (subprogram_marked.f k a0_0 l0_1 a0_2).bind fun t399 => (if t399 = true then (some false) else ((block_Codes.f k a0_0 l0_1 a0_2 78).bind fun t400 => (if (t400.length : Int) = 0 then ((subprogram_has.f k a0_0 l0_1 a0_2 77 98000).bind fun t403 => (some (!t403))) else (some false))))
set_option maxHeartbeats 8000000 in
set_option maxRecDepth 100000 in
theorem subprogram_foldable.calls (k : Nat) (a0_0 : Bool) (A0_1 : Option Addr) (c0_1 : Nat) (l0_1 : List (S78)) (a0_2 : ByteArray) (r : Bool) (w : World) (hr0_1 : Kd.C k78 w A0_1 l0_1.length l0_1) (hc0_1 : l0_1.length ≤ c0_1) (h : subprogram_foldable.f k a0_0 l0_1 a0_2 = some r) :
  Calls Try.prog 96 #[.agg #[.bool a0_0, .slice A0_1 l0_1.length c0_1, .string a0_2]] w fun e w' => e = .returned (.bool r) ∧ Below w.heap.size w w' := by
 have hu32 := Try.underlying32
 have HR0_1 := Aside0.mk hr0_1
 have HC0_1 := Aside0.mk hc0_1
 clear hr0_1 hc0_1
 have HB := Aside0.mk (Below.refl w.heap.size w)
 have H : ((subprogram_marked.f k a0_0 l0_1 a0_2).bind fun t399 => (if t399 = true then (some false) else ((block_Codes.f k a0_0 l0_1 a0_2 78).bind fun t400 => (if (t400.length : Int) = 0 then ((subprogram_has.f k a0_0 l0_1 a0_2 77 98000).bind fun t403 => (some (!t403))) else (some false))))) = some r := h
 clear h
 replace H := Option.bind_eq_some_iff.mp H
 obtain ⟨t399, A20, H⟩ := H
 have A2 := Aside0.mk A20
 clear A20
 by_cases c3 : t399 = true
 ·subst c3
  rw [if_pos rfl] at H
  obtain rfl := Option.some.inj H
  go_enter Try.func96, Try.ntmps96
  go_wp2_with (first | ((with_reducible refine gate_dst (N := 1) rfl ?_); (try (refine gate_guard (by rfl) ?_; dsimp only)); refine yX 1 #[.bool a0_0, .slice A0_1 l0_1.length c0_1, .string a0_2] 32 ?_; intro gb398 hg w4 hbox hb; have BK398 := Aside0.mk (hbox); have GW398 := Aside0.mk ((yG hg : w.heap.size ≤ gb398)); have GE398 := Aside0.mk ((yG hg : w.heap.size ≤ gb398)); replace HB := Aside0.mk (below_step yB hb); clear hb hbox hg; have hcz5_0 := yZ0 BK398.out; have hcz5_1 := yZ1 BK398.out; have hcz5_2 := yZ2 BK398.out; have hfz5_0 := blk_frozen BK398.out 0; have hfz5_1 := blk_frozen BK398.out 1; have hfz5_2 := blk_frozen BK398.out 2) | ((with_reducible refine gate_callee (f := 100) rfl ?_); refine goesL_ (some 4) rfl rfl Try.func100 (by kernel_rfl) rfl #[.agg #[.bool a0_0, .slice A0_1 l0_1.length c0_1, .string a0_2]] rfl yQ ?_; (with_reducible refine (subprogram_marked.calls k a0_0 _ _ l0_1 a0_2 true _ ?side1 ?side2 A2.out).mono ?_); (case side1 => exact yC HR0_1.out); (case side2 => exact HC0_1.out); rintro e w6 ⟨rfl, hb⟩; refine ⟨_, rfl, ?_⟩; replace BK398 := Aside0.mk (blk_below (g := gb398) yK hb); replace HB := Aside0.mk (below_step yB hb); (try clear hb)))
  go_ret
  exact ⟨yE, yB⟩
 replace c3 := Bool.eq_false_iff.mpr c3
 subst c3
 replace H : ((block_Codes.f k a0_0 l0_1 a0_2 78).bind fun t400 => (if (t400.length : Int) = 0 then ((subprogram_has.f k a0_0 l0_1 a0_2 77 98000).bind fun t403 => (some (!t403))) else (some false))) = some r := by rw [if_neg (show ¬ (false = true) by decide)] at H; exact H
 replace H := Option.bind_eq_some_iff.mp H
 obtain ⟨t400, A70, H⟩ := H
 have A7 := Aside0.mk A70
 clear A70
 by_cases c8 : (t400.length : Int) = 0
 ·rw [if_pos c8] at H
  have c8b0 : ((t400.length : Int) == 0) = true := beq_iff_eq.mpr c8
  have c8b1 : ((t400.length : Int) != 0) = false := bne_eq_false_iff_eq.mpr c8
  clear c8
  replace H := Option.bind_eq_some_iff.mp H
  obtain ⟨t403, A90, H⟩ := H
  have A9 := Aside0.mk A90
  clear A90
  obtain rfl := Option.some.inj H
  go_enter Try.func96, Try.ntmps96
  go_wp2_with (first | ((with_reducible refine gate_dst (N := 1) rfl ?_); (try (refine gate_guard (by rfl) ?_; dsimp only)); refine yX 1 #[.bool a0_0, .slice A0_1 l0_1.length c0_1, .string a0_2] 32 ?_; intro gb398 hg w10 hbox hb; have BK398 := Aside0.mk (hbox); have GW398 := Aside0.mk ((yG hg : w.heap.size ≤ gb398)); have GE398 := Aside0.mk ((yG hg : w.heap.size ≤ gb398)); replace HB := Aside0.mk (below_step yB hb); clear hb hbox hg; have hcz11_0 := yZ0 BK398.out; have hcz11_1 := yZ1 BK398.out; have hcz11_2 := yZ2 BK398.out; have hfz11_0 := blk_frozen BK398.out 0; have hfz11_1 := blk_frozen BK398.out 1; have hfz11_2 := blk_frozen BK398.out 2) | ((with_reducible refine gate_callee (f := 100) rfl ?_); refine goesL_ (some 4) rfl rfl Try.func100 (by kernel_rfl) rfl #[.agg #[.bool a0_0, .slice A0_1 l0_1.length c0_1, .string a0_2]] rfl yQ ?_; (with_reducible refine (subprogram_marked.calls k a0_0 _ _ l0_1 a0_2 false _ ?side1 ?side2 A2.out).mono ?_); (case side1 => exact yC HR0_1.out); (case side2 => exact HC0_1.out); rintro e w12 ⟨rfl, hb⟩; refine ⟨_, rfl, ?_⟩; replace BK398 := Aside0.mk (blk_below (g := gb398) yK hb); replace HB := Aside0.mk (below_step yB hb); (try clear hb); have hcz13_0 := yZ0 BK398.out; have hcz13_1 := yZ1 BK398.out; have hcz13_2 := yZ2 BK398.out; have hfz13_0 := blk_frozen BK398.out 0; have hfz13_1 := blk_frozen BK398.out 1; have hfz13_2 := blk_frozen BK398.out 2) | (go_at_call 93; (with_reducible refine (block_Codes.calls k a0_0 _ _ l0_1 a0_2 78 t400 _ ?side1 ?side2 A7.out).mono ?_); (case side1 => exact yC HR0_1.out); (case side2 => exact HC0_1.out); rintro e w14 ⟨v401, rfl, ho0, hb⟩; have HO402 := Aside0.mk (Kd.R_lower ho0 (below_size yB)); replace BK398 := Aside0.mk (blk_below (g := gb398) yK hb); replace HB := Aside0.mk (below_step yB hb); (try clear hb); (try clear ho0); obtain ⟨Ao15, co15, eo15⟩ := Kd.R_slice HO402.out; subst eo15; have hcz16_0 := yZ0 BK398.out; have hcz16_1 := yZ1 BK398.out; have hcz16_2 := yZ2 BK398.out; have hfz16_0 := blk_frozen BK398.out 0; have hfz16_1 := blk_frozen BK398.out 1; have hfz16_2 := blk_frozen BK398.out 2) | (go_at_call 58; (with_reducible refine (subprogram_has.calls k a0_0 _ _ l0_1 a0_2 77 98000 t403 _ ?side1 ?side2 A9.out).mono ?_); (case side1 => exact yC HR0_1.out); (case side2 => exact HC0_1.out); rintro e w17 ⟨rfl, hb⟩; replace HO402 := Aside0.mk (Kd.R_below (yR HO402.out) hb); replace BK398 := Aside0.mk (blk_below (g := gb398) yK hb); replace HB := Aside0.mk (below_step yB hb); (try clear hb)))
  go_ret
  exact ⟨yE, yB⟩
 rw [if_neg c8] at H
 have c8b0 : ((t400.length : Int) == 0) = false := beq_eq_false_iff_ne.mpr c8
 have c8b1 : ((t400.length : Int) != 0) = true := bne_iff_ne.mpr c8
 have c8b2 : ¬ (t400 = []) := fun h_ => c8 (by rw [h_]; rfl)
 obtain rfl := Option.some.inj H
 go_enter Try.func96, Try.ntmps96
 go_wp2_with (first | ((with_reducible refine gate_dst (N := 1) rfl ?_); (try (refine gate_guard (by rfl) ?_; dsimp only)); refine yX 1 #[.bool a0_0, .slice A0_1 l0_1.length c0_1, .string a0_2] 32 ?_; intro gb398 hg w18 hbox hb; have BK398 := Aside0.mk (hbox); have GW398 := Aside0.mk ((yG hg : w.heap.size ≤ gb398)); have GE398 := Aside0.mk ((yG hg : w.heap.size ≤ gb398)); replace HB := Aside0.mk (below_step yB hb); clear hb hbox hg; have hcz19_0 := yZ0 BK398.out; have hcz19_1 := yZ1 BK398.out; have hcz19_2 := yZ2 BK398.out; have hfz19_0 := blk_frozen BK398.out 0; have hfz19_1 := blk_frozen BK398.out 1; have hfz19_2 := blk_frozen BK398.out 2) | ((with_reducible refine gate_callee (f := 100) rfl ?_); refine goesL_ (some 4) rfl rfl Try.func100 (by kernel_rfl) rfl #[.agg #[.bool a0_0, .slice A0_1 l0_1.length c0_1, .string a0_2]] rfl yQ ?_; (with_reducible refine (subprogram_marked.calls k a0_0 _ _ l0_1 a0_2 false _ ?side1 ?side2 A2.out).mono ?_); (case side1 => exact yC HR0_1.out); (case side2 => exact HC0_1.out); rintro e w20 ⟨rfl, hb⟩; refine ⟨_, rfl, ?_⟩; replace BK398 := Aside0.mk (blk_below (g := gb398) yK hb); replace HB := Aside0.mk (below_step yB hb); (try clear hb); have hcz21_0 := yZ0 BK398.out; have hcz21_1 := yZ1 BK398.out; have hcz21_2 := yZ2 BK398.out; have hfz21_0 := blk_frozen BK398.out 0; have hfz21_1 := blk_frozen BK398.out 1; have hfz21_2 := blk_frozen BK398.out 2) | (go_at_call 93; (with_reducible refine (block_Codes.calls k a0_0 _ _ l0_1 a0_2 78 t400 _ ?side1 ?side2 A7.out).mono ?_); (case side1 => exact yC HR0_1.out); (case side2 => exact HC0_1.out); rintro e w22 ⟨v401, rfl, ho0, hb⟩; have HO402 := Aside0.mk (Kd.R_lower ho0 (below_size yB)); replace BK398 := Aside0.mk (blk_below (g := gb398) yK hb); replace HB := Aside0.mk (below_step yB hb); (try clear hb); (try clear ho0); obtain ⟨Ao23, co23, eo23⟩ := Kd.R_slice HO402.out; subst eo23))
 go_ret
 exact ⟨yE, yB⟩
end Go.Proofs.Ytehkhbnhmehobaa.P
namespace Go.Proofs.Ytehkhbnhmehobaa.P
open Go.RowKit Go.Proofs.YtehkhbnhmehobaaW.PrintWords Go.Proofs.YtehkhbnhmehobaaW.PrintLast Go.Proofs.YtehkhbnhmehobaaW.PrintMore
attribute [local go_sem] max2_int min2_int max_two min_two max_three min_three max_four min_four
set_option linter.unusedVariables false
set_option linter.unusedSimpArgs false
attribute [local go_sem high] eqA25 eqA78
def api_Word_112.l0 : Nat → List (S78) → List (S78) → Int → Int → Option (Bool)
 | 0, _, _, _, _ => none
 | k + 1, x0, x1, x12, x13 => if x13 < x12 then (if 0 ≤ x13 then (if x13 < (x0.length : Int) then (if x13 < (x1.length : Int) then (if (!(((rd_T78 x0 x13).f0) == ((rd_T78 x1 x13).f0)) || (!(((rd_T78 x0 x13).f1) == ((rd_T78 x1 x13).f1)))) = true then (some false) else (api_Word_112.l0 k x0 x1 x12 (wrap64 (x13 + 1)))) else (none)) else (none)) else (none)) else (some true)
def api_Word_112.f (k : Nat) (l0 : List (S78)) (l1 : List (S78)) : Option (Bool) := if (l0.length : Int) = (l1.length : Int) then (api_Word_112.l0 k l0 l1 (l0.length : Int) 0) else (some false)
set_option maxHeartbeats 8000000 in
set_option maxRecDepth 100000 in
theorem api_Word_112.calls (k : Nat) (A0 : Option Addr) (c0 : Nat) (l0 : List (S78)) (A1 : Option Addr) (c1 : Nat) (l1 : List (S78)) (r : Bool) (w : World) (hr0 : Kd.C k78 w A0 l0.length l0) (hc0 : l0.length ≤ c0) (hr1 : Kd.C k78 w A1 l1.length l1) (hc1 : l1.length ≤ c1) (h : api_Word_112.f k l0 l1 = some r) :
  Calls Try.prog 112 #[.slice A0 l0.length c0, .slice A1 l1.length c1] w fun e w' => e = .returned (.bool r) ∧ Drawn0 w w' := by
 have hu78 := Try.underlying78
 have HR0 := Aside0.mk hr0
 have HC0 := Aside0.mk hc0
 clear hr0 hc0
 have HR1 := Aside0.mk hr1
 have HC1 := Aside0.mk hc1
 clear hr1 hc1
 have H : (if (l0.length : Int) = (l1.length : Int) then (api_Word_112.l0 k l0 l1 (l0.length : Int) 0) else (some false)) = some r := h
 clear h
 by_cases c3 : (l0.length : Int) = (l1.length : Int)
 ·rw [if_pos c3] at H
  have c3b0 : ((l0.length : Int) == (l1.length : Int)) = true := beq_iff_eq.mpr c3
  have c3b1 : ((l0.length : Int) != (l1.length : Int)) = false := bne_eq_false_iff_eq.mpr c3
  have c3b2 : (l0.length == l1.length) = true := by first | simpa using c3 | (simp at c3 ⊢; omega)
  clear c3
  have H' := Aside0.mk H
  clear H
  go_enter Try.func112, Try.ntmps112
  go_wp2
  repeat (go_quiet (fail); try go_wp2)
  go_loopg [13] k (fun kq v13 w' => ∃ (x13_1 : Int), v13 = .int .i64 x13_1 ∧ Aside0 (api_Word_112.l0 kq l0 l1 (l0.length : Int) x13_1 = some r) ∧ Aside0 (kq ≤ k) ∧ Drawn0 w w')
  case atStart => exact ⟨(0), yS, H', ⟨Nat.le_refl _⟩, by repeat (first | exact Drawn0.refl _ | apply Drawn0.step)⟩
  case round =>
   clear H'
   try clear c1
   try clear p2
   try clear c3
   try clear c3b0
   try clear c3b1
   try clear c3b2
   obtain ⟨x13_1, rfl, HA, HK1, ⟨m1, rfl⟩⟩ := hrel
   cases gk with
   | zero => exact absurd HA.out (by simp [api_Word_112.l0])
   | succ k1 =>
    have H := HA.out
    clear HA
    simp only [api_Word_112.l0] at H
    by_cases c4 : x13_1 < (l0.length : Int)
    ·rw [if_pos c4] at H
     have c4b0 := decide_eq_true c4
     clear c4
     by_cases c5 : 0 ≤ x13_1
     ·rw [if_pos c5] at H
      have c5b0 := decide_eq_true c5
      clear c5
      by_cases c6 : x13_1 < (l0.length : Int)
      ·rw [if_pos c6] at H
       have c6b0 := decide_eq_true c6
       clear c6
       by_cases c7 : x13_1 < (l1.length : Int)
       ·rw [if_pos c7] at H
        have c7b0 := decide_eq_true c7
        clear c7
        by_cases c8 : (!(((rd_T78 l0 x13_1).f0) == ((rd_T78 l1 x13_1).f0)) || (!(((rd_T78 l0 x13_1).f1) == ((rd_T78 l1 x13_1).f1)))) = true
        ·rw [if_pos c8] at H
         have c8b0 : (!(((rd_T78 l0 x13_1).f0) == ((rd_T78 l1 x13_1).f0)) || (!(((rd_T78 l0 x13_1).f1) == ((rd_T78 l1 x13_1).f1)))) = true := c8
         clear c8
         obtain rfl := Option.some.inj H
         have p404 : 0 ≤ (x13_1 : Int) := yD
         have q404 : x13_1 < (l0.length : Int) := yD
         obtain ⟨ad404, e404, hx404_0, hx404_1⟩ := at_T78 HR0.out x13_1 p404 q404
         cases e404
         replace p404 := eq_true p404
         replace q404 := eq_true q404
         have p405 : 0 ≤ (x13_1 : Int) := yD
         have q405 : x13_1 < (l1.length : Int) := yD
         obtain ⟨ad405, e405, hx405_0, hx405_1⟩ := at_T78 HR1.out x13_1 p405 q405
         cases e405
         replace p405 := eq_true p405
         replace q405 := eq_true q405
         go_wp2
         repeat (go_quiet (fail); try go_wp2)
         go_ret
         exact ⟨by first | rfl | (simp; done) | (simp [*]; done), by repeat (first | exact Drawn0.refl _ | apply Drawn0.step)⟩
        rw [if_neg c8] at H
        have c8b0 : (!(((rd_T78 l0 x13_1).f0) == ((rd_T78 l1 x13_1).f0)) || (!(((rd_T78 l0 x13_1).f1) == ((rd_T78 l1 x13_1).f1)))) = false := by simpa using c8
        clear c8
        have H' := Aside0.mk H
        clear H
        have p404 : 0 ≤ (x13_1 : Int) := yD
        have q404 : x13_1 < (l0.length : Int) := yD
        obtain ⟨ad404, e404, hx404_0, hx404_1⟩ := at_T78 HR0.out x13_1 p404 q404
        cases e404
        replace p404 := eq_true p404
        replace q404 := eq_true q404
        have p405 : 0 ≤ (x13_1 : Int) := yD
        have q405 : x13_1 < (l1.length : Int) := yD
        obtain ⟨ad405, e405, hx405_0, hx405_1⟩ := at_T78 HR1.out x13_1 p405 q405
        cases e405
        replace p405 := eq_true p405
        replace q405 := eq_true q405
        go_wp2
        repeat (go_quiet (fail); try go_wp2)
        go_roundg k1
        case measure => have := HK1.out; omega
        case rel => exact ⟨(wrap64 (x13_1 + 1)), yS, H', ⟨by have := HK1.out; omega⟩, by repeat (first | exact Drawn0.refl _ | apply Drawn0.step)⟩
       rw [if_neg c7] at H
       exact absurd H (by simp)
      rw [if_neg c6] at H
      exact absurd H (by simp)
     rw [if_neg c5] at H
     exact absurd H (by simp)
    rw [if_neg c4] at H
    have c4b0 := decide_eq_false c4
    clear c4
    obtain rfl := Option.some.inj H
    go_wp2
    repeat (go_quiet (fail); try go_wp2)
    go_ret
    exact ⟨by first | rfl | (simp; done) | (simp [*]; done), by repeat (first | exact Drawn0.refl _ | apply Drawn0.step)⟩
 rw [if_neg c3] at H
 have c3b0 : ((l0.length : Int) == (l1.length : Int)) = false := beq_eq_false_iff_ne.mpr c3
 have c3b1 : ((l0.length : Int) != (l1.length : Int)) = true := bne_iff_ne.mpr c3
 have c3b2 : (l0.length == l1.length) = false := by first | simpa using c3 | (simp at c3 ⊢; omega)
 obtain rfl := Option.some.inj H
 go_enter Try.func112, Try.ntmps112
 go_wp2
 repeat (go_quiet (fail); try go_wp2)
 go_ret
 exact ⟨by first | rfl | (simp; done) | (simp [*]; done), by repeat (first | exact Drawn0.refl _ | apply Drawn0.step)⟩
end Go.Proofs.Ytehkhbnhmehobaa.P
namespace Go.Proofs.Ytehkhbnhmehobaa.P
open Go.RowKit Go.Proofs.YtehkhbnhmehobaaW.PrintWords Go.Proofs.YtehkhbnhmehobaaW.PrintLast Go.Proofs.YtehkhbnhmehobaaW.PrintMore
attribute [local go_sem] max2_int min2_int max_two min_two max_three min_three max_four min_four
set_option linter.unusedVariables false
set_option linter.unusedSimpArgs false
def block_Equal.f (k : Nat) (a0_0 : Bool) (l0_1 : List (S78)) (a0_2 : ByteArray) (a1_0 : Bool) (l1_1 : List (S78)) (a1_2 : ByteArray) : Option (Bool) := if (a0_0 == a1_0) = true then (if a0_2.toList = a1_2.toList then ((api_Word_112.f k l0_1 l1_1).bind fun t408 => (some t408)) else (some false)) else (some false)
set_option maxHeartbeats 8000000 in
set_option maxRecDepth 100000 in
theorem block_Equal.calls (k : Nat) (a0_0 : Bool) (A0_1 : Option Addr) (c0_1 : Nat) (l0_1 : List (S78)) (a0_2 : ByteArray) (a1_0 : Bool) (A1_1 : Option Addr) (c1_1 : Nat) (l1_1 : List (S78)) (a1_2 : ByteArray) (r : Bool) (w : World) (hr0_1 : Kd.C k78 w A0_1 l0_1.length l0_1) (hc0_1 : l0_1.length ≤ c0_1) (hr1_1 : Kd.C k78 w A1_1 l1_1.length l1_1) (hc1_1 : l1_1.length ≤ c1_1) (h : block_Equal.f k a0_0 l0_1 a0_2 a1_0 l1_1 a1_2 = some r) :
  Calls Try.prog 97 #[.agg #[.bool a0_0, .slice A0_1 l0_1.length c0_1, .string a0_2], .agg #[.bool a1_0, .slice A1_1 l1_1.length c1_1, .string a1_2]] w fun e w' => e = .returned (.bool r) ∧ Below w.heap.size w w' := by
 have hu32 := Try.underlying32
 have HR0_1 := Aside0.mk hr0_1
 have HC0_1 := Aside0.mk hc0_1
 clear hr0_1 hc0_1
 have HR1_1 := Aside0.mk hr1_1
 have HC1_1 := Aside0.mk hc1_1
 clear hr1_1 hc1_1
 have HB := Aside0.mk (Below.refl w.heap.size w)
 have H : (if (a0_0 == a1_0) = true then (if a0_2.toList = a1_2.toList then ((api_Word_112.f k l0_1 l1_1).bind fun t408 => (some t408)) else (some false)) else (some false)) = some r := h
 clear h
 by_cases c3 : (a0_0 == a1_0) = true
 ·rw [if_pos c3] at H
  have c3b0 : (a0_0 == a1_0) = true := c3
  (try (have c3b1 : decide (a0_0 = a1_0) = true := by simpa using c3))
  (try (have c3b2 : (a0_0 == a1_0) = true := by simpa using c3))
  clear c3
  by_cases c4 : a0_2.toList = a1_2.toList
  ·rw [if_pos c4] at H
   have c4b0 : (a0_2.toList == a1_2.toList) = true := beq_iff_eq.mpr c4
   have c4b1 : (a0_2.toList != a1_2.toList) = false := bne_eq_false_iff_eq.mpr c4
   clear c4
   replace H := Option.bind_eq_some_iff.mp H
   obtain ⟨t408, A50, H⟩ := H
   have A5 := Aside0.mk A50
   clear A50
   obtain rfl := Option.some.inj H
   go_enter Try.func97, Try.ntmps97
   go_wp2_with (first | ((with_reducible refine gate_dst (N := 2) rfl ?_); refine yX 2 #[.bool a0_0, .slice A0_1 l0_1.length c0_1, .string a0_2] 32 ?_; intro gb406 hg w6 hbox hb; have BK406 := Aside0.mk (hbox); have GW406 := Aside0.mk ((yG hg : w.heap.size ≤ gb406)); have GE406 := Aside0.mk ((yG hg : w.heap.size ≤ gb406)); replace HB := Aside0.mk (below_step yB hb); clear hb hbox hg) | ((with_reducible refine gate_dst (N := 3) rfl ?_); refine yX 3 #[.bool a1_0, .slice A1_1 l1_1.length c1_1, .string a1_2] 32 ?_; intro gb407 hg w7 hbox hb; have BK407 := Aside0.mk (hbox); have GW407 := Aside0.mk ((yG hg : w.heap.size ≤ gb407)); have GE407 := Aside0.mk ((yG hg : w.heap.size ≤ gb407)); replace HB := Aside0.mk (below_step yB hb); have NB406_407 := Aside0.mk ((yJ hg yK : gb406 ≠ gb407)); have NB407_406 := Aside0.mk ((yI hg yK : gb407 ≠ gb406)); replace BK406 := Aside0.mk (blk_below (g := gb406) yK hb); clear hb hbox hg; have hnb8 := NB406_407.out; have hnc8 := NB407_406.out; have hcz9_0 := yZ0 BK406.out; have hcz9_1 := yZ1 BK406.out; have hcz9_2 := yZ2 BK406.out; have hfz9_0 := blk_frozen BK406.out 0; have hfz9_1 := blk_frozen BK406.out 1; have hfz9_2 := blk_frozen BK406.out 2; have hcz10_0 := yZ0 BK407.out; have hcz10_1 := yZ1 BK407.out; have hcz10_2 := yZ2 BK407.out; have hfz10_0 := blk_frozen BK407.out 0; have hfz10_1 := blk_frozen BK407.out 1; have hfz10_2 := blk_frozen BK407.out 2) | (go_at_call 112; (with_reducible refine (api_Word_112.calls k _ _ l0_1 _ _ l1_1 t408 _ ?side1 ?side2 ?side3 ?side4 A5.out).mono ?_); (case side1 => exact yC HR0_1.out); (case side2 => exact HC0_1.out); (case side3 => exact yC HR1_1.out); (case side4 => exact HC1_1.out); rintro e w' ⟨rfl, ⟨nd, rfl⟩⟩))
   go_ret
   exact ⟨yE, yB⟩
  rw [if_neg c4] at H
  have c4b0 : (a0_2.toList == a1_2.toList) = false := beq_eq_false_iff_ne.mpr c4
  have c4b1 : (a0_2.toList != a1_2.toList) = true := bne_iff_ne.mpr c4
  obtain rfl := Option.some.inj H
  go_enter Try.func97, Try.ntmps97
  go_wp2_with (first | ((with_reducible refine gate_dst (N := 2) rfl ?_); refine yX 2 #[.bool a0_0, .slice A0_1 l0_1.length c0_1, .string a0_2] 32 ?_; intro gb406 hg w11 hbox hb; have BK406 := Aside0.mk (hbox); have GW406 := Aside0.mk ((yG hg : w.heap.size ≤ gb406)); have GE406 := Aside0.mk ((yG hg : w.heap.size ≤ gb406)); replace HB := Aside0.mk (below_step yB hb); clear hb hbox hg) | ((with_reducible refine gate_dst (N := 3) rfl ?_); refine yX 3 #[.bool a1_0, .slice A1_1 l1_1.length c1_1, .string a1_2] 32 ?_; intro gb407 hg w12 hbox hb; have BK407 := Aside0.mk (hbox); have GW407 := Aside0.mk ((yG hg : w.heap.size ≤ gb407)); have GE407 := Aside0.mk ((yG hg : w.heap.size ≤ gb407)); replace HB := Aside0.mk (below_step yB hb); have NB406_407 := Aside0.mk ((yJ hg yK : gb406 ≠ gb407)); have NB407_406 := Aside0.mk ((yI hg yK : gb407 ≠ gb406)); replace BK406 := Aside0.mk (blk_below (g := gb406) yK hb); clear hb hbox hg; have hnb13 := NB406_407.out; have hnc13 := NB407_406.out; have hcz14_0 := yZ0 BK406.out; have hcz14_1 := yZ1 BK406.out; have hcz14_2 := yZ2 BK406.out; have hfz14_0 := blk_frozen BK406.out 0; have hfz14_1 := blk_frozen BK406.out 1; have hfz14_2 := blk_frozen BK406.out 2; have hcz15_0 := yZ0 BK407.out; have hcz15_1 := yZ1 BK407.out; have hcz15_2 := yZ2 BK407.out; have hfz15_0 := blk_frozen BK407.out 0; have hfz15_1 := blk_frozen BK407.out 1; have hfz15_2 := blk_frozen BK407.out 2))
  go_ret
  exact ⟨yE, yB⟩
 rw [if_neg c3] at H
 have c3b0 : (a0_0 == a1_0) = false := by simpa using c3
 (try (have c3b1 : decide (a0_0 = a1_0) = false := by simpa using c3))
 (try (have c3b2 : (a0_0 == a1_0) = false := by simpa using c3))
 (try (have c3b3 : ¬ (a0_0 = a1_0) := by simpa using c3))
 clear c3
 obtain rfl := Option.some.inj H
 go_enter Try.func97, Try.ntmps97
 go_wp2_with (first | ((with_reducible refine gate_dst (N := 2) rfl ?_); refine yX 2 #[.bool a0_0, .slice A0_1 l0_1.length c0_1, .string a0_2] 32 ?_; intro gb406 hg w16 hbox hb; have BK406 := Aside0.mk (hbox); have GW406 := Aside0.mk ((yG hg : w.heap.size ≤ gb406)); have GE406 := Aside0.mk ((yG hg : w.heap.size ≤ gb406)); replace HB := Aside0.mk (below_step yB hb); clear hb hbox hg) | ((with_reducible refine gate_dst (N := 3) rfl ?_); refine yX 3 #[.bool a1_0, .slice A1_1 l1_1.length c1_1, .string a1_2] 32 ?_; intro gb407 hg w17 hbox hb; have BK407 := Aside0.mk (hbox); have GW407 := Aside0.mk ((yG hg : w.heap.size ≤ gb407)); have GE407 := Aside0.mk ((yG hg : w.heap.size ≤ gb407)); replace HB := Aside0.mk (below_step yB hb); have NB406_407 := Aside0.mk ((yJ hg yK : gb406 ≠ gb407)); have NB407_406 := Aside0.mk ((yI hg yK : gb407 ≠ gb406)); replace BK406 := Aside0.mk (blk_below (g := gb406) yK hb); clear hb hbox hg; have hnb18 := NB406_407.out; have hnc18 := NB407_406.out; have hcz19_0 := yZ0 BK406.out; have hcz19_1 := yZ1 BK406.out; have hcz19_2 := yZ2 BK406.out; have hfz19_0 := blk_frozen BK406.out 0; have hfz19_1 := blk_frozen BK406.out 1; have hfz19_2 := blk_frozen BK406.out 2; have hcz20_0 := yZ0 BK407.out; have hcz20_1 := yZ1 BK407.out; have hcz20_2 := yZ2 BK407.out; have hfz20_0 := blk_frozen BK407.out 0; have hfz20_1 := blk_frozen BK407.out 1; have hfz20_2 := blk_frozen BK407.out 2))
 go_ret
 exact ⟨yE, yB⟩
def subprogram_run.l0 : Nat → List (S32) → Int → Int → Int → Int → Option (Bool)
 | 0, _, _, _, _, _ => none
 | k + 1, x0, x1, x2, x10, x11 => if x11 < x10 then (if 0 ≤ (wrap64 (x1 + x11)) then (if (wrap64 (x1 + x11)) < (x0.length : Int) then ((subprogram_foldable.f k ((rd_T32 x0 (wrap64 (x1 + x11))).f0) ((rd_T32 x0 (wrap64 (x1 + x11))).f1) ((rd_T32 x0 (wrap64 (x1 + x11))).f2)).bind fun t410 => (if t410 = true then (if 0 ≤ (wrap64 (x2 + x11)) then (if (wrap64 (x2 + x11)) < (x0.length : Int) then ((block_Equal.f k ((rd_T32 x0 (wrap64 (x1 + x11))).f0) ((rd_T32 x0 (wrap64 (x1 + x11))).f1) ((rd_T32 x0 (wrap64 (x1 + x11))).f2) ((rd_T32 x0 (wrap64 (x2 + x11))).f0) ((rd_T32 x0 (wrap64 (x2 + x11))).f1) ((rd_T32 x0 (wrap64 (x2 + x11))).f2)).bind fun t413 => (if t413 = true then (subprogram_run.l0 k x0 x1 x2 x10 (wrap64 (x11 + 1))) else (some false))) else (none)) else (none)) else (some false))) else (none)) else (none)) else (some true)
def subprogram_run.f (k : Nat) (l0 : List (S32)) (a1 : Int) (a2 : Int) (a3 : Int) : Option (Bool) := subprogram_run.l0 k l0 a1 a2 a3 0
def subprogram_run.T4 : Bool × List (List Nat × List Nat) := (true, [([], []), ([], []), ([], []), ([1, 2], [1, 2]), ([0, 3], [0, 3]), ([4], [4]), ([5], [5]), ([6], [6]), ([7, 6], [7]), ([8], [8]), ([8], [8]), ([8], [8]), ([10, 11, 8], [8, 10, 11]), ([9, 12, 8], [8, 9, 12]), ([13, 8], [8, 13]), ([8], [8]), ([8], [8]), ([8], [8]), ([16, 17, 8], [8, 16, 17]), ([15, 18, 8], [8, 15, 18]), ([19, 8], [8, 19]), ([14, 20, 8, 8], [8, 14, 20]), ([21, 8], [8, 21]), ([8, 22], [8, 22])])
def subprogram_run.B4 : List Nat := [0, 0, 0, 6, 15, 31, 63, 127, 255, 511, 511, 511, 3583, 8191, 16383, 511, 511, 511, 197119, 492031, 1016319, 2097151, 4194303, 8388607]
theorem subprogram_run.tab4 : rtab .any (opsOf Try.f68 4) = subprogram_run.T4 := by kernel_rfl
theorem subprogram_run.bits4 : waitsOk subprogram_run.T4.2 subprogram_run.B4 = true := by kernel_rfl
set_option maxHeartbeats 8000000 in
set_option maxRecDepth 100000 in
theorem subprogram_run.calls (k : Nat) (A0 : Option Addr) (c0 : Nat) (l0 : List (S32)) (a1 : Int) (a2 : Int) (a3 : Int) (r : Bool) (w : World) (hr0 : Kd.C k32 w A0 l0.length l0) (hc0 : l0.length ≤ c0) (h : subprogram_run.f k l0 a1 a2 a3 = some r) :
  Calls Try.prog 68 #[.slice A0 l0.length c0, .int .i64 a1, .int .i64 a2, .int .i64 a3] w fun e w' => e = .returned (.bool r) ∧ Below w.heap.size w w' := by
 have hu32 := Try.underlying32
 have HR0 := Aside0.mk hr0
 have HC0 := Aside0.mk hc0
 clear hr0 hc0
 have HB := Aside0.mk (Below.refl w.heap.size w)
 have H : (subprogram_run.l0 k l0 a1 a2 a3 0) = some r := h
 clear h
 have H' := Aside0.mk H
 clear H
 go_enter Try.func68, Try.ntmps68
 go_wp2
 go_loopg [11] k (fun kq v11 w' => ∃ (x11_1 : Int), v11 = .int .i64 x11_1 ∧ Aside0 (subprogram_run.l0 kq l0 a1 a2 a3 x11_1 = some r) ∧ Aside0 (kq ≤ k) ∧ Aside0 (Below w.heap.size w w'))
 case atStart => exact ⟨(0), yS, H', ⟨Nat.le_refl _⟩, ⟨yB⟩⟩
 case round =>
  clear H'
  try clear p2
  obtain ⟨x11_1, rfl, HA, HK1, HB⟩ := hrel
  cases gk with
  | zero => exact absurd HA.out (by simp [subprogram_run.l0])
  | succ k1 =>
   have H := HA.out
   clear HA
   simp only [subprogram_run.l0] at H
   by_cases c5 : x11_1 < a3
   ·rw [if_pos c5] at H
    have c5b0 := decide_eq_true c5
    clear c5
    obtain ⟨ji6, hji6⟩ : ∃ j_ : Int, (wrap64 (a1 + x11_1)) = j_ := ⟨_, rfl⟩
    replace H : (if 0 ≤ (ji6) then (if (ji6) < (l0.length : Int) then ((subprogram_foldable.f k1 ((rd_T32 l0 (ji6)).f0) ((rd_T32 l0 (ji6)).f1) ((rd_T32 l0 (ji6)).f2)).bind fun t410 => (if t410 = true then (if 0 ≤ (wrap64 (a2 + x11_1)) then (if (wrap64 (a2 + x11_1)) < (l0.length : Int) then ((block_Equal.f k1 ((rd_T32 l0 (ji6)).f0) ((rd_T32 l0 (ji6)).f1) ((rd_T32 l0 (ji6)).f2) ((rd_T32 l0 (wrap64 (a2 + x11_1))).f0) ((rd_T32 l0 (wrap64 (a2 + x11_1))).f1) ((rd_T32 l0 (wrap64 (a2 + x11_1))).f2)).bind fun t413 => (if t413 = true then (subprogram_run.l0 k1 l0 a1 a2 a3 (wrap64 (x11_1 + 1))) else (some false))) else (none)) else (none)) else (some false))) else (none)) else (none)) = some r := by first | (rw [hji6] at H; exact H) | (simp only [hji6] at H ⊢; exact H)
    have hji6w : (IntKind.i64.wrap (a1 + x11_1)) = ji6 := (i64_w _).trans hji6
    by_cases c7 : 0 ≤ (ji6)
    ·rw [if_pos c7] at H
     have c7b0 := decide_eq_true c7
     clear c7
     by_cases c8 : (ji6) < (l0.length : Int)
     ·rw [if_pos c8] at H
      have c8b0 := decide_eq_true c8
      clear c8
      replace H := Option.bind_eq_some_iff.mp H
      obtain ⟨t410, A90, H⟩ := H
      have A9 := Aside0.mk A90
      clear A90
      by_cases c10 : t410 = true
      ·subst c10
       rw [if_pos rfl] at H
       obtain ⟨ji11, hji11⟩ : ∃ j_ : Int, (wrap64 (a2 + x11_1)) = j_ := ⟨_, rfl⟩
       replace H : (if 0 ≤ (ji11) then (if (ji11) < (l0.length : Int) then ((block_Equal.f k1 ((rd_T32 l0 (ji6)).f0) ((rd_T32 l0 (ji6)).f1) ((rd_T32 l0 (ji6)).f2) ((rd_T32 l0 (ji11)).f0) ((rd_T32 l0 (ji11)).f1) ((rd_T32 l0 (ji11)).f2)).bind fun t413 => (if t413 = true then (subprogram_run.l0 k1 l0 a1 a2 a3 (wrap64 (x11_1 + 1))) else (some false))) else (none)) else (none)) = some r := by first | (rw [hji11] at H; exact H) | (simp only [hji11] at H ⊢; exact H)
       (try rw [hji11] at A9)
       have hji11w : (IntKind.i64.wrap (a2 + x11_1)) = ji11 := (i64_w _).trans hji11
       by_cases c12 : 0 ≤ (ji11)
       ·rw [if_pos c12] at H
        have c12b0 := decide_eq_true c12
        clear c12
        by_cases c13 : (ji11) < (l0.length : Int)
        ·rw [if_pos c13] at H
         have c13b0 := decide_eq_true c13
         clear c13
         replace H := Option.bind_eq_some_iff.mp H
         obtain ⟨t413, A140, H⟩ := H
         have A14 := Aside0.mk A140
         clear A140
         by_cases c15 : t413 = true
         ·subst c15
          rw [if_pos rfl] at H
          have H' := Aside0.mk H
          clear H
          try go_wp2
          replace HB := Aside0.mk (below_drew1 HB.out)
          have p409 : 0 ≤ ((ji6) : Int) := yD
          have q409 : (ji6) < (l0.length : Int) := yD
          obtain ⟨ad409, A409_1, c409_1, e409, hx409_0, hx409_1, hx409_2, hl409_1, hi409_1⟩ := at_T32 HR0.out (ji6) p409 q409
          have hw409_2 := hx409_2
          have hw409_1 := hx409_1
          have hw409_0 := hx409_0
          cases e409
          replace hx409_0 := yM HB.out hx409_0
          replace hx409_1 := yM HB.out hx409_1
          replace hx409_2 := yM HB.out hx409_2
          have HR409_1 := Aside0.mk hi409_1
          have HC409_1 := Aside0.mk hl409_1
          clear hi409_1 hl409_1
          replace p409 := eq_true p409
          replace q409 := eq_true q409
          have p411 : 0 ≤ ((ji6) : Int) := yD
          have q411 : (ji6) < (l0.length : Int) := yD
          obtain ⟨ad411, A411_1, c411_1, e411, hx411_0, hx411_1, hx411_2, hl411_1, hi411_1⟩ := at_T32 HR0.out (ji6) p411 q411
          have hw411_2 := hx411_2
          have hw411_1 := hx411_1
          have hw411_0 := hx411_0
          obtain rfl : ad409 = ad411 := (by injection e411)
          have HQA411_1 := Aside0.mk (show A411_1 = A409_1 from by first | (have e_ := Option.some.inj (hw409_1.symm.trans hw411_1); injection e_ with e1_ e2_ e3_; exact e1_.symm) | (have e_ := Option.some.inj (hx409_1.symm.trans hx411_1); injection e_ with e1_ e2_ e3_; exact e1_.symm))
          have HQc411_1 := Aside0.mk (show c411_1 = c409_1 from by first | (have e_ := Option.some.inj (hw409_1.symm.trans hw411_1); injection e_ with e1_ e2_ e3_; exact e3_.symm) | (have e_ := Option.some.inj (hx409_1.symm.trans hx411_1); injection e_ with e1_ e2_ e3_; exact e3_.symm))
          replace hx411_0 := yM HB.out hx411_0
          replace hx411_1 := yM HB.out hx411_1
          replace hx411_2 := yM HB.out hx411_2
          have HR411_1 := Aside0.mk hi411_1
          have HC411_1 := Aside0.mk hl411_1
          clear hi411_1 hl411_1
          replace p411 := eq_true p411
          replace q411 := eq_true q411
          have p412 : 0 ≤ ((ji11) : Int) := yD
          have q412 : (ji11) < (l0.length : Int) := yD
          obtain ⟨ad412, A412_1, c412_1, e412, hx412_0, hx412_1, hx412_2, hl412_1, hi412_1⟩ := at_T32 HR0.out (ji11) p412 q412
          have hw412_2 := hx412_2
          have hw412_1 := hx412_1
          have hw412_0 := hx412_0
          obtain rfl : ad409 = ad412 := (by injection e412)
          replace hx412_0 := yM HB.out hx412_0
          replace hx412_1 := yM HB.out hx412_1
          replace hx412_2 := yM HB.out hx412_2
          have HR412_1 := Aside0.mk hi412_1
          have HC412_1 := Aside0.mk hl412_1
          clear hi412_1 hl412_1
          replace p412 := eq_true p412
          replace q412 := eq_true q412
          refine start_ (n := 24) (S := fun w' => w'.cell? (ad409.add (((ji6)).toNat * 3)) = some (.bool ((rd_T32 l0 (ji6)).f0)) ∧ w'.cell? ⟨(ad409.add (((ji6)).toNat * 3)).block, (ad409.add (((ji6)).toNat * 3)).off + 1, none⟩ = some (.slice A409_1 ((rd_T32 l0 (ji6)).f1).length c409_1) ∧ w'.cell? ⟨(ad409.add (((ji6)).toNat * 3)).block, (ad409.add (((ji6)).toNat * 3)).off + 2, none⟩ = some (.string ((rd_T32 l0 (ji6)).f2)) ∧ w'.cell? (ad409.add (((ji6)).toNat * 3)) = some (.bool ((rd_T32 l0 (ji6)).f0)) ∧ w'.cell? ⟨(ad409.add (((ji6)).toNat * 3)).block, (ad409.add (((ji6)).toNat * 3)).off + 1, none⟩ = some (.slice A411_1 ((rd_T32 l0 (ji6)).f1).length c411_1) ∧ w'.cell? ⟨(ad409.add (((ji6)).toNat * 3)).block, (ad409.add (((ji6)).toNat * 3)).off + 2, none⟩ = some (.string ((rd_T32 l0 (ji6)).f2)) ∧ w'.cell? (ad409.add (((ji11)).toNat * 3)) = some (.bool ((rd_T32 l0 (ji11)).f0)) ∧ w'.cell? ⟨(ad409.add (((ji11)).toNat * 3)).block, (ad409.add (((ji11)).toNat * 3)).off + 1, none⟩ = some (.slice A412_1 ((rd_T32 l0 (ji11)).f1).length c412_1) ∧ w'.cell? ⟨(ad409.add (((ji11)).toNat * 3)).block, (ad409.add (((ji11)).toNat * 3)).off + 2, none⟩ = some (.string ((rd_T32 l0 (ji11)).f2))) (ds := []) #[false, false, false, false, false, false, false, false, false, false, false, false, false, false, false, false, false, false, false, false, false, false, false, false] (by kernel_rfl) rfl rfl ⟨(yM HB.out hw409_0), (yM HB.out hw409_1), (yM HB.out hw409_2), (yM HB.out hw411_0), (yM HB.out hw411_1), (yM HB.out hw411_2), (yM HB.out hw412_0), (yM HB.out hw412_1), (yM HB.out hw412_2)⟩ (fun hHeld => ?_); refine with_tabW subprogram_run.tab4 subprogram_run.bits4 (fun HT_ HW_ => ?_)
          generalize wr.drew = w16 at HB HR409_1 HR411_1 HR412_1 hx409_0 hx409_1 hx409_2 hx411_0 hx411_1 hx411_2 hx412_0 hx412_1 hx412_2 hHeld ⊢
          refine yp 0 14 ?_
          refine yp 1 15 ?_
          refine yp 2 16 ?_
          refine yp 3 17 ?_
          refine yp 4 18 ?_
          refine yt 5 19 hHeld ?_
          refine yo 6 (some 20) (fun K hK => ?_)
          refine goes_ Try.func96 (by kernel_rfl) rfl #[.agg #[.bool ((rd_T32 l0 (ji6)).f0), .slice A409_1 ((rd_T32 l0 (ji6)).f1).length c409_1, .string ((rd_T32 l0 (ji6)).f2)]] (by rfl) rfl rfl (by (try simp only [List.map_toArray, List.map_cons, List.map_nil]); first | done | (simp only [hji6]; rfl) | rfl | (simp only [List.length_drop, List.length_take]; rfl) | (simp only [HQA411_1.out, HQc411_1.out]; rfl) | (simp only [HQA411_1.out, HQc411_1.out, hji6]; rfl)) ?_
          with_reducible refine (subprogram_foldable.calls k1 ((rd_T32 l0 (ji6)).f0) _ _ ((rd_T32 l0 (ji6)).f1) ((rd_T32 l0 (ji6)).f2) true _ ?side1 ?side2 A9.out).mono ?_
          (case side1 => exact yC HR409_1.out)
          (case side2 => exact HC409_1.out)
          rintro e w17 ⟨rfl, hb⟩
          refine ⟨_, rfl, ?_⟩
          replace HB := Aside0.mk (below_step yB hb)
          (try clear hb)
          refine hK.out _ _ ⟨(yM HB.out hw409_0), (yM HB.out hw409_1), (yM HB.out hw409_2), (yM HB.out hw411_0), (yM HB.out hw411_1), (yM HB.out hw411_2), (yM HB.out hw412_0), (yM HB.out hw412_1), (yM HB.out hw412_2)⟩ (fun hHeld => ?_)
          clear hK K
          refine yn 20 ?_
          refine yp 7 21 ?_
          refine yp 8 22 ?_
          refine yp 9 23 ?_
          refine yp 10 24 ?_
          refine yp 11 25 ?_
          refine yp 12 26 ?_
          refine yp 13 27 ?_
          refine yp 15 29 ?_
          refine yp 16 30 ?_
          refine yp 17 31 ?_
          refine yp 18 32 ?_
          refine yp 19 33 ?_
          refine yt 14 28 hHeld ?_
          refine yt 20 34 hHeld ?_
          refine yo 21 (some 35) (fun K hK => ?_)
          refine goes_ Try.func97 (by kernel_rfl) rfl #[.agg #[.bool ((rd_T32 l0 (ji6)).f0), .slice A411_1 ((rd_T32 l0 (ji6)).f1).length c411_1, .string ((rd_T32 l0 (ji6)).f2)], .agg #[.bool ((rd_T32 l0 (ji11)).f0), .slice A412_1 ((rd_T32 l0 (ji11)).f1).length c412_1, .string ((rd_T32 l0 (ji11)).f2)]] (by rfl) rfl rfl (by (try simp only [List.map_toArray, List.map_cons, List.map_nil]); first | done | (simp only [hji11, hji6]; rfl) | rfl | (simp only [List.length_drop, List.length_take]; rfl) | (simp only [HQA411_1.out, HQc411_1.out]; rfl) | (simp only [HQA411_1.out, HQc411_1.out, hji11, hji6]; rfl)) ?_
          with_reducible refine (block_Equal.calls k1 ((rd_T32 l0 (ji6)).f0) _ _ ((rd_T32 l0 (ji6)).f1) ((rd_T32 l0 (ji6)).f2) ((rd_T32 l0 (ji11)).f0) _ _ ((rd_T32 l0 (ji11)).f1) ((rd_T32 l0 (ji11)).f2) true _ ?side1 ?side2 ?side3 ?side4 A14.out).mono ?_
          (case side1 => exact yC HR411_1.out)
          (case side2 => exact HC411_1.out)
          (case side3 => exact yC HR412_1.out)
          (case side4 => exact HC412_1.out)
          rintro e w18 ⟨rfl, hb⟩
          refine ⟨_, rfl, ?_⟩
          replace HB := Aside0.mk (below_step yB hb)
          (try clear hb)
          refine hK.out _ _ ⟨(yM HB.out hw409_0), (yM HB.out hw409_1), (yM HB.out hw409_2), (yM HB.out hw411_0), (yM HB.out hw411_1), (yM HB.out hw411_2), (yM HB.out hw412_0), (yM HB.out hw412_1), (yM HB.out hw412_2)⟩ (fun hHeld => ?_)
          clear hK K
          refine yn 35 ?_
          refine yp 22 36 ?_
          refine yp 23 37 ?_
          refine done_ (done_of HT_.out (by kernel_rfl)) ?_
          try go_wp2
          go_roundg k1
          case measure => have := HK1.out; omega
          case rel => exact ⟨(wrap64 (x11_1 + 1)), yS, H', ⟨by have := HK1.out; omega⟩, ⟨yB⟩⟩
         replace c15 := Bool.eq_false_iff.mpr c15
         subst c15
         replace H : (some false) = some r := by rw [if_neg (show ¬ (false = true) by decide)] at H; exact H
         obtain rfl := Option.some.inj H
         try go_wp2
         replace HB := Aside0.mk (below_drew1 HB.out)
         have p409 : 0 ≤ ((ji6) : Int) := yD
         have q409 : (ji6) < (l0.length : Int) := yD
         obtain ⟨ad409, A409_1, c409_1, e409, hx409_0, hx409_1, hx409_2, hl409_1, hi409_1⟩ := at_T32 HR0.out (ji6) p409 q409
         have hw409_2 := hx409_2
         have hw409_1 := hx409_1
         have hw409_0 := hx409_0
         cases e409
         replace hx409_0 := yM HB.out hx409_0
         replace hx409_1 := yM HB.out hx409_1
         replace hx409_2 := yM HB.out hx409_2
         have HR409_1 := Aside0.mk hi409_1
         have HC409_1 := Aside0.mk hl409_1
         clear hi409_1 hl409_1
         replace p409 := eq_true p409
         replace q409 := eq_true q409
         have p411 : 0 ≤ ((ji6) : Int) := yD
         have q411 : (ji6) < (l0.length : Int) := yD
         obtain ⟨ad411, A411_1, c411_1, e411, hx411_0, hx411_1, hx411_2, hl411_1, hi411_1⟩ := at_T32 HR0.out (ji6) p411 q411
         have hw411_2 := hx411_2
         have hw411_1 := hx411_1
         have hw411_0 := hx411_0
         obtain rfl : ad409 = ad411 := (by injection e411)
         have HQA411_1 := Aside0.mk (show A411_1 = A409_1 from by first | (have e_ := Option.some.inj (hw409_1.symm.trans hw411_1); injection e_ with e1_ e2_ e3_; exact e1_.symm) | (have e_ := Option.some.inj (hx409_1.symm.trans hx411_1); injection e_ with e1_ e2_ e3_; exact e1_.symm))
         have HQc411_1 := Aside0.mk (show c411_1 = c409_1 from by first | (have e_ := Option.some.inj (hw409_1.symm.trans hw411_1); injection e_ with e1_ e2_ e3_; exact e3_.symm) | (have e_ := Option.some.inj (hx409_1.symm.trans hx411_1); injection e_ with e1_ e2_ e3_; exact e3_.symm))
         replace hx411_0 := yM HB.out hx411_0
         replace hx411_1 := yM HB.out hx411_1
         replace hx411_2 := yM HB.out hx411_2
         have HR411_1 := Aside0.mk hi411_1
         have HC411_1 := Aside0.mk hl411_1
         clear hi411_1 hl411_1
         replace p411 := eq_true p411
         replace q411 := eq_true q411
         have p412 : 0 ≤ ((ji11) : Int) := yD
         have q412 : (ji11) < (l0.length : Int) := yD
         obtain ⟨ad412, A412_1, c412_1, e412, hx412_0, hx412_1, hx412_2, hl412_1, hi412_1⟩ := at_T32 HR0.out (ji11) p412 q412
         have hw412_2 := hx412_2
         have hw412_1 := hx412_1
         have hw412_0 := hx412_0
         obtain rfl : ad409 = ad412 := (by injection e412)
         replace hx412_0 := yM HB.out hx412_0
         replace hx412_1 := yM HB.out hx412_1
         replace hx412_2 := yM HB.out hx412_2
         have HR412_1 := Aside0.mk hi412_1
         have HC412_1 := Aside0.mk hl412_1
         clear hi412_1 hl412_1
         replace p412 := eq_true p412
         replace q412 := eq_true q412
         refine start_ (n := 24) (S := fun w' => w'.cell? (ad409.add (((ji6)).toNat * 3)) = some (.bool ((rd_T32 l0 (ji6)).f0)) ∧ w'.cell? ⟨(ad409.add (((ji6)).toNat * 3)).block, (ad409.add (((ji6)).toNat * 3)).off + 1, none⟩ = some (.slice A409_1 ((rd_T32 l0 (ji6)).f1).length c409_1) ∧ w'.cell? ⟨(ad409.add (((ji6)).toNat * 3)).block, (ad409.add (((ji6)).toNat * 3)).off + 2, none⟩ = some (.string ((rd_T32 l0 (ji6)).f2)) ∧ w'.cell? (ad409.add (((ji6)).toNat * 3)) = some (.bool ((rd_T32 l0 (ji6)).f0)) ∧ w'.cell? ⟨(ad409.add (((ji6)).toNat * 3)).block, (ad409.add (((ji6)).toNat * 3)).off + 1, none⟩ = some (.slice A411_1 ((rd_T32 l0 (ji6)).f1).length c411_1) ∧ w'.cell? ⟨(ad409.add (((ji6)).toNat * 3)).block, (ad409.add (((ji6)).toNat * 3)).off + 2, none⟩ = some (.string ((rd_T32 l0 (ji6)).f2)) ∧ w'.cell? (ad409.add (((ji11)).toNat * 3)) = some (.bool ((rd_T32 l0 (ji11)).f0)) ∧ w'.cell? ⟨(ad409.add (((ji11)).toNat * 3)).block, (ad409.add (((ji11)).toNat * 3)).off + 1, none⟩ = some (.slice A412_1 ((rd_T32 l0 (ji11)).f1).length c412_1) ∧ w'.cell? ⟨(ad409.add (((ji11)).toNat * 3)).block, (ad409.add (((ji11)).toNat * 3)).off + 2, none⟩ = some (.string ((rd_T32 l0 (ji11)).f2))) (ds := []) #[false, false, false, false, false, false, false, false, false, false, false, false, false, false, false, false, false, false, false, false, false, false, false, false] (by kernel_rfl) rfl rfl ⟨(yM HB.out hw409_0), (yM HB.out hw409_1), (yM HB.out hw409_2), (yM HB.out hw411_0), (yM HB.out hw411_1), (yM HB.out hw411_2), (yM HB.out hw412_0), (yM HB.out hw412_1), (yM HB.out hw412_2)⟩ (fun hHeld => ?_); refine with_tabW subprogram_run.tab4 subprogram_run.bits4 (fun HT_ HW_ => ?_)
         generalize wr.drew = w19 at HB HR409_1 HR411_1 HR412_1 hx409_0 hx409_1 hx409_2 hx411_0 hx411_1 hx411_2 hx412_0 hx412_1 hx412_2 hHeld ⊢
         refine yp 0 14 ?_
         refine yp 1 15 ?_
         refine yp 2 16 ?_
         refine yp 3 17 ?_
         refine yp 4 18 ?_
         refine yt 5 19 hHeld ?_
         refine yo 6 (some 20) (fun K hK => ?_)
         refine goes_ Try.func96 (by kernel_rfl) rfl #[.agg #[.bool ((rd_T32 l0 (ji6)).f0), .slice A409_1 ((rd_T32 l0 (ji6)).f1).length c409_1, .string ((rd_T32 l0 (ji6)).f2)]] (by rfl) rfl rfl (by (try simp only [List.map_toArray, List.map_cons, List.map_nil]); first | done | (simp only [hji6]; rfl) | rfl | (simp only [List.length_drop, List.length_take]; rfl) | (simp only [HQA411_1.out, HQc411_1.out]; rfl) | (simp only [HQA411_1.out, HQc411_1.out, hji6]; rfl)) ?_
         with_reducible refine (subprogram_foldable.calls k1 ((rd_T32 l0 (ji6)).f0) _ _ ((rd_T32 l0 (ji6)).f1) ((rd_T32 l0 (ji6)).f2) true _ ?side1 ?side2 A9.out).mono ?_
         (case side1 => exact yC HR409_1.out)
         (case side2 => exact HC409_1.out)
         rintro e w20 ⟨rfl, hb⟩
         refine ⟨_, rfl, ?_⟩
         replace HB := Aside0.mk (below_step yB hb)
         (try clear hb)
         refine hK.out _ _ ⟨(yM HB.out hw409_0), (yM HB.out hw409_1), (yM HB.out hw409_2), (yM HB.out hw411_0), (yM HB.out hw411_1), (yM HB.out hw411_2), (yM HB.out hw412_0), (yM HB.out hw412_1), (yM HB.out hw412_2)⟩ (fun hHeld => ?_)
         clear hK K
         refine yn 20 ?_
         refine yp 7 21 ?_
         refine yp 8 22 ?_
         refine yp 9 23 ?_
         refine yp 10 24 ?_
         refine yp 11 25 ?_
         refine yp 12 26 ?_
         refine yp 13 27 ?_
         refine yp 15 29 ?_
         refine yp 16 30 ?_
         refine yp 17 31 ?_
         refine yp 18 32 ?_
         refine yp 19 33 ?_
         refine yt 14 28 hHeld ?_
         refine yt 20 34 hHeld ?_
         refine yo 21 (some 35) (fun K hK => ?_)
         refine goes_ Try.func97 (by kernel_rfl) rfl #[.agg #[.bool ((rd_T32 l0 (ji6)).f0), .slice A411_1 ((rd_T32 l0 (ji6)).f1).length c411_1, .string ((rd_T32 l0 (ji6)).f2)], .agg #[.bool ((rd_T32 l0 (ji11)).f0), .slice A412_1 ((rd_T32 l0 (ji11)).f1).length c412_1, .string ((rd_T32 l0 (ji11)).f2)]] (by rfl) rfl rfl (by (try simp only [List.map_toArray, List.map_cons, List.map_nil]); first | done | (simp only [hji11, hji6]; rfl) | rfl | (simp only [List.length_drop, List.length_take]; rfl) | (simp only [HQA411_1.out, HQc411_1.out]; rfl) | (simp only [HQA411_1.out, HQc411_1.out, hji11, hji6]; rfl)) ?_
         with_reducible refine (block_Equal.calls k1 ((rd_T32 l0 (ji6)).f0) _ _ ((rd_T32 l0 (ji6)).f1) ((rd_T32 l0 (ji6)).f2) ((rd_T32 l0 (ji11)).f0) _ _ ((rd_T32 l0 (ji11)).f1) ((rd_T32 l0 (ji11)).f2) false _ ?side1 ?side2 ?side3 ?side4 A14.out).mono ?_
         (case side1 => exact yC HR411_1.out)
         (case side2 => exact HC411_1.out)
         (case side3 => exact yC HR412_1.out)
         (case side4 => exact HC412_1.out)
         rintro e w21 ⟨rfl, hb⟩
         refine ⟨_, rfl, ?_⟩
         replace HB := Aside0.mk (below_step yB hb)
         (try clear hb)
         refine hK.out _ _ ⟨(yM HB.out hw409_0), (yM HB.out hw409_1), (yM HB.out hw409_2), (yM HB.out hw411_0), (yM HB.out hw411_1), (yM HB.out hw411_2), (yM HB.out hw412_0), (yM HB.out hw412_1), (yM HB.out hw412_2)⟩ (fun hHeld => ?_)
         clear hK K
         refine yn 35 ?_
         refine yp 22 36 ?_
         refine yp 23 37 ?_
         refine done_ (done_of HT_.out (by kernel_rfl)) ?_
         try go_wp2
         go_ret
         exact ⟨by first | rfl | (simp [errW_none, errW_some] <;> rfl) | (simp only [← hji6, ← hji11]; first | rfl | (simp [errW_none, errW_some] <;> rfl)) | (simp [*, errW_none, errW_some] <;> rfl), yB⟩
        rw [if_neg c13] at H
        exact absurd H (by simp)
       rw [if_neg c12] at H
       exact absurd H (by simp)
      replace c10 := Bool.eq_false_iff.mpr c10
      subst c10
      replace H : (some false) = some r := by rw [if_neg (show ¬ (false = true) by decide)] at H; exact H
      obtain rfl := Option.some.inj H
      try go_wp2
      replace HB := Aside0.mk (below_drew1 HB.out)
      have p409 : 0 ≤ ((ji6) : Int) := yD
      have q409 : (ji6) < (l0.length : Int) := yD
      obtain ⟨ad409, A409_1, c409_1, e409, hx409_0, hx409_1, hx409_2, hl409_1, hi409_1⟩ := at_T32 HR0.out (ji6) p409 q409
      have hw409_2 := hx409_2
      have hw409_1 := hx409_1
      have hw409_0 := hx409_0
      cases e409
      replace hx409_0 := yM HB.out hx409_0
      replace hx409_1 := yM HB.out hx409_1
      replace hx409_2 := yM HB.out hx409_2
      have HR409_1 := Aside0.mk hi409_1
      have HC409_1 := Aside0.mk hl409_1
      clear hi409_1 hl409_1
      replace p409 := eq_true p409
      replace q409 := eq_true q409
      refine start_ (n := 24) (S := fun w' => w'.cell? (ad409.add (((ji6)).toNat * 3)) = some (.bool ((rd_T32 l0 (ji6)).f0)) ∧ w'.cell? ⟨(ad409.add (((ji6)).toNat * 3)).block, (ad409.add (((ji6)).toNat * 3)).off + 1, none⟩ = some (.slice A409_1 ((rd_T32 l0 (ji6)).f1).length c409_1) ∧ w'.cell? ⟨(ad409.add (((ji6)).toNat * 3)).block, (ad409.add (((ji6)).toNat * 3)).off + 2, none⟩ = some (.string ((rd_T32 l0 (ji6)).f2))) (ds := []) #[false, false, false, false, false, false, false, false, false, false, false, false, false, false, false, false, false, false, false, false, false, false, false, false] (by kernel_rfl) rfl rfl ⟨(yM HB.out hw409_0), (yM HB.out hw409_1), (yM HB.out hw409_2)⟩ (fun hHeld => ?_); refine with_tabW subprogram_run.tab4 subprogram_run.bits4 (fun HT_ HW_ => ?_)
      generalize wr.drew = w22 at HB HR409_1 hx409_0 hx409_1 hx409_2 hHeld ⊢
      refine yp 0 14 ?_
      refine yp 1 15 ?_
      refine yp 2 16 ?_
      refine yp 3 17 ?_
      refine yp 4 18 ?_
      refine yt 5 19 hHeld ?_
      refine yo 6 (some 20) (fun K hK => ?_)
      refine goes_ Try.func96 (by kernel_rfl) rfl #[.agg #[.bool ((rd_T32 l0 (ji6)).f0), .slice A409_1 ((rd_T32 l0 (ji6)).f1).length c409_1, .string ((rd_T32 l0 (ji6)).f2)]] (by rfl) rfl rfl (by (try simp only [List.map_toArray, List.map_cons, List.map_nil]); first | done | (simp only [hji6]; rfl) | rfl | (simp only [List.length_drop, List.length_take]; rfl)) ?_
      with_reducible refine (subprogram_foldable.calls k1 ((rd_T32 l0 (ji6)).f0) _ _ ((rd_T32 l0 (ji6)).f1) ((rd_T32 l0 (ji6)).f2) false _ ?side1 ?side2 A9.out).mono ?_
      (case side1 => exact yC HR409_1.out)
      (case side2 => exact HC409_1.out)
      rintro e w23 ⟨rfl, hb⟩
      refine ⟨_, rfl, ?_⟩
      replace HB := Aside0.mk (below_step yB hb)
      (try clear hb)
      refine hK.out _ _ ⟨(yM HB.out hw409_0), (yM HB.out hw409_1), (yM HB.out hw409_2)⟩ (fun hHeld => ?_)
      clear hK K
      refine yn 20 ?_
      refine yp 7 21 ?_
      refine yp 8 22 ?_
      refine yu 9 23 ?_
      refine yu 10 24 ?_
      refine yu 11 25 ?_
      refine yu 12 26 ?_
      refine yu 13 27 ?_
      refine yu 14 28 ?_
      refine yu 15 29 ?_
      refine yu 16 30 ?_
      refine yu 17 31 ?_
      refine yu 18 32 ?_
      refine yu 19 33 ?_
      refine yu 20 34 ?_
      refine yu 21 35 ?_
      refine yu 22 36 ?_
      refine yp 23 37 ?_
      refine done_ (done_of HT_.out (by kernel_rfl)) ?_
      try go_wp2
      go_ret
      exact ⟨by first | rfl | (simp [errW_none, errW_some] <;> rfl) | (simp only [← hji6]; first | rfl | (simp [errW_none, errW_some] <;> rfl)) | (simp [*, errW_none, errW_some] <;> rfl), yB⟩
     rw [if_neg c8] at H
     exact absurd H (by simp)
    rw [if_neg c7] at H
    exact absurd H (by simp)
   rw [if_neg c5] at H
   have c5b0 := decide_eq_false c5
   clear c5
   obtain rfl := Option.some.inj H
   go_wp2
   go_ret
   exact ⟨yE, yB⟩
mutual
def subprogram_first.l0 : Nat → List (S32) → Int → Int → Option (Int)
 | 0, _, _, _ => none
 | k + 1, x0, x1, x5 => if (wrap64 (x5 + x1)) ≤ (wrap64 ((x0.length : Int) - x1)) then (subprogram_first.l1 k x0 x1 x5 (wrap64 (x5 + x1))) else (some (-1))
def subprogram_first.l1 : Nat → List (S32) → Int → Int → Int → Option (Int)
 | 0, _, _, _, _ => none
 | k + 1, x0, x1, x5, x6 => if (wrap64 (x6 + x1)) ≤ (x0.length : Int) then ((subprogram_run.f k x0 x5 x6 x1).bind fun t414 => (if t414 = true then (some x5) else (subprogram_first.l1 k x0 x1 x5 (wrap64 (x6 + 1))))) else (subprogram_first.l0 k x0 x1 (wrap64 (x5 + 1)))
end
def subprogram_first.f (k : Nat) (l0 : List (S32)) (a1 : Int) : Option (Int) := subprogram_first.l0 k l0 a1 0
set_option maxHeartbeats 8000000 in
set_option maxRecDepth 100000 in
theorem subprogram_first.calls (k : Nat) (A0 : Option Addr) (c0 : Nat) (l0 : List (S32)) (a1 : Int) (r : Int) (w : World) (hr0 : Kd.C k32 w A0 l0.length l0) (hc0 : l0.length ≤ c0) (h : subprogram_first.f k l0 a1 = some r) :
  Calls Try.prog 67 #[.slice A0 l0.length c0, .int .i64 a1] w fun e w' => e = .returned (.int .i64 r) ∧ Below w.heap.size w w' := by
 have HR0 := Aside0.mk hr0
 have HC0 := Aside0.mk hc0
 clear hr0 hc0
 have HB := Aside0.mk (Below.refl w.heap.size w)
 have H : (subprogram_first.l0 k l0 a1 0) = some r := h
 clear h
 have H' := Aside0.mk H
 clear H
 go_enter Try.func67, Try.ntmps67
 go_wp2
 go_loopg [5] k (fun kq v5 w' => ∃ (x5_1 : Int), v5 = .int .i64 x5_1 ∧ Aside0 (subprogram_first.l0 kq l0 a1 x5_1 = some r) ∧ Aside0 (kq ≤ k) ∧ Aside0 (Below w.heap.size w w'))
 case atStart => exact ⟨(0), yS, H', ⟨Nat.le_refl _⟩, ⟨yB⟩⟩
 case round =>
  clear H'
  try clear p2
  obtain ⟨x5_1, rfl, HA, HK1, HB⟩ := hrel
  cases gk with
  | zero => exact absurd HA.out (by simp [subprogram_first.l0])
  | succ k1 =>
   have H := HA.out
   clear HA
   simp only [subprogram_first.l0] at H
   by_cases c3 : (wrap64 (x5_1 + a1)) ≤ (wrap64 ((l0.length : Int) - a1))
   ·rw [if_pos c3] at H
    have c3b0 := decide_eq_true c3
    clear c3
    have H' := Aside0.mk H
    clear H
    go_wp2
    go_loopg [6] k1 (fun kq v6 w' => ∃ (x6_2 : Int), v6 = .int .i64 x6_2 ∧ Aside0 (subprogram_first.l1 kq l0 a1 x5_1 x6_2 = some r) ∧ Aside0 (kq ≤ k1) ∧ Aside0 (Below w.heap.size w w'))
    case atStart => exact ⟨(wrap64 (x5_1 + a1)), yS, H', ⟨Nat.le_refl _⟩, ⟨yB⟩⟩
    case round =>
     clear H'
     try clear p2
     try clear c3
     try clear c3b0
     try clear p2
     obtain ⟨x6_2, rfl, HA, HK2, HB⟩ := hrel
     cases gk with
     | zero => exact absurd HA.out (by simp [subprogram_first.l1])
     | succ k2 =>
      have H := HA.out
      clear HA
      simp only [subprogram_first.l1] at H
      by_cases c4 : (wrap64 (x6_2 + a1)) ≤ (l0.length : Int)
      ·rw [if_pos c4] at H
       have c4b0 := decide_eq_true c4
       clear c4
       replace H := Option.bind_eq_some_iff.mp H
       obtain ⟨t414, A50, H⟩ := H
       have A5 := Aside0.mk A50
       clear A50
       by_cases c6 : t414 = true
       ·subst c6
        rw [if_pos rfl] at H
        obtain rfl := Option.some.inj H
        go_wp2_with (first | ((with_reducible refine gate_callee (f := 68) rfl ?_); refine goesL_ (some 32) rfl rfl Try.func68 (by kernel_rfl) rfl #[.slice A0 l0.length c0, .int .i64 x5_1, .int .i64 x6_2, .int .i64 a1] rfl yQ ?_; (with_reducible refine (subprogram_run.calls k2 _ _ l0 x5_1 x6_2 a1 true _ ?side1 ?side2 A5.out).mono ?_); (case side1 => exact yC HR0.out); (case side2 => exact HC0.out); rintro e w7 ⟨rfl, hb⟩; refine ⟨_, rfl, ?_⟩; replace HB := Aside0.mk (below_step yB hb); (try clear hb)))
        go_ret
        exact ⟨yE, yB⟩
       replace c6 := Bool.eq_false_iff.mpr c6
       subst c6
       replace H : (subprogram_first.l1 k2 l0 a1 x5_1 (wrap64 (x6_2 + 1))) = some r := by rw [if_neg (show ¬ (false = true) by decide)] at H; exact H
       have H' := Aside0.mk H
       clear H
       go_wp2_with (first | ((with_reducible refine gate_callee (f := 68) rfl ?_); refine goesL_ (some 32) rfl rfl Try.func68 (by kernel_rfl) rfl #[.slice A0 l0.length c0, .int .i64 x5_1, .int .i64 x6_2, .int .i64 a1] rfl yQ ?_; (with_reducible refine (subprogram_run.calls k2 _ _ l0 x5_1 x6_2 a1 false _ ?side1 ?side2 A5.out).mono ?_); (case side1 => exact yC HR0.out); (case side2 => exact HC0.out); rintro e w8 ⟨rfl, hb⟩; refine ⟨_, rfl, ?_⟩; replace HB := Aside0.mk (below_step yB hb); (try clear hb)))
       go_roundg k2
       case measure => have := HK1.out; have := HK2.out; omega
       case rel => exact ⟨(wrap64 (x6_2 + 1)), yS, H', ⟨by have := HK1.out; have := HK2.out; omega⟩, ⟨yB⟩⟩
      rw [if_neg c4] at H
      have c4b0 := decide_eq_false c4
      clear c4
      have H' := Aside0.mk H
      clear H
      go_wp2
      go_roundg k2
      case measure => have := HK1.out; have := HK2.out; omega
      case rel => exact ⟨(wrap64 (x5_1 + 1)), yS, H', ⟨by have := HK1.out; have := HK2.out; omega⟩, ⟨yB⟩⟩
   rw [if_neg c3] at H
   have c3b0 := decide_eq_false c3
   clear c3
   obtain rfl := Option.some.inj H
   go_wp2
   go_ret
   exact ⟨yE, yB⟩
end Go.Proofs.Ytehkhbnhmehobaa.P
namespace Go.Proofs.Ytehkhbnhmehobaa.P
open Go.RowKit Go.Proofs.YtehkhbnhmehobaaW.PrintWords Go.Proofs.YtehkhbnhmehobaaW.PrintLast Go.Proofs.YtehkhbnhmehobaaW.PrintMore
set_option linter.unusedVariables false
set_option linter.unusedSimpArgs false
def Clone_Block.f (l0 : List (S32)) : Option ((List (S32))) := if l0.length < 2932031007402 then some l0 else none
set_option maxHeartbeats 1000000 in
set_option maxRecDepth 100000 in
theorem Clone_Block.calls (P0_ : Nat → Prop) (A0 : Option Addr) (c0 : Nat) (l0 : List (S32)) (r : List (S32)) (w : World) (hs0 : Kd.V k32 32 w w.heap.size (fun k_ => P0_ k_) (.slice A0 l0.length c0) l0) (h : Clone_Block.f l0 = some r) :
    Calls Try.prog 33 #[.slice A0 l0.length c0] w fun e w' => ∃ v0_ : Value, e = .returned (v0_) ∧ Kd.N k32 32 w' w.heap.size (fun k_ => (P0_ k_ ∨ w.heap.size ≤ k_)) v0_ r ∧ Below w.heap.size w w' := by
  unfold Clone_Block.f at h
  by_cases hl : l0.length < 2932031007402
  rotate_left
  · rw [if_neg hl] at h; cases h
  rw [if_pos hl] at h
  obtain rfl := Option.some.inj h
  have HL := Aside0.mk hl
  have HS := Aside0.mk hs0
  clear hs0 hl h
  have qT : ∀ (w : World) (a : Option Addr) (n c n' c' : Nat), (binOp .eql 35 (.slice a n c) (.slice none n' c')).run Try.prog w = .ok (.bool a.isNone) w := fun w a n c n' c' => Lib.run_eql_slice_nil w _ _ a n c n' c' Try.underlying35
  cases A0 with
  | none =>
    have h0 : l0 = [] := by
      have hc := (Kd.V_reads' HS.out).2.2
      obtain ⟨_, _, hn⟩ := hc
      cases l0 with
      | nil => rfl
      | cons x l => obtain ⟨ad, he, _⟩ := hn (by simp); cases he
    subst h0
    go_enter Try.func33, Try.ntmps33
    go_wp2
    go_ret
    exact ⟨_, rfl, Kd.N_nil _ _ _ _ _, Below.refl _ _⟩
  | some ad =>
    go_enter Try.func33, Try.ntmps33
    go_wp2_with (first | ((with_reducible refine gate_dst (N := 5) rfl ?_); refine Kd.N_lit k32 w.heap.size 32 ?hg (N' := 5) ?hd (xs := ([] : List (S32))) (inner := []) (ok := (fun k_ => (P0_ k_ ∨ w.heap.size ≤ k_))) (okp := (fun k_ => (P0_ k_ ∨ w.heap.size ≤ k_))) ?hr ?hp (fun _ hk => hk) (.inr (Nat.le_refl _)) (Below.refl _ _) (Nat.le_refl _) (by simp) ?_; (case hd => rfl); (case hg => rfl); (case hr => first | (go_simp; done) | (go_simp; rfl)); (case hp => exact (Reps.none _ _)); intro v5 w4 ho5 hb hg_ hnew_; have HO5 := Aside0.mk ho5; have HB4 := Aside0.mk hb; have HN5 := Aside0.mk (show ∃ b, v5.ownBlock = some b ∧ w.heap.size ≤ b from hnew_); have HS4 := Aside0.mk (Kd.V_elder' HS.out (Kd.N_base ho5) hb); clear hg_ hnew_ hb ho5) | ((with_reducible refine gate_builtin (b := .append) (xs := #[.tmp 5, .tmp 6]) rfl ?_); at_builtin; refine Kd.N_append_rows k32 (w0 := w) w.heap.size rfl (.tmp 5) (.tmp 6) 35 32 (.agg #[(.bool false), (.slice none 0 0), (.string ⟨#[]⟩)]) 48 rfl Try.underlying35 info32 rfl (by decide) (by omega) v5 [] l0 _ _ _ (fun k_ => (P0_ k_ ∨ w.heap.size ≤ k_)) (fun k_ => (fun k_ => (P0_ k_ ∨ w.heap.size ≤ k_)) k_ ∧ some k_ ≠ (v5 : Value).ownBlock) rfl rfl ?aO ?aR (fun _ hk => hk) ?aF ?aB ?aS ?aL ?_; (case aO => exact HO5.out); (case aR => exact Kd.V_F (Kd.V_mono HS4.out (fun k_ hk => ⟨.inl hk.1, hk.2⟩))); (case aF => exact fun k_ hk => .inr (Nat.le_trans HB4.out.size hk)); (case aB => exact HB4.out); (case aS => exact HB4.out.size); (case aL => have := HL.out; simp only [List.length_nil]; omega); intro v7 w5 ho7 hb hg_ hat_; have HO7 := Aside0.mk ho7; have HB5 := Aside0.mk hb; clear hg_ hat_ hb ho7))
    go_ret
    exact ⟨_, rfl, HO7.out, HB5.out⟩
def Clone_Word.f (l0 : List (S78)) : Option ((List (S78))) := if l0.length < 8796093022208 then some l0 else none
set_option maxHeartbeats 1000000 in
set_option maxRecDepth 100000 in
theorem Clone_Word.calls (A0 : Option Addr) (c0 : Nat) (l0 : List (S78)) (r : List (S78)) (w : World) (hr0 : Kd.C k78 w A0 l0.length l0) (hc0 : l0.length ≤ c0) (h : Clone_Word.f l0 = some r) :
    Calls Try.prog 65 #[.slice A0 l0.length c0] w fun e w' => ∃ v0_ : Value, e = .returned (v0_) ∧ Kd.R k78 78 w' w.heap.size (fun _ => True) v0_ r ∧ Below w.heap.size w w' := by
  unfold Clone_Word.f at h
  by_cases hl : l0.length < 8796093022208
  rotate_left
  · rw [if_neg hl] at h; cases h
  rw [if_pos hl] at h
  obtain rfl := Option.some.inj h
  have HL := Aside0.mk hl
  have HR := Aside0.mk hr0
  clear hr0 hl h
  have qT : ∀ (w : World) (a : Option Addr) (n c n' c' : Nat), (binOp .eql 30 (.slice a n c) (.slice none n' c')).run Try.prog w = .ok (.bool a.isNone) w := fun w a n c n' c' => Lib.run_eql_slice_nil w _ _ a n c n' c' Try.underlying30
  cases A0 with
  | none =>
    have h0 : l0 = [] := by
      obtain ⟨_, _, hn⟩ := HR.out
      cases l0 with
      | nil => rfl
      | cons x l => obtain ⟨ad, he, _⟩ := hn (by simp); cases he
    subst h0
    go_enter Try.func65, Try.ntmps65
    go_wp2
    go_ret
    exact ⟨_, rfl, Kd.R_nil _ _ _ _ _, Below.refl _ _⟩
  | some ad =>
    go_enter Try.func65, Try.ntmps65
    go_wp2_with (first | ((with_reducible refine gate_dst (N := 5) rfl ?_); refine Kd.R_lit k78 w.heap.size 78 ?hg (N := 5) ?hd (xs := ([] : List (S78))) (inner := []) (ok := (fun _ => True)) (okp := (fun _ => False)) ?hr ?hp (fun _ hk => hk.elim) trivial (Below.refl _ _) (Nat.le_refl _) (by simp) ?_; (case hd => rfl); (case hg => rfl); (case hr => first | (go_simp; done) | (go_simp; rfl)); (case hp => exact (Reps.none _ _)); intro v5 w4 ho5 hb hg_ hnew_; have HO5 := Aside0.mk ho5; have HB4 := Aside0.mk hb; have HR4 := Aside0.mk (Kd.C_below HR.out hb); clear hg_ hnew_ hb ho5) | ((with_reducible refine gate_builtin (b := .append) (xs := #[.tmp 5, .tmp 6]) rfl ?_); at_builtin; refine Kd.R_append_rows k78 (Rr := fun x c => k78.K w4 x c) (w0 := w) w.heap.size rfl (.tmp 5) (.tmp 6) 30 78 (.agg #[(.int .u8 0), (.int .i64 0)]) 16 rfl Try.underlying30 info78 rfl (by decide) (by omega) v5 [] l0 _ _ _ (fun _ => True) (fun _ => False) rfl rfl ?aO ?aR ?aK (fun _ hk => hk.elim) (fun _ _ => trivial) ?aB ?aS ?aL ?_; (case aO => exact HO5.out); (case aR => exact HR4.out); (case aK => exact fun x cs hk => by rw [k78_open hk]; exact k78_mkM _ _ _ _); (case aB => exact HB4.out); (case aS => exact HB4.out.size); (case aL => have := HL.out; simp only [List.length_nil]; omega); intro v7 w5 ho7 hb hg_ hat_; have HO7 := Aside0.mk ho7; have HB5 := Aside0.mk hb; clear hg_ hat_ hb ho7))
    go_ret
    exact ⟨_, rfl, HO7.out, HB5.out⟩
end Go.Proofs.Ytehkhbnhmehobaa.P
