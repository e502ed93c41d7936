/- A part of the proof of SubprogramSplit. -/
import Derived.Maps.Range
import Derived.StillTailTactics
import Derived.Test.YtehkhbnhmehobaaCSubprogramSplit1
import Derived.Test.YtehkhbnhmehobaaCSubprogramSplit2
import Derived.Test.YtehkhbnhmehobaaCSubprogramSplit3
import Derived.Test.YtehkhbnhmehobaaCSubprogramSplit4
namespace Go.Proofs.Ytehkhbnhmehobaa.P
open Go.RowKit Go.Proofs.YtehkhbnhmehobaaW.PrintWords Go.Proofs.YtehkhbnhmehobaaW.PrintLast Go.Proofs.YtehkhbnhmehobaaW.PrintMore
set_option linter.unusedVariables false
set_option linter.unusedSimpArgs false
def onlyB (b : Bk) (a : Int) : Bool := decide (b.f1.length = 1) && (decide ((b.f1.getD 0 ⟨0, 0⟩).f0 = a) && (!b.f0 && decide (b.f2.toList = [])))
def numB (b : Bk) : Int := if onlyB b 79 = true then wholeR (b.f1.getD 0 ⟨0, 0⟩).f1 else 0
def mainS : List Bk → Option (List Bk × List Bk)
  | [] => none
  | b :: l => if (hasS b.f1 77 99000 || anyS b.f1 79) = true then none else if hasS b.f1 77 30000 = true then some ([b], l) else (mainS l).map (fun p => (b :: p.1, p.2))
def bodyS : List Bk → Option (List Bk × List Bk)
  | [] => none
  | b :: l => if hasS b.f1 77 99000 = true then (if onlyB b 77 = true then some ([], l) else none) else if (hasS b.f1 77 30000 || anyS b.f1 79) = true then none else (bodyS l).map (fun p => (b :: p.1, p.2))
def subsS : Nat → List Bk → Option (List Rb)
  | _, [] => some []
  | 0, _ :: _ => none
  | f + 1, b :: l => if numB b = 0 then none else (bodyS l).bind fun p => (subsS f p.2).map fun s => ⟨numB b, p.1⟩ :: s
def twiceS (p : List Rb) : List Rb → Bool
  | [] => false
  | x :: l => if (p.any fun y => decide (y.f0 = x.f0)) = true then true else twiceS (p ++ [x]) l
theorem bodyS_len : ∀ (l : List Bk) (x r : List Bk), bodyS l = some (x, r) → l.length = x.length + 1 + r.length
  | [], x, r, h => by cases h
  | b :: l, x, r, h => by
    rw [bodyS] at h
    by_cases h1 : hasS b.f1 77 99000 = true
    · rw [if_pos h1] at h
      by_cases h2 : onlyB b 77 = true
      · rw [if_pos h2] at h; cases h; simp; omega
      rw [if_neg h2] at h; cases h
    rw [if_neg h1] at h
    by_cases h2 : (hasS b.f1 77 30000 || anyS b.f1 79) = true
    · rw [if_pos h2] at h; cases h
    rw [if_neg h2] at h
    obtain ⟨⟨y, q⟩, h3, h4⟩ := Option.map_eq_some_iff.mp h
    cases h4
    have := bodyS_len l _ _ h3
    simp only [List.length_cons]
    omega
theorem bodyS_drop : ∀ {l : List Bk} {n : Nat} {x r : List Bk}, bodyS (l.drop n) = some (x, r) → r = l.drop (n + x.length + 1) := by
  have key : ∀ (l x r : List Bk), bodyS l = some (x, r) → r = l.drop (x.length + 1) := by
    intro l
    induction l with
    | nil => intro x r h; cases h
    | cons b l ih =>
      intro x r h
      rw [bodyS] at h
      by_cases h1 : hasS b.f1 77 99000 = true
      · rw [if_pos h1] at h
        by_cases h2 : onlyB b 77 = true
        · rw [if_pos h2] at h; cases h; rfl
        rw [if_neg h2] at h; cases h
      rw [if_neg h1] at h
      by_cases h2 : (hasS b.f1 77 30000 || anyS b.f1 79) = true
      · rw [if_pos h2] at h; cases h
      rw [if_neg h2] at h
      obtain ⟨⟨y, q⟩, h3, h4⟩ := Option.map_eq_some_iff.mp h
      cases h4
      rw [List.length_cons, List.drop_succ_cons]
      exact ih _ _ h3
  intro l n x r h
  rw [key _ _ _ h, List.drop_drop]
  congr 1
theorem only_eq (b : Bk) (a : Int) : swarfref43_only.f b.f0 b.f1 b.f2 a = some (onlyB b a) := by
  unfold swarfref43_only.f onlyB
  by_cases h1 : (b.f1.length : Int) = 1
  · have h1' : b.f1.length = 1 := by omega
    rw [if_pos h1, if_pos (by omega), decide_eq_true h1']
    have e : rd_T78 b.f1 0 = b.f1.getD 0 ⟨0, 0⟩ := by
      match h : b.f1 with
      | [] => rw [h] at h1'; cases h1'
      | x :: _ => rfl
    rw [e]
    by_cases h2 : (b.f1.getD 0 ⟨0, 0⟩).f0 = a
    · rw [if_pos h2, decide_eq_true h2]
      cases h3 : b.f0 with
      | true => rw [if_pos rfl]; rfl
      | false =>
        rw [if_neg (by decide)]
        rw [show (b.f2.toList == ([] : List UInt8)) = decide (b.f2.toList = []) from by cases b.f2.toList <;> rfl]
        rfl
    rw [if_neg h2, decide_eq_false h2]
    rfl
  rw [if_neg h1, decide_eq_false (fun h => h1 (by omega))]
  rfl
theorem idxS_any {α : Type} {q : α → Bool} : ∀ (l : List α) (i : Int), 0 ≤ i → decide (idxS q l i ≥ 0) = l.any q
  | [], i, h => rfl
  | x :: l, i, h => by
    rw [idxS, List.any_cons]
    cases hq : q x with
    | true => rw [if_pos rfl, decide_eq_true h]; rfl
    | false => rw [if_neg (by decide), idxS_any l (i + 1) (by omega)]; rfl
def doneS (tw : Bool) (m : List Bk) (subs : List Rb) : Option (List Rb) → List Bk × List Rb × Int
  | none => ([], [], 1)
  | some s => if (tw || twiceS subs s) = true then ([], [], 5) else (m, subs ++ s, 0)
section
variable {l : List Bk} (hl : l.length ≤ 1000) (hg : ∀ b ∈ l, goodB b)
include hl hg
theorem refBody (tw : Bool) (m : List Bk) (subs : List Rb) (num : Int) (hs : subs.length ≤ 1000) : ∀ (n j : Nat) (acc : List Bk), j + n = l.length → acc.length ≤ j →
    (bodyS (l.drop j) = none → Ev (fun k => swarfref43_Split.l2 k l (j : Int) tw m subs num acc) ([], [], 1)) ∧
    (∀ x r, bodyS (l.drop j) = some (x, r) → ∀ R, Ev (fun k => swarfref43_Split.l1 k l ((j + x.length + 1 : Nat) : Int) tw m (subs ++ [⟨num, acc ++ x⟩])) R → Ev (fun k => swarfref43_Split.l2 k l (j : Int) tw m subs num acc) R) := by
  intro n
  induction n with
  | zero =>
    intro j acc hj ha
    rw [List.drop_eq_nil_of_le (by omega)]
    refine ⟨fun _ => Ev.step (fun k => by rw [swarfref43_Split.l2]) (Ev.neg (by omega) (Ev.step (fun k => by rw [swarfref43_Split.j7]) ?_)), fun x r h => by cases h⟩
    exact Ev.neg (by decide) (Ev.pos (by omega) Ev.some)
  | succ n ih =>
    intro j acc hj ha
    have hb := hg _ (List.getElem_mem (l := l) (n := j) (by omega))
    have hbl := hb.len
    rw [List.drop_eq_getElem_cons (show j < l.length by omega), bodyS]
    cases h1 : hasS (l[j]'(by omega)).f1 77 99000 with
    | true =>
      rw [if_pos rfl]
      have go : ∀ R, Ev (fun k => swarfref43_Split.j7 k l (j : Int) tw false m subs num acc) R → Ev (fun k => swarfref43_Split.l2 k l (j : Int) tw m subs num acc) R := by
        intro R hR
        refine Ev.step (fun k => by rw [swarfref43_Split.l2]) (Ev.pos (by omega) (Ev.pos (by omega) ?_))
        rw [rd_T32_at (show j < l.length by omega)]
        refine Ev.bind (Return_ev _ _ _ hbl) ?_
        rw [h1]
        exact hR
      cases h2 : onlyB (l[j]'(by omega)) 77 with
      | true =>
        rw [if_pos rfl]
        refine ⟨fun h => (by cases h), fun x r h R hR => go R (Ev.step (fun k => by rw [swarfref43_Split.j7]) ?_)⟩
        cases h
        refine Ev.neg (by decide) (Ev.neg (by omega) (Ev.pos (by omega) (Ev.pos (by omega) ?_)))
        rw [rd_T32_at (show j < l.length by omega), only_eq, h2, wrapI (by omega)]
        refine Ev.bind Ev.some (Ev.pos rfl (Ev.pos (by omega) ?_))
        simpa using hR
      | false =>
        rw [if_neg (by decide)]
        refine ⟨fun _ => go _ (Ev.step (fun k => by rw [swarfref43_Split.j7]) ?_), fun x r h => by cases h⟩
        refine Ev.neg (by decide) (Ev.neg (by omega) (Ev.pos (by omega) (Ev.pos (by omega) ?_)))
        rw [rd_T32_at (show j < l.length by omega), only_eq, h2]
        exact Ev.bind Ev.some (Ev.neg (by decide) Ev.some)
    | false =>
      rw [if_neg (by decide)]
      have go : ∀ R, Ev (fun k => swarfref43_Split.j7 k l (j : Int) tw true m subs num acc) R → Ev (fun k => swarfref43_Split.l2 k l (j : Int) tw m subs num acc) R := by
        intro R hR
        refine Ev.step (fun k => by rw [swarfref43_Split.l2]) (Ev.pos (by omega) (Ev.pos (by omega) ?_))
        rw [rd_T32_at (show j < l.length by omega)]
        refine Ev.bind (Return_ev _ _ _ hbl) ?_
        rw [h1]
        exact hR
      cases h2 : hasS (l[j]'(by omega)).f1 77 30000 with
      | true =>
        rw [Bool.true_or, if_pos rfl]
        refine ⟨fun _ => go _ (Ev.step (fun k => by rw [swarfref43_Split.j7]) ?_), fun x r h => by cases h⟩
        refine Ev.pos rfl (Ev.pos (by omega) (Ev.pos (by omega) ?_))
        rw [rd_T32_at (show j < l.length by omega)]
        exact Ev.bind (End_ev _ _ _ hbl) (Ev.pos h2 Ev.some)
      | false =>
        cases h3 : anyS (l[j]'(by omega)).f1 79 with
        | true =>
          rw [Bool.or_true, if_pos rfl]
          refine ⟨fun _ => go _ (Ev.step (fun k => by rw [swarfref43_Split.j7]) ?_), fun x r h => by cases h⟩
          refine Ev.pos rfl (Ev.pos (by omega) (Ev.pos (by omega) ?_))
          rw [rd_T32_at (show j < l.length by omega)]
          exact Ev.bind (End_ev _ _ _ hbl) (Ev.neg (by rw [h2]; decide) (Ev.bind (letter_ev _ _ _ 79 hbl) (Ev.pos h3 Ev.some)))
        | false =>
          rw [Bool.or_false, if_neg (by decide)]
          obtain ⟨i1, i2⟩ := ih (j + 1) (acc ++ [l[j]'(by omega)]) (by omega) (by simp; omega)
          have step : ∀ R, Ev (fun k => swarfref43_Split.l2 k l ((j + 1 : Nat) : Int) tw m subs num (acc ++ [l[j]'(by omega)])) R → Ev (fun k => swarfref43_Split.l2 k l (j : Int) tw m subs num acc) R := by
            intro R hR
            refine go R (Ev.step (fun k => by rw [swarfref43_Split.j7]) ?_)
            refine Ev.pos rfl (Ev.pos (by omega) (Ev.pos (by omega) ?_))
            rw [rd_T32_at (show j < l.length by omega), wrapI (by omega)]
            exact Ev.bind (End_ev _ _ _ hbl) (Ev.neg (by rw [h2]; decide) (Ev.bind (letter_ev _ _ _ 79 hbl) (Ev.neg (by rw [h3]; decide) (Ev.pos (by omega) hR))))
          refine ⟨fun h => step _ (i1 (by simpa using h)), fun x r h R hR => ?_⟩
          obtain ⟨⟨y, q⟩, h4, h5⟩ := Option.map_eq_some_iff.mp h
          cases h5
          refine step R (i2 y _ h4 R ?_)
          have e : j + 1 + y.length + 1 = j + (l[j]'(by omega) :: y).length + 1 := by simp; omega
          rw [e, List.append_assoc]
          exact hR
omit hl hg in
theorem goodB.num {b : Bk} (h : goodB b) : ∀ a, b.f1.length = 1 → I64 (b.f1.getD 0 a).f1 := by
  intro a h1
  match hb : b.f1 with
  | [] => rw [hb] at h1; cases h1
  | x :: _ => exact h.i64 x (by rw [hb]; exact List.mem_cons_self)
theorem refSubs (m : List Bk) : ∀ (f j : Nat) (tw : Bool) (subs : List Rb), l.length - j ≤ f → j ≤ l.length → subs.length ≤ j → Ev (fun k => swarfref43_Split.l1 k l (j : Int) tw m subs) (doneS tw m subs (subsS f (l.drop j))) := by
  intro f
  induction f with
  | zero =>
    intro j tw subs hf hj hs
    rw [List.drop_eq_nil_of_le (by omega)]
    refine Ev.step (fun k => by rw [swarfref43_Split.l1]) (Ev.neg (by omega) ?_)
    cases tw with
    | true => exact Ev.pos rfl Ev.some
    | false => refine Ev.neg (by decide) ?_; simpa [doneS, subsS, twiceS] using Ev.some
  | succ f ih =>
    intro j tw subs hf hj hs
    by_cases hlt : j < l.length
    · have hb := hg _ (List.getElem_mem (l := l) (n := j) hlt)
      rw [List.drop_eq_getElem_cons hlt, subsS]
      have bad : Ev (fun k => swarfref43_Split.j4 k l (j : Int) tw true m subs) ([], [], 1) := Ev.step (fun k => by rw [swarfref43_Split.j4]) (Ev.pos rfl Ev.some)
      cases h1 : onlyB l[j] 79 with
      | false =>
        have hn : numB l[j] = 0 := by unfold numB; rw [h1]; rfl
        rw [if_pos hn]
        refine Ev.step (fun k => by rw [swarfref43_Split.l1]) (Ev.pos (by omega) (Ev.pos (by omega) ?_))
        rw [rd_T32_at hlt, only_eq, h1]
        exact Ev.bind Ev.some (Ev.neg (by decide) bad)
      | true =>
        have hl1 : l[j].f1.length = 1 := by
          unfold onlyB at h1
          simp only [Bool.and_eq_true, decide_eq_true_eq] at h1
          exact h1.1
        have hw : rd_T78 l[j].f1 0 = l[j].f1.getD 0 ⟨0, 0⟩ := by
          match h : l[j].f1 with
          | [] => rw [h] at hl1; cases hl1
          | x :: _ => rfl
        have hn : numB l[j] = wholeR (l[j].f1.getD 0 ⟨0, 0⟩).f1 := by unfold numB; rw [h1]; rfl
        have hwe := wholeR_eq _ (hb.num ⟨0, 0⟩ hl1)
        have go : ∀ R, Ev (fun k => swarfref43_Split.j4 k l (j : Int) tw (numB l[j] == 0) m subs) R → Ev (fun k => swarfref43_Split.l1 k l (j : Int) tw m subs) R := by
          intro R hR
          refine Ev.step (fun k => by rw [swarfref43_Split.l1]) (Ev.pos (by omega) (Ev.pos (by omega) ?_))
          rw [rd_T32_at hlt, only_eq, h1]
          refine Ev.bind Ev.some (Ev.pos rfl (Ev.pos (by omega) ?_))
          rw [hw, hwe, ← hn]
          exact Ev.bind Ev.some hR
        by_cases h0 : numB l[j] = 0
        · rw [if_pos h0]
          refine go _ ?_
          rw [h0]
          exact bad
        rw [if_neg h0]
        refine go _ ?_
        rw [show (numB l[j] == 0) = false from by simpa using h0]
        refine Ev.step (fun k => by rw [swarfref43_Split.j4]) (Ev.neg (by decide) (Ev.pos (by omega) (Ev.pos (by omega) ?_)))
        rw [rd_T32_at hlt, hw, hwe, ← hn]
        refine Ev.pos (by omega) (Ev.bind Ev.some ?_)
        have fl : ∀ tw' R, tw' = (tw || subs.any fun y => decide (y.f0 = numB l[j])) → Ev (fun k => swarfref43_Split.j5 k l (j : Int) tw' m subs (numB l[j])) R →
            Ev (fun k => if tw = true then swarfref43_Split.j5 k l (j : Int) true m subs (numB l[j]) else (swarfref43_Find.f k m subs (numB l[j])).bind fun t861 => swarfref43_Split.j5 k l (j : Int) (decide (t861 ≥ 0)) m subs (numB l[j])) R := by
          intro tw' R he hR
          cases tw with
          | true => rw [Bool.true_or] at he; subst he; exact Ev.pos rfl hR
          | false =>
            rw [Bool.false_or] at he
            refine Ev.neg (by decide) (Ev.bind (find_ev m subs _ (by omega)) ?_)
            have := idxS_any (q := fun x : Rb => decide (x.f0 = numB l[j])) subs 0 (by omega)
            unfold findS
            rw [this, ← he]
            exact hR
        refine fl _ _ rfl (Ev.step (fun k => by rw [swarfref43_Split.j5]) ?_)
        rw [wrapI (by omega)]
        obtain ⟨b1, b2⟩ := refBody hl hg (tw || subs.any fun y => decide (y.f0 = numB l[j])) m subs (numB l[j]) (by omega) (l.length - (j + 1)) (j + 1) [] (by omega) (by simp)
        cases hbd : bodyS (l.drop (j + 1)) with
        | none => exact b1 hbd
        | some p =>
          obtain ⟨x, r⟩ := p
          have hlen := bodyS_len _ _ _ hbd
          rw [List.length_drop] at hlen
          have hr : r = l.drop (j + 1 + x.length + 1) := bodyS_drop hbd
          refine b2 x r hbd _ ?_
          have h2 := ih (j + 1 + x.length + 1) (tw || subs.any fun y => decide (y.f0 = numB l[j])) (subs ++ [⟨numB l[j], x⟩]) (by omega) (by omega) (by simp; omega)
          rw [← hr] at h2
          have e : doneS (tw || subs.any fun y => decide (y.f0 = numB l[j])) m (subs ++ [⟨numB l[j], x⟩]) (subsS f r) = doneS tw m subs ((some (x, r)).bind fun p => (subsS f p.2).map fun s => ⟨numB l[j], p.1⟩ :: s) := by
            show _ = doneS tw m subs ((subsS f r).map fun s => ⟨numB l[j], x⟩ :: s)
            cases subsS f r with
            | none => rfl
            | some s =>
              show (if _ then _ else _) = (if (tw || twiceS subs (⟨numB l[j], x⟩ :: s)) = true then _ else _)
              rw [twiceS]
              cases hany : (subs.any fun y => decide (y.f0 = numB l[j])) with
              | true => simp
              | false => simp
          rw [← e]
          exact h2
    rw [List.drop_eq_nil_of_le (by omega)]
    refine Ev.step (fun k => by rw [swarfref43_Split.l1]) (Ev.neg (by omega) ?_)
    cases tw with
    | true => exact Ev.pos rfl Ev.some
    | false => refine Ev.neg (by decide) ?_; simpa [doneS, subsS, twiceS] using Ev.some
omit hl hg in
def mainR (acc : List Bk) : Option (List Bk × List Bk) → List Bk × List Rb × Int
  | none => ([], [], 1)
  | some p => doneS false (acc ++ p.1) [] (subsS p.2.length p.2)
theorem refEnd (j : Nat) (hj : j < l.length) (hE : hasS l[j].f1 77 30000 = true) (acc : List Bk) (R : List Bk × List Rb × Int) (h : Ev (fun k => swarfref43_Split.l1 k l ((j + 1 : Nat) : Int) false acc []) R) : Ev (fun k => swarfref43_Split.l0 k l ((j + 1 : Nat) : Int) acc) R := by
  have hbl := (hg _ (List.getElem_mem hj)).len
  have hw : wrap64 (((j + 1 : Nat) : Int) - 1) = (j : Int) := by unfold wrap64; omega
  have h1 : Ev (fun k => swarfref43_Split.j1 k l ((j + 1 : Nat) : Int) false acc) R := by
    refine Ev.step (fun k => by rw [swarfref43_Split.j1]) (Ev.neg (by decide) (Ev.neg (by omega) ?_))
    rw [hw, rd_T32_at hj]
    refine Ev.pos (by omega) (Ev.pos (by omega) (Ev.bind (End_ev _ _ _ hbl) ?_))
    rw [hE]
    refine Ev.step (fun k => by rw [swarfref43_Split.j2]) ?_
    exact Ev.neg (by decide) h
  by_cases hlt : ((j + 1 : Nat) : Int) < (l.length : Int)
  · refine Ev.step (fun k => by rw [swarfref43_Split.l0]) (Ev.pos hlt (Ev.neg (by omega) ?_))
    rw [hw, rd_T32_at hj]
    refine Ev.pos (by omega) (Ev.pos (by omega) (Ev.bind (End_ev _ _ _ hbl) ?_))
    rw [hE]
    exact h1
  exact Ev.step (fun k => by rw [swarfref43_Split.l0]) (Ev.neg hlt h1)
theorem refMain : ∀ (n j : Nat) (acc : List Bk), j + n = l.length → acc.length ≤ j → (∀ i (h : i < l.length), i + 1 = j → hasS l[i].f1 77 30000 = false) → Ev (fun k => swarfref43_Split.l0 k l (j : Int) acc) (mainR acc (mainS (l.drop j))) := by
  intro n
  induction n with
  | zero =>
    intro j acc hj ha hp
    rw [List.drop_eq_nil_of_le (by omega)]
    have bad : Ev (fun k => swarfref43_Split.j2 k l (j : Int) true acc) ([], [], 1) := Ev.step (fun k => by rw [swarfref43_Split.j2]) (Ev.pos rfl Ev.some)
    refine Ev.step (fun k => by rw [swarfref43_Split.l0]) (Ev.neg (by omega) (Ev.step (fun k => by rw [swarfref43_Split.j1]) (Ev.neg (by decide) ?_)))
    by_cases h0 : (j : Int) = 0
    · exact Ev.pos h0 bad
    obtain ⟨i, rfl⟩ : ∃ i, j = i + 1 := ⟨j - 1, by omega⟩
    have hw : wrap64 (((i + 1 : Nat) : Int) - 1) = (i : Int) := by unfold wrap64; omega
    have hi : i < l.length := by omega
    refine Ev.neg h0 ?_
    rw [hw, rd_T32_at hi]
    refine Ev.pos (by omega) (Ev.pos (by omega) (Ev.bind (End_ev _ _ _ (hg _ (List.getElem_mem hi)).len) ?_))
    rw [hp i hi rfl]
    exact bad
  | succ n ih =>
    intro j acc hj ha hp
    have hjl : j < l.length := by omega
    have hbl := (hg _ (List.getElem_mem hjl)).len
    have go : ∀ R, Ev (fun k => swarfref43_Split.j1 k l (j : Int) true acc) R → Ev (fun k => swarfref43_Split.l0 k l (j : Int) acc) R := by
      intro R hR
      refine Ev.step (fun k => by rw [swarfref43_Split.l0]) (Ev.pos (by omega) ?_)
      by_cases h0 : (j : Int) = 0
      · exact Ev.pos h0 hR
      obtain ⟨i, rfl⟩ : ∃ i, j = i + 1 := ⟨j - 1, by omega⟩
      have hw : wrap64 (((i + 1 : Nat) : Int) - 1) = (i : Int) := by unfold wrap64; omega
      have hi : i < l.length := by omega
      refine Ev.neg h0 ?_
      rw [hw, rd_T32_at hi]
      refine Ev.pos (by omega) (Ev.pos (by omega) (Ev.bind (End_ev _ _ _ (hg _ (List.getElem_mem hi)).len) ?_))
      rw [hp i hi rfl]
      exact hR
    rw [List.drop_eq_getElem_cons hjl, mainS]
    cases h1 : hasS l[j].f1 77 99000 with
    | true =>
      rw [Bool.true_or, if_pos rfl]
      refine go _ (Ev.step (fun k => by rw [swarfref43_Split.j1]) (Ev.pos rfl (Ev.pos (by omega) (Ev.pos (by omega) ?_))))
      rw [rd_T32_at hjl]
      exact Ev.bind (Return_ev _ _ _ hbl) (Ev.pos h1 Ev.some)
    | false =>
      cases h2 : anyS l[j].f1 79 with
      | true =>
        rw [Bool.or_true, if_pos rfl]
        refine go _ (Ev.step (fun k => by rw [swarfref43_Split.j1]) (Ev.pos rfl (Ev.pos (by omega) (Ev.pos (by omega) ?_))))
        rw [rd_T32_at hjl]
        exact Ev.bind (Return_ev _ _ _ hbl) (Ev.neg (by rw [h1]; decide) (Ev.bind (letter_ev _ _ _ 79 hbl) (Ev.pos h2 Ev.some)))
      | false =>
        rw [Bool.or_false, if_neg (by decide)]
        have step : ∀ R, Ev (fun k => swarfref43_Split.l0 k l ((j + 1 : Nat) : Int) (acc ++ [l[j]])) R → Ev (fun k => swarfref43_Split.l0 k l (j : Int) acc) R := by
          intro R hR
          refine go _ (Ev.step (fun k => by rw [swarfref43_Split.j1]) (Ev.pos rfl (Ev.pos (by omega) (Ev.pos (by omega) ?_))))
          rw [rd_T32_at hjl, wrapI (by omega)]
          exact Ev.bind (Return_ev _ _ _ hbl) (Ev.neg (by rw [h1]; decide) (Ev.bind (letter_ev _ _ _ 79 hbl) (Ev.neg (by rw [h2]; decide) (Ev.pos (by omega) hR))))
        cases h3 : hasS l[j].f1 77 30000 with
        | true =>
          rw [if_pos rfl]
          refine step _ (refEnd hl hg j hjl h3 _ _ ?_)
          have := refSubs hl hg (acc ++ [l[j]]) (l.drop (j + 1)).length (j + 1) false [] (by rw [List.length_drop]; omega) (by omega) (by simp)
          exact this
        | false =>
          rw [if_neg (by decide)]
          have h4 := ih (j + 1) (acc ++ [l[j]]) (by omega) (by simp; omega) (fun i hi hij => by
            obtain rfl : i = j := by omega
            exact h3)
          have e : mainR (acc ++ [l[j]]) (mainS (l.drop (j + 1))) = mainR acc ((mainS (l.drop (j + 1))).map fun p => (l[j] :: p.1, p.2)) := by
            cases mainS (l.drop (j + 1)) with
            | none => rfl
            | some p =>
              show doneS false ((acc ++ [l[j]]) ++ p.1) [] _ = doneS false (acc ++ (l[j] :: p.1)) [] _
              rw [List.append_assoc]
              rfl
          rw [← e]
          exact step _ h4
theorem splitR_ev : Ev (fun k => swarfref43_Split.f k l) (mainR [] (mainS l)) := by
  unfold swarfref43_Split.f
  have := refMain hl hg l.length 0 [] (by omega) (by simp) (fun i h hi => by omega)
  simpa using this
end
def beginB (b : Bk) : Int × Bool := if onlyB b 79 = true then wholeT (b.f1.getD 0 ⟨0, 0⟩).f1 else (0, false)
def backQ (b : Bk) : Bool := onlyB b 77 && hasS b.f1 77 99000
theorem plain_eq (b : Bk) : subprogram_plain.f b.f0 b.f1 b.f2 = some (decide (b.f1.length = 1) && (!b.f0 && decide (b.f2.toList = []))) := by
  unfold subprogram_plain.f
  by_cases h1 : (b.f1.length : Int) = 1
  · rw [if_pos h1, decide_eq_true (show b.f1.length = 1 by omega)]
    cases h3 : b.f0 with
    | true => rw [if_pos rfl]; rfl
    | false =>
      rw [if_neg (by decide)]
      rw [show (b.f2.toList == ([] : List UInt8)) = decide (b.f2.toList = []) from by cases b.f2.toList <;> rfl]
      rfl
  rw [if_neg h1, decide_eq_false (fun h => h1 (by omega))]
  rfl
theorem rd_head {b : Bk} (h : b.f1.length = 1) : rd_T78 b.f1 0 = b.f1.getD 0 ⟨0, 0⟩ := by
  match hb : b.f1 with
  | [] => rw [hb] at h; cases h
  | x :: _ => rfl
theorem beginB_eq (b : Bk) : subprogram_beginning.f b.f0 b.f1 b.f2 = some (beginB b) := by
  unfold subprogram_beginning.f beginB onlyB
  rw [plain_eq, Option.bind_some]
  by_cases h1 : b.f1.length = 1
  · rw [decide_eq_true h1, Bool.true_and, Bool.true_and]
    cases hp : (!b.f0 && decide (b.f2.toList = [])) with
    | false => rw [if_neg (by decide), Bool.and_false, if_neg (by decide)]
    | true =>
      rw [if_pos rfl, if_pos (by omega), rd_head h1, Bool.and_true]
      by_cases h2 : (b.f1.getD 0 ⟨0, 0⟩).f0 = 79
      · rw [if_pos h2, decide_eq_true h2, if_pos rfl, whole_eq]
        rfl
      rw [if_neg h2, decide_eq_false h2, if_neg (by decide)]
  rw [decide_eq_false h1, Bool.false_and, Bool.false_and, if_neg (by decide), if_neg (by decide)]
theorem begin_num (b : Bk) : ((beginB b).2 = true → numB b = (beginB b).1 ∧ numB b ≠ 0) ∧ ((beginB b).2 = false → numB b = 0) := by
  unfold beginB numB wholeR
  cases h : onlyB b 79 with
  | false => simp
  | true =>
    simp only [if_true]
    cases h2 : (wholeT (b.f1.getD 0 ⟨0, 0⟩).f1).2 with
    | false => simp
    | true => exact ⟨fun _ => ⟨if_pos rfl, by rw [if_pos rfl]; have := wholeT_pos h2; omega⟩, fun h => (by cases h)⟩
theorem back_q (b : Bk) (hb : b.f1.length ≤ 1000000) : Ev (fun k => subprogram_Split_2.f k b.f0 b.f1 b.f2) (backQ b) := by
  unfold subprogram_Split_2.f backQ onlyB
  rw [plain_eq]
  refine Ev.bind Ev.some ?_
  by_cases h1 : b.f1.length = 1
  · rw [decide_eq_true h1, Bool.true_and, Bool.true_and]
    cases hp : (!b.f0 && decide (b.f2.toList = [])) with
    | false => rw [Bool.and_false, Bool.false_and]; exact Ev.neg (by decide) Ev.some
    | true =>
      rw [Bool.and_true]
      refine Ev.pos rfl (Ev.bind (has_ev _ _ _ 77 99000 hb) ?_)
      have e : (decide ((b.f1.getD 0 ⟨0, 0⟩).f0 = 77) && hasS b.f1 77 99000) = hasS b.f1 77 99000 := by
        match hf : b.f1 with
        | [] => rw [hf] at h1; cases h1
        | x :: y :: _ => rw [hf] at h1; simp at h1
        | [x] =>
          simp only [hasS, List.any_cons, List.any_nil, Bool.or_false, List.getD_cons_zero]
          cases decide (x.f0 = 77) <;> rfl
      rw [e]
      exact Ev.some
  rw [decide_eq_false h1, Bool.false_and, Bool.false_and, Bool.false_and]
  exact Ev.neg (by decide) Ev.some
def markL (l : List Bk) : Bool := l.any fun b => markS b.f1
def orderedS (m : List Bk) (s : List Sb) : Bool := decide (1 ≤ m.length) && (hasS (m.getD (m.length - 1) zB).f1 77 30000 && (!anyS (m.getD (m.length - 1) zB).f1 79 && (!hasS (m.getD (m.length - 1) zB).f1 77 99000 && (!markL (m.take (m.length - 1)) && !(s.any fun x => markL x.f1)))))
theorem markL_ev (l : List Bk) (h : ∀ b ∈ l, b.f1.length ≤ 1000000) : Ev (fun k => ContainsFunc_marked.f k l) (markL l) := by
  unfold ContainsFunc_marked.f
  have h1 := idx_ev (P := fun k (x : Bk) => subprogram_marked.f k x.f0 x.f1 x.f2) (q := fun x => markS x.f1) l 0 (fun x hx => marked_ev _ _ _ (h x hx))
  have h2 := Ev.map (fun i : Int => decide (i ≥ 0)) h1
  rw [idxS_any l 0 (by omega)] at h2
  exact h2
theorem orderedS_ev (m : List Bk) (s : List Sb) (hm : m.length ≤ 1000000) (hb : ∀ b ∈ m, b.f1.length ≤ 1000000) (hs : ∀ x ∈ s, ∀ b ∈ x.f1, b.f1.length ≤ 1000000) : Ev (fun k => subprogram_ordered.f k m s) (orderedS m s) := by
  unfold subprogram_ordered.f orderedS
  by_cases hn : 1 ≤ m.length
  · have hl := hb _ (getD_mem (l := m) (j := m.length - 1) (by omega))
    rw [show ((m.length : Int) - 1) = ((m.length : Int) - ((1 : Nat) : Int)) from rfl, wsub (a := m.length) (b := 1) hn (by omega), rdB, decide_eq_true hn, Bool.true_and]
    refine Ev.neg (by omega) (Ev.pos (by omega) (Ev.pos (by omega) (Ev.bind (has_ev _ _ _ _ _ hl) ?_)))
    cases h1 : hasS (m.getD (m.length - 1) zB).f1 77 30000 with
    | false => exact Ev.neg (by decide) Ev.some
    | true =>
      refine Ev.pos rfl (Ev.bind (Codes_ev _ _ _ _ hl) ?_)
      have hc := codesS_pos (m.getD (m.length - 1) zB).f1 79
      cases h2 : anyS (m.getD (m.length - 1) zB).f1 79 with
      | true => rw [h2] at hc; exact Ev.pos (of_decide_eq_true hc) Ev.some
      | false =>
        rw [h2] at hc
        refine Ev.neg (of_decide_eq_false hc) (Ev.bind (has_ev _ _ _ _ _ hl) ?_)
        cases h3 : hasS (m.getD (m.length - 1) zB).f1 77 99000 with
        | true => exact Ev.pos rfl Ev.some
        | false =>
          refine Ev.neg (by decide) (Ev.pos (by omega) ?_)
          rw [Int.toNat_natCast]
          refine Ev.bind (markL_ev _ (fun b hx => hb b (List.mem_of_mem_take hx))) ?_
          cases h4 : markL (m.take (m.length - 1)) with
          | true => exact Ev.pos rfl Ev.some
          | false =>
            refine Ev.neg (by decide) ?_
            have h5 := idx_ev (P := fun k (x : Sb) => subprogram_ordered_1.f k x.f0 x.f1) (q := fun x => markL x.f1) s 0 (fun x hx => by
              unfold subprogram_ordered_1.f
              exact Ev.bind (markL_ev _ (hs x hx)) Ev.some)
            have h6 := Ev.map (fun i : Int => decide (i ≥ 0)) h5
            rw [idxS_any s 0 (by omega)] at h6
            unfold ContainsFunc_ordered.f
            refine Ev.bind h6 ?_
            simpa using Ev.some
  have h0 : m.length = 0 := by omega
  rw [h0]
  exact Ev.pos (by unfold wrap64; omega) (by simpa using Ev.some)
def rawS : Nat → List Bk → Option (List Sb)
  | _, [] => some []
  | 0, _ :: _ => none
  | f + 1, b :: l => if (beginB b).2 = true then (if idxS backQ (b :: l) 0 < 0 then none else (rawS f ((b :: l).drop ((idxS backQ (b :: l) 0).toNat + 1))).map fun s => ⟨(beginB b).1, ((b :: l).take (idxS backQ (b :: l) 0).toNat).drop 1⟩ :: s) else none
def finS (m : List Bk) (s : List Sb) : List Bk × List Sb × Int := if orderedS m s = true then (if repL [] s = true then ([], [], 5) else (m, s, 0)) else ([], [], 1)
def ownR (m : List Bk) (acc : List Sb) : Option (List Sb) → List Bk × List Sb × Int
  | none => ([], [], 1)
  | some s => finS m (acc ++ s)
theorem begin_back {b : Bk} (h : (beginB b).2 = true) : backQ b = false := by
  unfold beginB at h
  unfold backQ
  cases h1 : onlyB b 79 with
  | false => rw [h1] at h; cases h
  | true =>
    cases h2 : onlyB b 77 with
    | false => rfl
    | true =>
      unfold onlyB at h1 h2
      simp only [Bool.and_eq_true, decide_eq_true_eq] at h1 h2
      have := h1.2.1.symm.trans h2.2.1
      omega
theorem idxS_pos {α : Type} (q : α → Bool) : ∀ (l : List α) (i : Int), ¬ idxS q l i < 0 → i ≤ idxS q l i
  | [], i, h => absurd (by decide : (-1 : Int) < 0) h
  | x :: l, i, h => by
    rw [idxS] at h ⊢
    by_cases hx : q x = true
    · rw [if_pos hx]; omega
    rw [if_neg hx] at h ⊢
    have := idxS_pos q l (i + 1) h
    omega
theorem own_loop (m : List Bk) (hm : m.length ≤ 1000) (hmb : ∀ b ∈ m, b.f1.length ≤ 1000000) : ∀ (f : Nat) (rest : List Bk) (acc : List Sb), rest.length ≤ f → rest.length + acc.length ≤ 1000 → (∀ b ∈ rest, b.f1.length ≤ 1000000) → (∀ x ∈ acc, ∀ b ∈ x.f1, b.f1.length ≤ 1000000) →
    Ev (fun k => subprogram_Split.l0 k rest m acc) (ownR m acc (rawS f rest)) := by
  intro f
  have fin : ∀ (f : Nat) (acc : List Sb), (∀ x ∈ acc, ∀ b ∈ x.f1, b.f1.length ≤ 1000000) → Ev (fun k => subprogram_Split.l0 k [] m acc) (ownR m acc (rawS f [])) := by
    intro f acc ha
    refine Ev.step (fun k => by rw [subprogram_Split.l0]) (Ev.neg (by simp) (Ev.bind (orderedS_ev m acc (by omega) hmb ha) ?_))
    have e : rawS f [] = some [] := by cases f <;> rfl
    rw [e]
    show Ev _ (finS m (acc ++ []))
    rw [List.append_nil, finS]
    cases orderedS m acc with
    | false => exact Ev.neg (by decide) Ev.some
    | true =>
      refine Ev.pos rfl ?_
      rw [if_pos rfl]
      have hr : subprogram_repeated.f acc = some (repL [] acc) := rfl
      rw [hr]
      refine Ev.bind Ev.some ?_
      cases repL [] acc with
      | true => exact Ev.pos rfl Ev.some
      | false => exact Ev.neg (by decide) Ev.some
  induction f with
  | zero =>
    intro rest acc hf hsz hr ha
    obtain rfl : rest = [] := List.eq_nil_of_length_eq_zero (by omega)
    exact fin 0 acc ha
  | succ f ih =>
    intro rest acc hf hsz hr ha
    match rest, hf, hsz, hr with
    | [], _, _, _ => exact fin (f + 1) acc ha
    | b :: l, hf, hsz, hr =>
      have hbq : ∀ x ∈ b :: l, Ev (fun k => subprogram_Split_2.f k x.f0 x.f1 x.f2) (backQ x) := fun x hx => back_q x (hr x hx)
      have hI : Ev (fun k => IndexFunc_back.f k (b :: l)) (idxS backQ (b :: l) 0) := by
        unfold IndexFunc_back.f
        exact idx_ev (P := fun k (x : Bk) => subprogram_Split_2.f k x.f0 x.f1 x.f2) (b :: l) 0 hbq
      have hlt := idxS_lt (q := backQ) (b :: l) 0 (by omega)
      have hr0 : rd_T32 (b :: l) 0 = b := rfl
      refine Ev.step (fun k => by rw [subprogram_Split.l0]) (Ev.pos (by simp) (Ev.pos (by simp) ?_))
      rw [hr0, beginB_eq, rawS]
      refine Ev.bind Ev.some (Ev.bind hI ?_)
      cases hb : (beginB b).2 with
      | false =>
        rw [if_neg (by decide)]
        exact Ev.neg (by decide) Ev.some
      | true =>
        rw [if_pos rfl]
        refine Ev.pos rfl ?_
        by_cases h0 : idxS backQ (b :: l) 0 < 0
        · rw [if_pos h0]
          exact Ev.pos h0 Ev.some
        rw [if_neg h0]
        have h1 : 1 ≤ idxS backQ (b :: l) 0 := by
          rw [idxS, begin_back hb, if_neg (by decide)] at h0 ⊢
          have := idxS_pos backQ l (0 + 1) h0
          omega
        obtain ⟨t, ht⟩ : ∃ t : Nat, idxS backQ (b :: l) 0 = (t : Int) := ⟨(idxS backQ (b :: l) 0).toNat, by omega⟩
        rw [ht] at hlt h1 h0 ⊢
        rw [Int.toNat_natCast, wrapI (by omega), Int.toNat_natCast]
        have hc : Clone_Block.f (((b :: l).take t).drop 1) = some (((b :: l).take t).drop 1) := by unfold Clone_Block.f; rw [if_pos (by rw [List.length_drop, List.length_take]; omega)]
        rw [hc]
        refine Ev.neg (by omega) (Ev.pos (by omega) (Ev.pos (by omega) (Ev.bind Ev.some (Ev.pos (by omega) (Ev.pos (by omega) (Ev.pos (by omega) ?_))))))
        have h2 := ih ((b :: l).drop (t + 1)) (acc ++ [⟨(beginB b).1, ((b :: l).take t).drop 1⟩]) (by rw [List.length_drop]; omega) (by rw [List.length_drop, List.length_append]; simp only [List.length_cons, List.length_nil] at hsz ⊢; omega) (fun x hx => hr x (List.mem_of_mem_drop hx)) (fun x hx => by
          rcases List.mem_append.mp hx with hx | hx
          · exact ha x hx
          rw [List.mem_singleton] at hx; subst hx
          exact fun y hy => hr y (List.mem_of_mem_take (List.mem_of_mem_drop hy)))
        have e : ownR m (acc ++ [⟨(beginB b).1, ((b :: l).take t).drop 1⟩]) (rawS f ((b :: l).drop (t + 1))) = ownR m acc ((rawS f ((b :: l).drop (t + 1))).map fun s => ⟨(beginB b).1, ((b :: l).take t).drop 1⟩ :: s) := by
          cases rawS f ((b :: l).drop (t + 1)) with
          | none => rfl
          | some s =>
            show finS m ((acc ++ [_]) ++ s) = finS m (acc ++ (_ :: s))
            rw [List.append_assoc]
            rfl
        rw [← e]
        exact h2
theorem markS_false {l : List Wd} : markS l = false ↔ anyS l 79 = false ∧ hasS l 77 30000 = false ∧ hasS l 77 99000 = false := by
  unfold markS
  simp only [Bool.or_eq_false_iff]
theorem backQ_of_mark {b : Bk} (h : markS b.f1 = false) : backQ b = false := by
  unfold backQ
  rw [(markS_false.mp h).2.2, Bool.and_false]
theorem body_some : ∀ (l x r : List Bk), bodyS l = some (x, r) → (∀ b ∈ x, markS b.f1 = false) ∧ ∃ e, backQ e = true ∧ l = x ++ e :: r
  | [], x, r, h => by cases h
  | b :: l, x, r, h => by
    rw [bodyS] at h
    by_cases h1 : hasS b.f1 77 99000 = true
    · rw [if_pos h1] at h
      by_cases h2 : onlyB b 77 = true
      · rw [if_pos h2] at h
        cases h
        exact ⟨fun _ hb => (by cases hb), b, by unfold backQ; rw [h1, h2]; rfl, rfl⟩
      rw [if_neg h2] at h; cases h
    rw [if_neg h1] at h
    by_cases h2 : (hasS b.f1 77 30000 || anyS b.f1 79) = true
    · rw [if_pos h2] at h; cases h
    rw [if_neg h2] at h
    obtain ⟨⟨y, q⟩, h3, h4⟩ := Option.map_eq_some_iff.mp h
    cases h4
    obtain ⟨i1, e, i2, i3⟩ := body_some l _ _ h3
    simp only [Bool.or_eq_true, not_or, Bool.not_eq_true] at h1 h2
    refine ⟨fun c hc => ?_, e, i2, by rw [i3]; rfl⟩
    rcases List.mem_cons.mp hc with rfl | hc
    · exact markS_false.mpr ⟨h2.2, h2.1, h1⟩
    exact i1 c hc
theorem body_none : ∀ (l x : List Bk) (e : Bk) (r : List Bk), bodyS l = none → l = x ++ e :: r → backQ e = true → ∃ b ∈ x, markS b.f1 = true
  | [], x, e, r, h, hl, he => by cases x <;> cases hl
  | b :: l, x, e, r, h, hl, he => by
    have he2 : onlyB e 77 = true ∧ hasS e.f1 77 99000 = true := by unfold backQ at he; simpa using he
    rw [bodyS] at h
    match x, hl with
    | [], hl =>
      cases hl
      rw [if_pos he2.2, if_pos he2.1] at h
      cases h
    | c :: x, hl =>
      injection hl with hc hl
      subst hc
      cases hm : markS b.f1 with
      | true => exact ⟨b, List.mem_cons_self, hm⟩
      | false =>
        have h3 := markS_false.mp hm
        rw [if_neg (by rw [h3.2.2]; decide), if_neg (by rw [h3.1, h3.2.1]; decide)] at h
        obtain ⟨d, hd, hdm⟩ := body_none l x e r (Option.map_eq_none_iff.mp h) hl he
        exact ⟨d, List.mem_cons_of_mem _ hd, hdm⟩
theorem idxS_split {α : Type} {q : α → Bool} : ∀ (l : List α) (i : Int), 0 ≤ i → ¬ idxS q l i < 0 → ∃ y e r, l = y ++ e :: r ∧ idxS q l i = i + (y.length : Int) ∧ (∀ x ∈ y, q x = false) ∧ q e = true
  | [], i, h0, h => absurd (by decide : (-1 : Int) < 0) h
  | x :: l, i, h0, h => by
    rw [idxS] at h ⊢
    by_cases hx : q x = true
    · rw [if_pos hx]
      exact ⟨[], x, l, rfl, by simp, fun _ hb => (by cases hb), hx⟩
    rw [if_neg hx] at h ⊢
    obtain ⟨y, e, r, h1, h2, h3, h4⟩ := idxS_split l (i + 1) (by omega) h
    refine ⟨x :: y, e, r, by rw [h1]; rfl, by rw [h2]; simp only [List.length_cons]; omega, fun z hz => ?_, h4⟩
    rcases List.mem_cons.mp hz with rfl | hz
    · simpa using hx
    exact h3 z hz
theorem raw_subs : ∀ (f : Nat) (rest : List Bk), rest.length ≤ f → (∀ s, subsS f rest = some s → rawS f rest = some (s.map sOf) ∧ ∀ x ∈ s, markL x.f1 = false) ∧ (subsS f rest = none → ∀ s', rawS f rest = some s' → (s'.any fun x => markL x.f1) = true)
  | 0, rest, h => by
    obtain rfl : rest = [] := List.eq_nil_of_length_eq_zero (by omega)
    refine ⟨fun s hs => ?_, fun hs => by cases hs⟩
    cases hs
    exact ⟨rfl, fun _ hx => by cases hx⟩
  | f + 1, [], h => by
    refine ⟨fun s hs => ?_, fun hs => by cases hs⟩
    cases hs
    exact ⟨rfl, fun _ hx => by cases hx⟩
  | f + 1, b :: l, h => by
    have hb := begin_num b
    cases hbb : (beginB b).2 with
    | false =>
      have hn := hb.2 hbb
      rw [subsS, if_pos hn, rawS, hbb, if_neg (by decide)]
      exact ⟨fun s hs => (by cases hs), fun _ s' hs => by cases hs⟩
    | true =>
      obtain ⟨hn, hn0⟩ := hb.1 hbb
      have hbq := begin_back hbb
      rw [subsS, if_neg hn0, rawS, hbb, if_pos rfl]
      cases hbd : bodyS l with
      | some p =>
        obtain ⟨x, r⟩ := p
        obtain ⟨hx, e, he, hl⟩ := body_some l x r hbd
        have hidx : idxS backQ (b :: l) 0 = ((x.length + 1 : Nat) : Int) := by
          have := idxS_at (q := backQ) (b := e) r he (b :: x) 0 (fun c hc => by
            rcases List.mem_cons.mp hc with rfl | hc
            · exact hbq
            exact backQ_of_mark (hx c hc))
          rw [hl, show b :: (x ++ e :: r) = (b :: x) ++ e :: r from rfl, this]
          simp
        have ht : ((b :: l).take (x.length + 1)).drop 1 = x := by
          rw [List.take_succ_cons, List.drop_succ_cons, List.drop_zero, hl, List.take_left']
          rfl
        have hd : (b :: l).drop (x.length + 1 + 1) = r := by
          rw [List.drop_succ_cons, hl, List.drop_append, List.drop_eq_nil_of_le (by omega), show x.length + 1 - x.length = 1 by omega]
          rfl
        rw [hidx, if_neg (by omega), Int.toNat_natCast, ht, hd, Option.bind_some]
        have hr : r.length ≤ f := by have := congrArg List.length hl; simp only [List.length_append, List.length_cons] at this h; omega
        obtain ⟨i1, i2⟩ := raw_subs f r hr
        refine ⟨fun s hs => ?_, fun hs s' hs' => ?_⟩
        · obtain ⟨s1, h1, h2⟩ := Option.map_eq_some_iff.mp hs
          subst h2
          obtain ⟨j1, j2⟩ := i1 s1 h1
          rw [j1]
          refine ⟨by rw [Option.map_some, List.map_cons, hn]; rfl, fun y hy => ?_⟩
          rcases List.mem_cons.mp hy with rfl | hy
          · unfold markL
            rw [List.any_eq_false]
            intro c hc
            rw [hx c hc]
            decide
          exact j2 y hy
        obtain ⟨s1, h1, h2⟩ := Option.map_eq_some_iff.mp hs'
        subst h2
        rw [List.any_cons, i2 (Option.map_eq_none_iff.mp hs) s1 h1, Bool.or_true]
      | none =>
        refine ⟨fun s hs => (by cases hs), fun _ s' hs' => ?_⟩
        by_cases h0 : idxS backQ (b :: l) 0 < 0
        · rw [if_pos h0] at hs'; cases hs'
        rw [if_neg h0] at hs'
        obtain ⟨y, e, r, h1, h2, h3, h4⟩ := idxS_split (q := backQ) (b :: l) 0 (by omega) h0
        match y, h1, h2, h3 with
        | [], h1, _, _ =>
          injection h1 with h1 _
          rw [← h1, hbq] at h4
          cases h4
        | c :: y, h1, h2, h3 =>
          injection h1 with hc hl
          subst hc
          replace hl : l = y ++ e :: r := hl
          obtain ⟨d, hd, hdm⟩ := body_none l y e r hbd hl h4
          obtain ⟨s1, h5, h6⟩ := Option.map_eq_some_iff.mp hs'
          subst h6
          have ht : ((b :: l).take (idxS backQ (b :: l) 0).toNat).drop 1 = y := by
            rw [h2, show ((0 : Int) + ((b :: y).length : Int)).toNat = y.length + 1 by simp only [List.length_cons]; omega, List.take_succ_cons, List.drop_succ_cons, List.drop_zero, hl, List.take_left']
            rfl
          rw [ht, List.any_cons]
          have : markL y = true := by unfold markL; rw [List.any_eq_true]; exact ⟨d, hd, hdm⟩
          rw [this, Bool.true_or]
theorem orderedS_app (a : List Bk) (e : Bk) (s : List Sb) : orderedS (a ++ [e]) s = (hasS e.f1 77 30000 && (!anyS e.f1 79 && (!hasS e.f1 77 99000 && (!markL a && !(s.any fun x => markL x.f1))))) := by
  unfold orderedS
  have h1 : (a ++ [e]).length - 1 = a.length := by simp
  have h2 : (a ++ [e]).getD a.length zB = e := by simp
  rw [h1, h2, List.take_left' rfl, decide_eq_true (by simp)]
  rfl
theorem main_some : ∀ (l m r : List Bk), mainS l = some (m, r) → ∃ a e, m = a ++ [e] ∧ l = a ++ e :: r ∧ markL a = false ∧ hasS e.f1 77 30000 = true ∧ hasS e.f1 77 99000 = false ∧ anyS e.f1 79 = false
  | [], m, r, h => by cases h
  | b :: l, m, r, h => by
    rw [mainS] at h
    by_cases h1 : (hasS b.f1 77 99000 || anyS b.f1 79) = true
    · rw [if_pos h1] at h; cases h
    rw [if_neg h1] at h
    simp only [Bool.or_eq_true, not_or, Bool.not_eq_true] at h1
    by_cases h2 : hasS b.f1 77 30000 = true
    · rw [if_pos h2] at h
      cases h
      exact ⟨[], b, rfl, rfl, rfl, h2, h1.1, h1.2⟩
    rw [if_neg h2] at h
    obtain ⟨⟨y, q⟩, h3, h4⟩ := Option.map_eq_some_iff.mp h
    cases h4
    obtain ⟨a, e, i1, i2, i3, i4⟩ := main_some l _ _ h3
    refine ⟨b :: a, e, by rw [i1]; rfl, by rw [i2]; rfl, ?_, i4⟩
    unfold markL at i3 ⊢
    rw [List.any_cons, i3, Bool.or_false]
    exact markS_false.mpr ⟨h1.2, by simpa using h2, h1.1⟩
theorem main_none : ∀ (l a : List Bk) (e : Bk) (r : List Bk), mainS l = none → l = a ++ e :: r → hasS e.f1 77 30000 = true → (∀ b ∈ a, hasS b.f1 77 30000 = false) → markL a = true ∨ hasS e.f1 77 99000 = true ∨ anyS e.f1 79 = true
  | [], a, e, r, h, hl, he, ha => by cases a <;> cases hl
  | b :: l, a, e, r, h, hl, he, ha => by
    rw [mainS] at h
    match a, hl, ha with
    | [], hl, _ =>
      injection hl with hc hl
      subst hc
      by_cases h1 : (hasS b.f1 77 99000 || anyS b.f1 79) = true
      · rw [Bool.or_eq_true] at h1; exact Or.inr h1
      rw [if_neg h1, if_pos he] at h; cases h
    | c :: a, hl, ha =>
      injection hl with hc hl
      subst hc
      replace hl : l = a ++ e :: r := hl
      by_cases h1 : (hasS b.f1 77 99000 || anyS b.f1 79) = true
      · left
        unfold markL markS
        rw [List.any_cons]
        rw [Bool.or_eq_true] at h1
        rcases h1 with h1 | h1
        · rw [h1]; simp
        rw [h1]; simp
      rw [if_neg h1, if_neg (by rw [ha b List.mem_cons_self]; decide)] at h
      rcases main_none l a e r (Option.map_eq_none_iff.mp h) hl he (fun x hx => ha x (List.mem_cons_of_mem _ hx)) with i | i
      · left
        unfold markL at i ⊢
        rw [List.any_cons, i, Bool.or_true]
      exact Or.inr i
theorem repL_twice : ∀ (s p : List Rb), repL (p.map sOf) (s.map sOf) = twiceS p s
  | [], p => rfl
  | x :: s, p => by
    rw [List.map_cons, repL, twiceS, List.any_map]
    have e : (p.any ((fun y => (sOf x).f0 == y.f0) ∘ sOf)) = p.any fun y => decide (y.f0 = x.f0) := by
      congr 1
      funext y
      show (x.f0 == y.f0) = decide (y.f0 = x.f0)
      rw [Bool.eq_iff_iff, beq_iff_eq, decide_eq_true_iff]
      exact eq_comm
    rw [e]
    by_cases h : (p.any fun y => decide (y.f0 = x.f0)) = true
    · rw [if_pos h, if_pos h]
    rw [if_neg h, if_neg h]
    have := repL_twice s (p ++ [x])
    rw [List.map_append] at this
    exact this
def asO (p : List Bk × List Rb × Int) : List Bk × List Sb × Int := (p.1, p.2.1.map sOf, p.2.2)
theorem splitO_ev {l : List Bk} (hl : l.length ≤ 1000) (hg : ∀ b ∈ l, goodB b) : Ev (fun k => subprogram_Split.f k l) (asO (mainR [] (mainS l))) := by
  have hlen : ∀ b ∈ l, b.f1.length ≤ 1000000 := fun b hb => (hg b hb).len
  have hI : Ev (fun k => IndexFunc_end.f k l) (idxS (fun x : Bk => hasS x.f1 77 30000) l 0) := by
    unfold IndexFunc_end.f
    exact idx_ev (P := fun k (x : Bk) => subprogram_Split_1.f k x.f0 x.f1 x.f2) (q := fun x : Bk => hasS x.f1 77 30000) l 0 (fun x hx => by
      unfold subprogram_Split_1.f
      exact Ev.bind (has_ev _ _ _ _ _ (hlen x hx)) Ev.some)
  have hany := idxS_any (q := fun x : Bk => hasS x.f1 77 30000) l 0 (by omega)
  unfold subprogram_Split.f
  refine Ev.bind hI ?_
  by_cases h0 : idxS (fun x : Bk => hasS x.f1 77 30000) l 0 < 0
  · have hm : mainS l = none := by
      cases hm : mainS l with
      | none => rfl
      | some p =>
        obtain ⟨a, e, _, h2, _, h4, _⟩ := main_some l p.1 p.2 hm
        have : (l.any fun x : Bk => hasS x.f1 77 30000) = true := by rw [h2, List.any_append, List.any_cons, h4]; simp
        rw [this] at hany
        have := of_decide_eq_true hany
        omega
    rw [hm]
    exact Ev.pos h0 Ev.some
  obtain ⟨a, e, r, h1, h2, h3, h4⟩ := idxS_split (q := fun x : Bk => hasS x.f1 77 30000) l 0 (by omega) h0
  have hll := congrArg List.length h1
  simp only [List.length_append, List.length_cons] at hll
  have hta : l.take (a.length + 1) = a ++ [e] := by rw [h1, show a ++ e :: r = (a ++ [e]) ++ r by simp, List.take_left']; simp
  have hda : l.drop (a.length + 1) = r := by rw [h1, show a ++ e :: r = (a ++ [e]) ++ r by simp, List.drop_left']; simp
  rw [h2, show (0 : Int) + (a.length : Int) = (a.length : Int) by omega, wrapI (by omega), Int.toNat_natCast, hta, hda]
  have hc : Clone_Block.f (a ++ [e]) = some (a ++ [e]) := by unfold Clone_Block.f; rw [if_pos (by simp; omega)]
  rw [hc]
  refine Ev.neg (by omega) (Ev.pos (by omega) (Ev.pos (by omega) (Ev.bind Ev.some ?_)))
  have hmem : ∀ b ∈ a ++ [e], b ∈ l := fun b hb => by rw [h1]; rcases List.mem_append.mp hb with hb | hb; exact List.mem_append_left _ hb; rw [List.mem_singleton] at hb; subst hb; simp
  have ho := own_loop (a ++ [e]) (by simp; omega) (fun b hb => hlen b (hmem b hb)) r.length r [] (Nat.le_refl _) (by simp; omega) (fun b hb => hlen b (by rw [h1]; simp [hb])) (fun x hx => by cases hx)
  have ee : ownR (a ++ [e]) [] (rawS r.length r) = asO (mainR [] (mainS l)) := by
    cases hm : mainS l with
    | none =>
      have hbad : ∀ s, orderedS (a ++ [e]) s = false := by
        intro s
        rw [orderedS_app]
        rcases main_none l a e r hm h1 h4 h3 with i | i | i <;> rw [i] <;> simp
      cases rawS r.length r with
      | none => rfl
      | some s =>
        show finS _ ([] ++ s) = _
        unfold finS
        rw [hbad, if_neg (by decide)]
        rfl
    | some p =>
      obtain ⟨m, q⟩ := p
      obtain ⟨a', e', j1, j2, j3, j4, j5, j6⟩ := main_some l m q hm
      have hidx := idxS_at (q := fun x : Bk => hasS x.f1 77 30000) (b := e') q j4 a' 0 (fun x hx => by
        have : markS x.f1 = false := by
          unfold markL at j3
          rw [List.any_eq_false] at j3
          simpa using j3 x hx
        exact (markS_false.mp this).2.1)
      rw [← j2, h2] at hidx
      obtain ⟨k1, k2⟩ := List.append_inj (h1.symm.trans j2) (by omega)
      injection k2 with k2 k3
      subst k1 k2 k3 j1
      show _ = asO (doneS false ([] ++ (a ++ [e])) [] (subsS r.length r))
      rw [List.nil_append]
      obtain ⟨i1, i2⟩ := raw_subs r.length r (Nat.le_refl _)
      cases hs : subsS r.length r with
      | some s =>
        obtain ⟨g1, g2⟩ := i1 s hs
        rw [g1]
        show finS _ ([] ++ s.map sOf) = _
        have ho : orderedS (a ++ [e]) (s.map sOf) = true := by
          rw [orderedS_app, j4, j5, j6, j3]
          have : ((s.map sOf).any fun x => markL x.f1) = false := by
            rw [List.any_eq_false]
            intro x hx
            obtain ⟨y, hy, rfl⟩ := List.mem_map.mp hx
            have := g2 y hy
            simpa [sOf] using this
          rw [this]
          rfl
        have hr := repL_twice s []
        rw [List.map_nil] at hr
        unfold finS
        rw [List.nil_append, ho, if_pos rfl, hr]
        show _ = asO (if (false || twiceS [] s) = true then ([], [], 5) else (a ++ [e], [] ++ s, 0))
        rw [Bool.false_or]
        by_cases ht : twiceS [] s = true
        · rw [if_pos ht, if_pos ht]; rfl
        rw [if_neg ht, if_neg ht]; rfl
      | none =>
        cases hr : rawS r.length r with
        | none => rfl
        | some s' =>
          show finS _ ([] ++ s') = _
          unfold finS
          rw [List.nil_append, orderedS_app, i2 hs s' hr]
          simp [asO, doneS]
  rw [← ee]
  exact ho
end Go.Proofs.Ytehkhbnhmehobaa.P
namespace Go.Proofs.Ytehkhbnhmehobaa.P
open Go.RowKit Go.Proofs.YtehkhbnhmehobaaW.PrintWords Go.Proofs.YtehkhbnhmehobaaW.PrintLast Go.Proofs.YtehkhbnhmehobaaW.PrintMore
open Go.Maps (Keyed)
set_option linter.unusedVariables false
theorem size_put_le {H : Type} {D : DataW H} {kl : Lit} (hk : WideAt.IsKeyLit kl) (d : DataW H) (hD : Maps.IsMap D) : Maps.size (D.put kl d) ≤ if Maps.has D kl = true then Maps.size D else Maps.size D + 1 := by
  obtain ⟨es, rfl⟩ := hD
  show (DataW.insert (kl, d) (es.filter fun p => !p.1.sameKey kl)).length ≤ _
  have e : (DataW.insert (kl, d) (es.filter fun p => !p.1.sameKey kl)).length = (es.filter fun p => !p.1.sameKey kl).length + 1 := by rw [length_insert]
  rw [e]
  have h1 := List.length_filter_le (fun p : Lit × DataW H => !p.1.sameKey kl) es
  show _ ≤ if es.any (fun p => p.1.sameKey kl) = true then es.length else es.length + 1
  split
  · rename_i h
    obtain ⟨p, hp, hpk⟩ := List.any_eq_true.1 h
    have : (es.filter fun p => !p.1.sameKey kl).length < es.length := List.length_filter_lt_length_iff_exists.2 ⟨p, hp, by simp [hpk]⟩
    omega
  omega
def cntF (f : Int → Option Value) : Nat := (List.range 10000).countP (fun y : Nat => (f (y : Int)).isSome)
theorem cntF_le (f : Int → Option Value) : cntF f ≤ 10000 := by
  have := List.countP_le_length (p := fun y : Nat => (f (y : Int)).isSome) (l := List.range 10000)
  rw [List.length_range] at this
  exact this
theorem countP_lt {α : Type} {p q : α → Bool} : ∀ (l : List α), (∀ y ∈ l, p y = true → q y = true) → (∃ y ∈ l, p y = false ∧ q y = true) → l.countP p + 1 ≤ l.countP q
  | [], _, ⟨y, hy, _⟩ => by simp at hy
  | x :: l, h, ⟨y, hy, h1, h2⟩ => by
    rw [List.countP_cons, List.countP_cons]
    have hm : l.countP p ≤ l.countP q := List.countP_mono_left (fun z hz hp => h z (List.mem_cons_of_mem _ hz) hp)
    rcases List.mem_cons.mp hy with rfl | hy
    · simp [h1, h2]; omega
    have := countP_lt l (fun z hz => h z (List.mem_cons_of_mem _ hz)) ⟨y, hy, h1, h2⟩
    have hx := h x List.mem_cons_self
    have e1 : (if p x = true then 1 else 0) ≤ (if q x = true then 1 else 0) := by
      by_cases hp : p x = true
      · rw [if_pos hp, if_pos (hx hp)]; exact Nat.le_refl _
      rw [if_neg hp]; exact Nat.zero_le _
    omega
section
variable {P : Program} {k : TypeId} {q : IntKind} {w w1 : World} {b n : Nat} {f : Int → Option Value}
def MapFew (P : Program) (k : TypeId) (q : IntKind) (w : World) (b : Nat) (f : Int → Option Value) : Prop := ∃ n, MapIs P k q w b n f ∧ n ≤ cntF f
theorem MapFew.made (P : Program) (k : TypeId) (q : IntKind) (w : World) : MapFew P k q (w.alloc (.map #[] 0)) w.heap.size (fun _ => none) := ⟨0, MapIs.made P k q w, Nat.zero_le _⟩
theorem MapFew.below (h : MapFew P k q w b f) (hb : Below w.heap.size w w1) : MapFew P k q w1 b f := by
  obtain ⟨n, h, hn⟩ := h
  exact ⟨n, h.below hb, hn⟩
theorem MapFew.kept {row : Option Nat} (h : MapFew P k q w b f) (hg : w.grownBy w1 row) (hne : some b ≠ row) : MapFew P k q w1 b f := by
  obtain ⟨n, h, hn⟩ := h
  exact ⟨n, h.kept hg hne, hn⟩
theorem MapFew.same (h : MapFew P k q w b f) (hb : w1.heap[b]? = w.heap[b]?) : MapFew P k q w1 b f := by
  obtain ⟨n, h, hn⟩ := h
  exact ⟨n, h.same hb, hn⟩
theorem MapFew.lt (h : MapFew P k q w b f) : b < w.heap.size := by
  obtain ⟨n, h, _⟩ := h
  exact h.lt
theorem MapFew.put {t e : TypeId} (h : MapFew P k q w b f) (hk : P.underlying k = some (.int q)) (ht : P.underlying t = some (.map k e)) {a : Int} (ha : (Lit.int q a).wf = true) (h0 : 0 ≤ a) (h1 : a < 10000) (v : Value) :
    ∃ w1, (Instr.mapUpdate t (.map (some b)) (.int q a) v).run P w = .ok () w1 ∧ MapFew P k q w1 b (fun x => if x = a then some v else f x) ∧ w.grownBy w1 (some b) := by
  obtain ⟨n, h, hn⟩ := h
  have hc := cntF_le f
  obtain ⟨D, hD, hf⟩ := h
  have hm := hD.isMap
  have hsz := hD.size_le
  obtain ⟨w1, hrun, hD1, hg⟩ := hD.update (Maps.int_keyed hk) ht (show n < maxLen by unfold maxLen; omega) (R := rawR) (Maps.keyOf_int_mk hk ha) (val := v) rfl
  refine ⟨w1, hrun, ?_, hg⟩
  have hp := size_put_le (kl := .int q a) (show WideAt.IsKeyLit (.int q a) from trivial) (.held v : DataW Value) hm
  rw [(hf a).1] at hp
  have hf' : ∀ x : Int, Maps.has (D.put (.int q a) (.held v)) (.int q x) = (if x = a then some v else f x).isSome ∧ ∀ z, (D.put (.int q a) (.held v)).atKey (.int q x) (.held z) = .held ((if x = a then some v else f x).getD z) := by
    intro x
    by_cases hx : x = a
    · subst hx
      rw [if_pos rfl]
      exact ⟨Maps.has_put_same hm (show WideAt.IsKeyLit (.int q x) from trivial) _, fun z => Maps.atKey_put_same hm (show WideAt.IsKeyLit (.int q x) from trivial) _ _⟩
    rw [if_neg hx]
    have hne : Lit.int q x ≠ Lit.int q a := fun e => hx (by injection e)
    exact ⟨(Maps.has_put_other hne _).trans (hf x).1, fun z => (Maps.atKey_put_other hne _ _).trans ((hf x).2 z)⟩
  have hcnt : cntF f + (if (f a).isSome = true then 0 else 1) ≤ cntF (fun x => if x = a then some v else f x) := by
    unfold cntF
    by_cases hs : (f a).isSome = true
    · rw [if_pos hs, Nat.add_zero]
      refine List.countP_mono_left (fun y _ hy => ?_)
      by_cases hy2 : (y : Int) = a <;> simp [hy2]
      simpa using hy
    rw [if_neg hs]
    refine countP_lt _ (fun y _ hy => ?_) ⟨a.toNat, by simp; omega, ?_, ?_⟩
    · by_cases hy2 : (y : Int) = a <;> simp [hy2]
      simpa using hy
    · rw [Int.toNat_of_nonneg h0]
      simpa using hs
    rw [Int.toNat_of_nonneg h0]
    simp
  refine ⟨if (f a).isSome = true then n else n + 1, ?_, by
    have e1 : (if (f a).isSome = true then n else n + 1) = n + (if (f a).isSome = true then 0 else 1) := by
      by_cases hs : (f a).isSome = true
      · rw [if_pos hs, if_pos hs]; rfl
      rw [if_neg hs, if_neg hs]
    rw [e1]; omega⟩
  obtain ⟨es, clock, hb, F, hn1, hDe⟩ := hD1
  refine ⟨D.put (.int q a) (.held v), ⟨es, clock, hb, F, ?_, hDe⟩, hf'⟩
  have : Maps.size (D.put (.int q a) (.held v)) = es.size := by rw [hDe]; simp [Maps.size, length_sorted]
  rw [← this]
  refine Nat.le_trans hp ?_
  by_cases hs : (f a).isSome = true
  · rw [if_pos hs, if_pos hs]; exact hsz
  rw [if_neg hs, if_neg hs]; omega
end
section
variable {P : Program} {ops : Array Oper} {rest : List Oper} {o : Oper} {a : Act} {Q : Exit → Act → World → Prop} {W : World} {k e t : TypeId} {q : IntKind} {b : Nat} {f : Int → Option Value}
theorem few_put (hg : o.guard = none) {m x y : Operand} (hop : o.op = Op.mapUpdate t m x y) (hk : P.underlying k = some (.int q)) (ht : P.underlying t = some (.map k e))
    (h : MapFew P k q W b f) (hm : a.eval m = .map (some b)) (i : Int) (hx : a.eval x = .int q i) (hi : (Lit.int q i).wf = true) (h0 : 0 ≤ i) (h1 : i < 10000) (v : Value) (hv : a.eval y = v)
    (hK : ∀ w1, MapFew P k q w1 b (fun x => if x = i then some v else f x) → W.grownBy w1 (some b) → wpList P ops Q rest (a.put o.dst undef) w1) : wpList P ops Q (o :: rest) a W := by
  refine wpList_plain hg fun K' hK' => ?_
  obtain ⟨w1, hrun, h1, h2⟩ := h.put hk ht hi h0 h1 v
  unfold Oper.wp
  simp [execOp, hop, hm, hx, hv, hrun, Result.andThen]
  exact hK' _ _ (hK w1 h1 h2)
theorem few_put_step {K : Act → World → Prop} {N : Option Tmp} (hw : Region.wanted o (yielded ops a.tmps) = true) (hN : o.dst = N) {m x y : Operand} (hop : o.op = Op.mapUpdate t m x y) (hk : P.underlying k = some (.int q)) (ht : P.underlying t = some (.map k e))
    (h : MapFew P k q W b f) (hm : a.eval m = .map (some b)) (i : Int) (hx : a.eval x = .int q i) (hi : (Lit.int q i).wf = true) (h0 : 0 ≤ i) (h1 : i < 10000) (v : Value) (hv : a.eval y = v)
    (hK : ∀ w1, MapFew P k q w1 b (fun x => if x = i then some v else f x) → W.grownBy w1 (some b) → K (a.put N undef) w1) : if Region.wanted o (yielded ops a.tmps) = true then Oper.wp P o a W K Q else K (a.put N undef) W := by
  rw [if_pos hw]
  subst hN
  obtain ⟨w1, hrun, h2, h3⟩ := h.put hk ht hi h0 h1 v
  unfold Oper.wp
  simp [execOp, hop, hm, hx, hv, hrun, Result.andThen]
  exact hK w1 h2 h3
end
end Go.Proofs.Ytehkhbnhmehobaa.P
namespace Go.Proofs.Ytehkhbnhmehobaa.P
open Go.RowKit Go.Proofs.YtehkhbnhmehobaaW.PrintWords Go.Proofs.YtehkhbnhmehobaaW.PrintLast Go.Proofs.YtehkhbnhmehobaaW.PrintMore
set_option linter.unusedVariables false
set_option linter.unusedSimpArgs false
attribute [local go_sem] max2_int min2_int max_two min_two
def callF (k : Nat) (b : S32) : Option (Int × Int × Bool × Int) := subprogram_Call.f k b.f0 b.f1 b.f2
def mx (x y : Int) : Int := if x < y then y else x
def mn (x y : Int) : Int := if y < x then y else x
def IN (n : Int) : Prop := 1 ≤ n ∧ n ≤ 9999
instance (n : Int) : Decidable (IN n) := by unfold IN; infer_instance
theorem IN.wf {n : Int} (h : IN n) : (Lit.int .i64 n).wf = true := WalkArith.wf_i64 (by unfold IN at h; omega)
def ExpIs (W : World) (gx g0 g1 g2 g3 g4 : Nat) : Prop := W.heap[gx]? = some (.cells #[.map (some g0), .map (some g1), .map (some g2), .map (some g3), .map (some g4)] 139 (0, 0))
def IntMap (W : World) (g : Nat) (f : Int → Int) : Prop := ∃ F, MapFew Try.prog 2 .i64 W g F ∧ ∀ y, (F y).getD (.int .i64 0) = .int .i64 (f y)
theorem IntMap.below {w w1 : World} {g : Nat} {f : Int → Int} (h : IntMap w g f) (hb : Below w.heap.size w w1) : IntMap w1 g f := by
  obtain ⟨F, h, hf⟩ := h
  exact ⟨F, h.below hb, hf⟩
def sumL (k : Nat) (dp sz : Int → Int) : List S32 → Int → Int → Option (Int × Int)
  | [], d, s => some (d, s)
  | b :: l, d, s => (callF k b).bind fun r => if r.2.2.1 = true then (if IN r.1 then sumL k dp sz l (mx d (wrap64 (1 + dp r.1))) (mn (wrap64 (s + mn (wrap64 (r.2.1 * sz r.1)) 20001)) 20001) else none) else sumL k dp sz l d (mn (wrap64 (s + 1)) 20001)
theorem sum_step {k : Nat} {dp sz : Int → Int} {l : List S32} {j : Nat} (h : j < l.length) {d s : Int} {r : Int × Int} (hr : sumL k dp sz (l.drop j) d s = some r) :
    ∃ n t is e, callF k l[j] = some (n, t, is, e) ∧ (is = true → IN n ∧ sumL k dp sz (l.drop (j + 1)) (mx d (wrap64 (1 + dp n))) (mn (wrap64 (s + mn (wrap64 (t * sz n)) 20001)) 20001) = some r) ∧ (is = false → sumL k dp sz (l.drop (j + 1)) d (mn (wrap64 (s + 1)) 20001) = some r) := by
  rw [List.drop_eq_getElem_cons h, sumL] at hr
  obtain ⟨⟨n, t, is, e⟩, h1, h2⟩ := Option.bind_eq_some_iff.mp hr
  refine ⟨n, t, is, e, h1, fun hi => ?_, fun hi => ?_⟩
  · subst hi
    simp only [if_true] at h2
    by_cases hn : IN n
    · rw [if_pos hn] at h2; exact ⟨hn, h2⟩
    rw [if_neg hn] at h2; cases h2
  subst hi
  simpa using h2
theorem zero_i64 (w : World) : (zeroValue 2).run Try.prog w = .ok (.int .i64 0) w := by kernel_rfl
set_option maxHeartbeats 4000000 in
set_option maxRecDepth 100000 in
theorem sum_calls (k : Nat) (gx g0 g1 g2 g3 g4 : Nat) (dp sz : Int → Int) (A0 : Option Addr) (c0 : Nat) (l : List (S32)) (r1 r2 : Int) (w : World) (hx : ExpIs w gx g0 g1 g2 g3 g4) (h2 : IntMap w g2 dp) (h3 : IntMap w g3 sz)
    (hr0 : Kd.C k32 w A0 l.length l) (hc0 : l.length ≤ c0) (h : sumL k dp sz l 0 0 = some (r1, r2)) :
    Calls Try.prog 95 #[.pointer (some ⟨gx, 0, none⟩), .slice A0 l.length c0] w fun e w' => e = .returned (.tuple #[.int .i64 r1, .int .i64 r2]) ∧ Below w.heap.size w w' := by
  have hu32 := Try.underlying32
  have hu139 := Try.underlying139
  have HR := Aside0.mk hr0
  have HM := Aside0.mk (Kd.C_max hr0)
  have H := Aside0.mk h
  have HX := Aside0.mk hx
  have H2 := Aside0.mk h2
  have H3 := Aside0.mk h3
  clear hr0 hc0 h hx h2 h3
  go_enter Try.func95, Try.ntmps95
  go_wp2
  go_loopw [16, 6, 7] (fun i vd vs w' => ∃ (j : Nat) (d s : Int), i = .int .i64 j ∧ vd = .int .i64 d ∧ vs = .int .i64 s ∧ Aside0 (j ≤ l.length) ∧ Aside0 (sumL k dp sz (l.drop j) d s = some (r1, r2)) ∧ Aside0 (Below w.heap.size w w')) (fun i _ _ _ => l.length - (intOf i).toNat)
  case atStart => exact ⟨0, 0, 0, rfl, rfl, rfl, ⟨Nat.zero_le _⟩, ⟨H.out⟩, ⟨Below.refl _ _⟩⟩
  case round =>
    obtain ⟨j, d, s, rfl, rfl, rfl, HJ, HI, HB⟩ := hrel
    clear H
    by_cases hlt : j < l.length
    · obtain ⟨ad, A1, c1, e, hx0, hx1, hx2, hl1, hk1⟩ := at_T32 (Kd.C_below HR.out HB.out) (j : Int) (by omega) (by omega)
      cases e
      have hrd : rd_T32 l (j : Int) = l[j] := by simp [rd_T32, hlt]
      rw [hrd] at hx0 hx1 hx2 hl1 hk1
      obtain ⟨n, t, is, e, hcl, hyes, hno⟩ := sum_step hlt HI.out
      have HCL := Aside0.mk (show subprogram_Call.f k l[j].f0 l[j].f1 l[j].f2 = some (n, t, is, e) from hcl)
      have HYES := Aside0.mk hyes
      have HNO := Aside0.mk hno
      have HL1 := Aside0.mk hl1
      have HK1 := Aside0.mk hk1
      clear hrd hcl hyes hno hl1 hk1
      generalize l[j] = x at *
      simp only [Int.toNat_natCast] at hx0 hx1 hx2
      have hlt' : decide ((j : Int) < (l.length : Int)) = true := by simp; omega
      cases is with
      | true =>
        obtain ⟨hin, hnext⟩ := HYES.out rfl
        have HIN := Aside0.mk hin
        have HN := Aside0.mk hnext
        clear hin hnext HNO
        go_wp2_with (first | (go_at_call 25; (with_reducible refine (subprogram_Call.calls k x.f0 A1 c1 x.f1 x.f2 n t true e _ (Kd.C_alloc HK1.out _) HL1.out HCL.out).mono ?_); rintro e2 w2 ⟨rfl, hb2⟩; have HB2 := Aside0.mk (below_then (below_alloc HB.out _) (Nat.le_trans HB.out.size (below_alloc (Below.refl _ _) _).size) hb2); have HXX := Aside0.mk (blk_below HX.out HB2.out); have HZ2 := Aside0.mk (H2.out.below HB2.out); have HZ3 := Aside0.mk (H3.out.below HB2.out); clear hb2; have hq2 : w2.cell? ⟨gx, 2, none⟩ = some (.map (some g2)) := (blk_cell HXX.out 2).trans rfl; have hq3 : w2.cell? ⟨gx, 3, none⟩ = some (.map (some g3)) := (blk_cell HXX.out 3).trans rfl; obtain ⟨F2, ⟨n2, m2, _⟩, f2⟩ := HZ2.out; obtain ⟨F3, ⟨n3, m3, _⟩, f3⟩ := HZ3.out; have HM2 := Aside0.mk m2; have HM3 := Aside0.mk m3; have HF2 := Aside0.mk f2; have HF3 := Aside0.mk f3; clear m2 m3 f2 f3) | ((with_reducible refine gate_dst (N := 37) rfl ?_); refine map_look 37 rfl rfl rfl Try.underlying2 Try.underlying136 zero_int3 HM2.out rfl n rfl HIN.out.wf _ (HF2.out n) ?_) | ((with_reducible refine gate_dst (N := 47) rfl ?_); refine map_look 47 rfl rfl rfl Try.underlying2 Try.underlying137 zero_i64 HM3.out rfl n rfl HIN.out.wf _ (HF3.out n) ?_))
        go_roundw
        case rel => exact ⟨j + 1, _, _, by rw [wrap_succ hlt HM.out], rfl, rfl, ⟨by omega⟩, ⟨HN.out⟩, ⟨HB2.out⟩⟩
        case measure => rw [wrap_succ hlt HM.out]; simp only [intOf, Int.toNat_natCast]; omega
      | false =>
        have HN := Aside0.mk (HNO.out rfl)
        clear HYES
        go_wp2_with (go_at_call 25; (with_reducible refine (subprogram_Call.calls k x.f0 A1 c1 x.f1 x.f2 n t false e _ (Kd.C_alloc HK1.out _) HL1.out HCL.out).mono ?_); rintro e2 w2 ⟨rfl, hb2⟩; have HB2 := Aside0.mk (below_then (below_alloc HB.out _) (Nat.le_trans HB.out.size (below_alloc (Below.refl _ _) _).size) hb2); clear hb2)
        go_roundw
        case rel => exact ⟨j + 1, _, _, by rw [wrap_succ hlt HM.out], rfl, rfl, ⟨by omega⟩, ⟨HN.out⟩, ⟨HB2.out⟩⟩
        case measure => rw [wrap_succ hlt HM.out]; simp only [intOf, Int.toNat_natCast]; omega
    have hlt' : decide ((j : Int) < (l.length : Int)) = false := by simp; omega
    have hI := HI.out
    rw [List.drop_eq_nil_of_le (by omega)] at hI
    simp only [sumL, Option.some.injEq, Prod.mk.injEq] at hI
    obtain ⟨rfl, rfl⟩ := hI
    go_wp2
    refine bodyPost_ret (results_list (rs := [.tmp 4, .tmp 5]) rfl (by simp) (.tmp (.tmp .nil))) rfl ?_
    exact ⟨rfl, HB.out⟩
end Go.Proofs.Ytehkhbnhmehobaa.P
namespace Go.Proofs.Ytehkhbnhmehobaa.P
open Go.RowKit Go.Proofs.YtehkhbnhmehobaaW.PrintWords Go.Proofs.YtehkhbnhmehobaaW.PrintLast Go.Proofs.YtehkhbnhmehobaaW.PrintMore
set_option linter.unusedVariables false
set_option linter.unusedSimpArgs false
def SubMap (w0 W : World) (g : Nat) (subs : Int → List S32) : Prop := ∃ F, MapFew Try.prog 2 .i64 W g F ∧ ∀ y, ∃ A c, (F y).getD (.slice none 0 0) = .slice A (subs y).length c ∧ (subs y).length ≤ c ∧ Kd.C k32 w0 A (subs y).length (subs y)
abbrev St3 := (Int → Int) × (Int → Int) × (Int → Int)
structure ExpW (w0 W : World) (gx g0 g1 g2 g3 g4 : Nat) (subs : Int → List S32) (S : St3) : Prop where
  below : Below w0.heap.size w0 W
  exp : ExpIs W gx g0 g1 g2 g3 g4
  sub : SubMap w0 W g0 subs
  m1 : IntMap W g1 S.1
  m2 : IntMap W g2 S.2.1
  m3 : IntMap W g3 S.2.2
  m4 : MapFew Try.prog 2 .i64 W g4 (fun _ => none)
  ge1 : w0.heap.size ≤ g1
  ge2 : w0.heap.size ≤ g2
  ge3 : w0.heap.size ≤ g3
  ge4 : w0.heap.size ≤ g4
  n01 : g0 ≠ g1
  n02 : g0 ≠ g2
  n03 : g0 ≠ g3
  n04 : g0 ≠ g4
  n12 : g1 ≠ g2
  n13 : g1 ≠ g3
  n14 : g1 ≠ g4
  n23 : g2 ≠ g3
  n24 : g2 ≠ g4
  n34 : g3 ≠ g4
section
variable {w0 W W' : World} {gx g0 g1 g2 g3 g4 : Nat} {subs : Int → List S32} {S : St3}
theorem IntMap.kept {row : Option Nat} {g : Nat} {f : Int → Int} (h : IntMap W g f) (hg : W.grownBy W' row) (hne : some g ≠ row) : IntMap W' g f := by
  obtain ⟨F, h, hf⟩ := h
  exact ⟨F, h.kept hg hne, hf⟩
theorem SubMap.kept {row : Option Nat} {g : Nat} (h : SubMap w0 W g subs) (hg : W.grownBy W' row) (hne : some g ≠ row) : SubMap w0 W' g subs := by
  obtain ⟨F, h, hf⟩ := h
  exact ⟨F, h.kept hg hne, hf⟩
theorem IntMap.ne_exp {g : Nat} {f : Int → Int} (h : IntMap W g f) (hx : ExpIs W gx g0 g1 g2 g3 g4) : some gx ≠ some g := by
  obtain ⟨F, ⟨n, h, _⟩, _⟩ := h
  intro e
  injection e with e
  exact h.ne hx e.symm
theorem ExpW.step (h : ExpW w0 W gx g0 g1 g2 g3 g4 subs S) (hb : Below W.heap.size W W') : ExpW w0 W' gx g0 g1 g2 g3 g4 subs S :=
  { h with below := below_then h.below h.below.size hb, exp := blk_below h.exp hb, sub := by obtain ⟨F, hm, hf⟩ := h.sub; exact ⟨F, hm.below hb, hf⟩, m1 := h.m1.below hb, m2 := h.m2.below hb, m3 := h.m3.below hb, m4 := h.m4.below hb }
theorem below_row {g : Nat} (h : Below w0.heap.size w0 W) (hg : W.grownBy W' (some g)) (hge : w0.heap.size ≤ g) : Below w0.heap.size w0 W' := h.grown hg h.size (fun k_ e_ => by injection e_ with e_; rw [← e_]; exact hge)
theorem ExpIs.kept {g : Nat} (h : ExpIs W gx g0 g1 g2 g3 g4) (hg : W.grownBy W' (some g)) (hne : some gx ≠ some g) : ExpIs W' gx g0 g1 g2 g3 g4 := (hg.block gx (blk_lt h) hne).trans h
theorem someNe {a b : Nat} (h : a ≠ b) : some a ≠ some b := fun e => h (by injection e)
theorem ExpW.put1 (h : ExpW w0 W gx g0 g1 g2 g3 g4 subs S) {f : Int → Int} (hg : W.grownBy W' (some g1)) (hm : IntMap W' g1 f) : ExpW w0 W' gx g0 g1 g2 g3 g4 subs (f, S.2.1, S.2.2) :=
  { h with below := below_row h.below hg h.ge1, exp := h.exp.kept hg (h.m1.ne_exp h.exp), sub := h.sub.kept hg (someNe h.n01), m1 := hm, m2 := h.m2.kept hg (someNe h.n12.symm), m3 := h.m3.kept hg (someNe h.n13.symm), m4 := h.m4.kept hg (someNe h.n14.symm) }
theorem ExpW.put2 (h : ExpW w0 W gx g0 g1 g2 g3 g4 subs S) {f : Int → Int} (hg : W.grownBy W' (some g2)) (hm : IntMap W' g2 f) : ExpW w0 W' gx g0 g1 g2 g3 g4 subs (S.1, f, S.2.2) :=
  { h with below := below_row h.below hg h.ge2, exp := h.exp.kept hg (h.m2.ne_exp h.exp), sub := h.sub.kept hg (someNe h.n02), m1 := h.m1.kept hg (someNe h.n12), m2 := hm, m3 := h.m3.kept hg (someNe h.n23.symm), m4 := h.m4.kept hg (someNe h.n24.symm) }
theorem ExpW.put3 (h : ExpW w0 W gx g0 g1 g2 g3 g4 subs S) {f : Int → Int} (hg : W.grownBy W' (some g3)) (hm : IntMap W' g3 f) : ExpW w0 W' gx g0 g1 g2 g3 g4 subs (S.1, S.2.1, f) :=
  { h with below := below_row h.below hg h.ge3, exp := h.exp.kept hg (h.m3.ne_exp h.exp), sub := h.sub.kept hg (someNe h.n03), m1 := h.m1.kept hg (someNe h.n13), m2 := h.m2.kept hg (someNe h.n23), m3 := hm, m4 := h.m4.kept hg (someNe h.n34.symm) }
end
def upd (f : Int → Int) (n v : Int) : Int → Int := fun y => if y = n then v else f y
theorem upd_get {F : Int → Option Value} {f : Int → Int} (h : ∀ y, (F y).getD (.int .i64 0) = .int .i64 (f y)) (n v : Int) : ∀ y, ((if y = n then some (Value.int .i64 v) else F y).getD (.int .i64 0)) = .int .i64 (upd f n v y) := by
  intro y
  unfold upd
  by_cases hy : y = n <;> simp [hy, h]
def measL (rec_ : Int → St3 → Option (Bool × St3)) (kc : Nat) : List S32 → St3 → Option (Bool × St3)
  | [], S => some (true, S)
  | b :: l, S => (callF kc b).bind fun r => if r.2.2.1 = true then (if IN r.1 then (rec_ r.1 S).bind fun m => if m.1 = true then measL rec_ kc l m.2 else some (false, m.2) else none) else measL rec_ kc l S
def measF (subs : Int → List S32) (kc : Nat) : Nat → Int → St3 → Option (Bool × St3)
  | 0, _, _ => none
  | k + 1, n, S => if S.1 n = 1 then some (false, S) else if S.1 n = 2 then some (true, S) else
    (measL (measF subs kc k) kc (subs n) (upd S.1 n 1, S.2.1, S.2.2)).bind fun m => if m.1 = true then (sumL kc m.2.2.1 m.2.2.2 (subs n) 0 0).bind fun s => some (true, (upd m.2.1 n 2, upd m.2.2.1 n s.1, upd m.2.2.2 n s.2)) else some (false, m.2)
theorem meas_step {rec_ : Int → St3 → Option (Bool × St3)} {kc : Nat} {l : List S32} {j : Nat} (h : j < l.length) {S : St3} {r : Bool × St3} (hr : measL rec_ kc (l.drop j) S = some r) :
    ∃ n t is e, callF kc l[j] = some (n, t, is, e) ∧ (is = true → IN n ∧ ∃ b S2, rec_ n S = some (b, S2) ∧ (b = true → measL rec_ kc (l.drop (j + 1)) S2 = some r) ∧ (b = false → r = (false, S2))) ∧ (is = false → measL rec_ kc (l.drop (j + 1)) S = some r) := by
  rw [List.drop_eq_getElem_cons h, measL] at hr
  obtain ⟨⟨n, t, is, e⟩, h1, h2⟩ := Option.bind_eq_some_iff.mp hr
  refine ⟨n, t, is, e, h1, fun hi => ?_, fun hi => ?_⟩
  · subst hi
    simp only [if_true] at h2
    by_cases hn : IN n
    · rw [if_pos hn] at h2
      obtain ⟨⟨b, S2⟩, h3, h4⟩ := Option.bind_eq_some_iff.mp h2
      refine ⟨hn, b, S2, h3, fun hb => ?_, fun hb => ?_⟩
      · subst hb; simpa using h4
      subst hb; simpa using h4.symm
    rw [if_neg hn] at h2; cases h2
  subst hi
  simpa using h2
theorem zero_rows (w : World) : (zeroValue 35).run Try.prog w = .ok (.slice none 0 0) w := by kernel_rfl
set_option maxHeartbeats 8000000 in
set_option maxRecDepth 100000 in
theorem measure_calls (kc : Nat) (w0 : World) (gx g0 g1 g2 g3 g4 : Nat) (subs : Int → List S32) : ∀ (kf : Nat) (n : Int) (S S' : St3) (b : Bool) (W : World), IN n → ExpW w0 W gx g0 g1 g2 g3 g4 subs S → measF subs kc kf n S = some (b, S') →
    Calls Try.prog 111 #[.pointer (some ⟨gx, 0, none⟩), .int .i64 n] W fun e W' => e = .returned (.bool b) ∧ ExpW w0 W' gx g0 g1 g2 g3 g4 subs S' := by
  intro kf
  induction kf with
  | zero => intro n S S' b W hn hE h; simp [measF] at h
  | succ kf ih =>
    intro n S S' b W hn hE h
    have IH := Aside0.mk ih
    clear ih
    rw [measF] at h
    have hu139 := Try.underlying139
    have hu32 := Try.underlying32
    have hq1 : W.cell? ⟨gx, 1, none⟩ = some (.map (some g1)) := (blk_cell hE.exp 1).trans rfl
    have HE := Aside0.mk hE
    have HN := Aside0.mk hn
    obtain ⟨F1, fw1, f1⟩ := hE.m1
    have FW1 := Aside0.mk fw1
    obtain ⟨q1, m1, _⟩ := fw1
    have M1 := Aside0.mk m1
    have F1H := Aside0.mk f1
    clear m1 f1 hE hn
    by_cases c1 : S.1 n = 1
    · rw [if_pos c1] at h
      simp only [Option.some.injEq, Prod.mk.injEq] at h
      obtain ⟨rfl, rfl⟩ := h
      have t1 : (S.1 n == 1) = true := beq_iff_eq.mpr c1
      clear c1
      go_enter Try.func111, Try.ntmps111
      go_wp2_with ((with_reducible refine gate_dst (N := 16) rfl ?_); refine map_look 16 rfl rfl rfl Try.underlying2 Try.underlying136 zero_int3 M1.out rfl n rfl HN.out.wf _ (F1H.out n) ?_)
      go_ret
      exact ⟨rfl, HE.out⟩
    rw [if_neg c1] at h
    have t1 : (S.1 n == 1) = false := beq_eq_false_iff_ne.mpr c1
    clear c1
    by_cases c2 : S.1 n = 2
    · rw [if_pos c2] at h
      simp only [Option.some.injEq, Prod.mk.injEq] at h
      obtain ⟨rfl, rfl⟩ := h
      have t2 : (S.1 n == 2) = true := beq_iff_eq.mpr c2
      clear c2
      go_enter Try.func111, Try.ntmps111
      go_wp2_with ((with_reducible refine gate_dst (N := 16) rfl ?_); refine map_look 16 rfl rfl rfl Try.underlying2 Try.underlying136 zero_int3 M1.out rfl n rfl HN.out.wf _ (F1H.out n) ?_)
      go_ret
      exact ⟨rfl, HE.out⟩
    rw [if_neg c2] at h
    have t2 : (S.1 n == 2) = false := beq_eq_false_iff_ne.mpr c2
    clear c2
    obtain ⟨m, hm, h⟩ := Option.bind_eq_some_iff.mp h
    have HM := Aside0.mk hm
    have H := Aside0.mk h
    clear hm h
    go_enter Try.func111, Try.ntmps111
    go_wp2_with (first | ((with_reducible refine gate_dst (N := 16) rfl ?_); refine map_look 16 rfl rfl rfl Try.underlying2 Try.underlying136 zero_int3 M1.out rfl n rfl HN.out.wf _ (F1H.out n) ?_) | ((with_reducible refine gate_dst (N := 31) rfl ?_); refine map_look 31 rfl rfl rfl Try.underlying2 Try.underlying135 zero_rows M0.out rfl n rfl HN.out.wf (.slice A0 (subs n).length c0) E0.out ?_) | (refine few_put rfl rfl Try.underlying2 Try.underlying136 FW1.out rfl n rfl HN.out.wf (by have := HN.out; unfold IN at this; omega) (by have := HN.out; unfold IN at this; omega) (.int .i64 1) rfl ?_; intro w1 hm1 hg1; have HE1 := Aside0.mk (ExpW.put1 (f := upd S.1 n 1) HE.out hg1 ⟨_, hm1, upd_get F1H.out n 1⟩); clear hm1 hg1; have hq0_w1 : w1.cell? ⟨gx, 0, none⟩ = some (.map (some g0)) := (blk_cell HE1.out.exp 0).trans rfl; obtain ⟨F0, ⟨q0, m0, _⟩, f0⟩ := HE1.out.sub; obtain ⟨A0, c0, e0, hl0, hC0⟩ := f0 n; have M0 := Aside0.mk m0; have E0 := Aside0.mk e0; have HL0 := Aside0.mk hl0; have HC0 := Aside0.mk hC0; clear m0 f0 e0 hl0 hC0))
    have HMX := Aside0.mk (Kd.C_max HC0.out)
    go_loopw [33] (fun i w' => ∃ (j : Nat) (S2 : St3), i = .int .i64 j ∧ Aside0 (j ≤ (subs n).length) ∧ Aside0 (measL (measF subs kc kf) kc ((subs n).drop j) S2 = some m) ∧ Aside0 (ExpW w0 w' gx g0 g1 g2 g3 g4 subs S2)) (fun i _ => (subs n).length - (intOf i).toNat)
    case atStart => exact ⟨0, _, rfl, ⟨Nat.zero_le _⟩, ⟨HM.out⟩, ⟨HE1.out⟩⟩
    case round =>
      obtain ⟨j, S2, rfl, HJ, HI, HE2⟩ := hrel
      clear HM HE HE1 M0 M1 FW1 F1H E0 hq1 hq0_w1
      by_cases hlt : j < (subs n).length
      · obtain ⟨ad, A1, c1, e, hx0, hx1, hx2, hl1, hk1⟩ := at_T32 (Kd.C_below HC0.out HE2.out.below) (j : Int) (by omega) (by omega)
        cases e
        have hrd : rd_T32 (subs n) (j : Int) = (subs n)[j] := by simp [rd_T32, hlt]
        rw [hrd] at hx0 hx1 hx2 hl1 hk1
        obtain ⟨nn, t, is, e, hcl, hyes, hno⟩ := meas_step hlt HI.out
        have HCL := Aside0.mk (show subprogram_Call.f kc (subs n)[j].f0 (subs n)[j].f1 (subs n)[j].f2 = some (nn, t, is, e) from hcl)
        have HYES := Aside0.mk hyes
        have HNO := Aside0.mk hno
        have HL1 := Aside0.mk hl1
        have HK1 := Aside0.mk hk1
        clear hrd hcl hyes hno hl1 hk1
        generalize (subs n)[j] = x at *
        simp only [Int.toNat_natCast] at hx0 hx1 hx2
        have hlt' : decide ((j : Int) < ((subs n).length : Int)) = true := by simp; omega
        cases is with
        | true =>
          obtain ⟨hin, bb, S3, hr, hy, hnn⟩ := HYES.out rfl
          have HIN := Aside0.mk hin
          have HR := Aside0.mk hr
          have HY := Aside0.mk hy
          have HNN := Aside0.mk hnn
          clear hin hr hy hnn HNO HYES
          cases bb with
          | true =>
            have HY2 := Aside0.mk (HY.out rfl)
            go_wp2_with (first | (go_at_call 25; (with_reducible refine (subprogram_Call.calls kc x.f0 A1 c1 x.f1 x.f2 nn t true e _ (Kd.C_alloc HK1.out _) HL1.out HCL.out).mono ?_); rintro e2 w2 ⟨rfl, hb2⟩; have HE3 := Aside0.mk (HE2.out.step (below_then (below_alloc (Below.refl _ _) _) (below_alloc (Below.refl _ _) _).size hb2)); clear hb2) | (go_at_call 111; (with_reducible refine (IH.out nn S2 S3 true _ HIN.out HE3.out HR.out).mono ?_); rintro e3 w3 ⟨rfl, he4⟩; have HE4 := Aside0.mk he4; clear he4))
            go_roundw
            case rel => exact ⟨j + 1, S3, by rw [wrap_succ hlt HMX.out], ⟨by omega⟩, ⟨HY2.out⟩, ⟨HE4.out⟩⟩
            case measure => rw [wrap_succ hlt HMX.out]; simp only [intOf, Int.toNat_natCast]; omega
          | false =>
            have hmv := HNN.out rfl
            have HH := H.out
            rw [hmv] at HH
            simp only [Bool.false_eq_true, if_false, Option.some.injEq, Prod.mk.injEq] at HH
            obtain ⟨rfl, rfl⟩ := HH
            go_wp2_with (first | (go_at_call 25; (with_reducible refine (subprogram_Call.calls kc x.f0 A1 c1 x.f1 x.f2 nn t true e _ (Kd.C_alloc HK1.out _) HL1.out HCL.out).mono ?_); rintro e2 w2 ⟨rfl, hb2⟩; have HE3 := Aside0.mk (HE2.out.step (below_then (below_alloc (Below.refl _ _) _) (below_alloc (Below.refl _ _) _).size hb2)); clear hb2) | (go_at_call 111; (with_reducible refine (IH.out nn S2 S3 false _ HIN.out HE3.out HR.out).mono ?_); rintro e3 w3 ⟨rfl, he4⟩; have HE4 := Aside0.mk he4; clear he4))
            go_ret
            exact ⟨rfl, HE4.out⟩
        | false =>
          have HY2 := Aside0.mk (HNO.out rfl)
          clear HYES
          go_wp2_with (go_at_call 25; (with_reducible refine (subprogram_Call.calls kc x.f0 A1 c1 x.f1 x.f2 nn t false e _ (Kd.C_alloc HK1.out _) HL1.out HCL.out).mono ?_); rintro e2 w2 ⟨rfl, hb2⟩; have HE3 := Aside0.mk (HE2.out.step (below_then (below_alloc (Below.refl _ _) _) (below_alloc (Below.refl _ _) _).size hb2)); clear hb2)
          go_roundw
          case rel => exact ⟨j + 1, S2, by rw [wrap_succ hlt HMX.out], ⟨by omega⟩, ⟨HY2.out⟩, ⟨HE3.out⟩⟩
          case measure => rw [wrap_succ hlt HMX.out]; simp only [intOf, Int.toNat_natCast]; omega
      have hlt' : decide ((j : Int) < ((subs n).length : Int)) = false := by simp; omega
      have hI := HI.out
      rw [List.drop_eq_nil_of_le (by omega)] at hI
      simp only [measL, Option.some.injEq] at hI
      subst hI
      have HH := H.out
      simp only [if_true] at HH
      obtain ⟨s, hs, HH⟩ := Option.bind_eq_some_iff.mp HH
      simp only [Option.some.injEq, Prod.mk.injEq] at HH
      obtain ⟨rfl, rfl⟩ := HH
      obtain ⟨F1, fw1, f1⟩ := HE2.out.m1
      have FW1 := Aside0.mk fw1
      have F1H := Aside0.mk f1
      clear fw1 f1
      have hq1 : wr.cell? ⟨gx, 1, none⟩ = some (.map (some g1)) := (blk_cell HE2.out.exp 1).trans rfl
      have HS := Aside0.mk hs
      clear hs
      go_wp2_with (refine few_put rfl rfl Try.underlying2 Try.underlying136 FW1.out rfl n rfl HN.out.wf (by have := HN.out; unfold IN at this; omega) (by have := HN.out; unfold IN at this; omega) (.int .i64 2) rfl ?_; intro w5 hm5 hg5; have HE5 := Aside0.mk (ExpW.put1 (f := upd S2.1 n 2) HE2.out hg5 ⟨_, hm5, upd_get F1H.out n 2⟩); clear hm5 hg5)
      clear FW1 F1H HE2 hq1
      obtain ⟨F0, ⟨q0, m0, _⟩, f0⟩ := HE5.out.sub
      obtain ⟨A2, c2_, e2_, hl2, hC2⟩ := f0 n
      have HL2 := Aside0.mk hl2
      have HC2 := Aside0.mk hC2
      have E2 := Aside0.mk e2_
      clear hl2 hC2 f0 e2_
      refine start_ (n := 23) (S := fun w' => w'.cell? ⟨gx, 0, none⟩ = some (.map (some g0)) ∧ w'.cell? ⟨gx, 2, none⟩ = some (.map (some g2)) ∧ w'.cell? ⟨gx, 3, none⟩ = some (.map (some g3)) ∧ MapIs Try.prog 2 .i64 w' g0 q0 F0) (ds := []) #[false, false, false, false, false, false, false, false, false, false, false, false, false, false, false, false, false, false, false, false, false, false, false] (by kernel_rfl) rfl rfl ⟨(blk_cell HE5.out.exp 0).trans rfl, (blk_cell HE5.out.exp 2).trans rfl, (blk_cell HE5.out.exp 3).trans rfl, m0.drew⟩ (fun hHeld => ?_)
      have HE6 := Aside0.mk (HE5.out.step (below_drew (Below.refl _ _)))
      clear HE5 m0
      generalize w5.drew = w6 at HE6 hHeld ⊢
      refine yp 0 58 ?_
      refine yp 1 59 ?_
      refine yp 2 60 ?_
      refine yp 4 62 ?_
      refine yp 5 63 ?_
      refine yp 6 64 ?_
      refine yp 7 65 ?_
      refine yp 9 67 ?_
      refine yp 10 68 ?_
      refine yp 11 69 ?_
      refine yp 12 70 ?_
      refine yp 13 71 ?_
      refine yp 15 73 ?_
      refine take_ (i := 3) (N := some 61) (v := ?_) (a' := ?_) #[true, true, true, true, true, true, true, true, false, true, true, true, true, true, false, true, false, false, false, false, false, false, false] rfl rfl (by kernel_rfl) (fun _ _ _ h => h) (Or.inl ⟨by rfl, ?_⟩) hHeld ?_ ?_
      rotate_left
      · rintro w' ⟨s0, s2, s3, sM⟩
        go_simp
        with_reducible rfl
      rotate_left
      · simp only [Act.put, List.setIfInBounds_toArray, List.set_cons_zero, List.set_cons_succ, i64_w, i32_w]
        rfl
      refine take_ (i := 8) (N := some 66) (v := ?_) (a' := ?_) #[true, true, true, true, true, true, true, true, true, true, true, true, true, true, false, true, false, false, false, false, false, false, false] rfl rfl (by kernel_rfl) (fun _ _ _ h => h) (Or.inl ⟨by rfl, ?_⟩) hHeld ?_ ?_
      rotate_left
      · rintro w' ⟨s0, s2, s3, sM⟩
        go_simp
        with_reducible rfl
      rotate_left
      · simp only [Act.put, List.setIfInBounds_toArray, List.set_cons_zero, List.set_cons_succ, i64_w, i32_w]
        rfl
      refine take_ (i := 14) (N := some 72) (v := ?_) (a' := ?_) #[true, true, true, true, true, true, true, true, true, true, true, true, true, true, true, true, false, false, false, false, false, false, false] rfl rfl (by kernel_rfl) (fun _ _ _ h => h) (Or.inl ⟨by rfl, ?_⟩) hHeld ?_ ?_
      rotate_left
      · rintro w' ⟨s0, s2, s3, sM⟩
        go_simp
        with_reducible rfl
      rotate_left
      · simp only [Act.put, List.setIfInBounds_toArray, List.set_cons_zero, List.set_cons_succ, i64_w, i32_w]
        rfl
      refine take_ (i := 16) (N := some 74) (v := ?_) (a' := ?_) #[true, true, true, true, true, true, true, true, true, true, true, true, true, true, true, true, true, false, false, false, false, false, false] rfl rfl (by kernel_rfl) (fun _ _ _ h => h) (Or.inl ⟨by rfl, ?_⟩) hHeld ?_ ?_
      rotate_left
      · rintro w' ⟨s0, s2, s3, sM⟩
        have hl := sM.look (t := 135) Try.underlying2 Try.underlying135 (zero_rows w') (a := n) HN.out.wf
        rw [E2.out] at hl
        go_simp
        with_reducible rfl
      rotate_left
      · simp only [Act.put, List.setIfInBounds_toArray, List.set_cons_zero, List.set_cons_succ, i64_w, i32_w]
        rfl
      refine yo 17 (some 75) (fun K hK => ?_)
      refine goes_ Try.func95 (by kernel_rfl) rfl #[.pointer (some ⟨gx, 0, none⟩), .slice A2 (subs n).length c2_] (by rfl) rfl rfl (by (try simp only [List.map_toArray, List.map_cons, List.map_nil]); first | done | rfl) ?_
      refine (sum_calls kc gx g0 g1 g2 g3 g4 S2.2.1 S2.2.2 A2 c2_ (subs n) s.1 s.2 _ HE6.out.exp HE6.out.m2 HE6.out.m3 (Kd.C_below HC2.out HE6.out.below) HL2.out HS.out).mono ?_
      rintro e7 w7 ⟨rfl, hb7⟩
      refine ⟨_, rfl, ?_⟩
      have HE7 := Aside0.mk (HE6.out.step hb7)
      have mk7 := (hHeld.2.2.2).below hb7
      clear hb7 hHeld
      refine hK.out _ _ ⟨(blk_cell HE7.out.exp 0).trans rfl, (blk_cell HE7.out.exp 2).trans rfl, (blk_cell HE7.out.exp 3).trans rfl, mk7⟩ (fun hHeld => ?_)
      clear hK K mk7
      refine yn 75 ?_
      refine yp 18 57 ?_
      refine yp 19 76 ?_
      refine yp 20 77 ?_
      obtain ⟨F2, fw2, f2⟩ := HE7.out.m2
      have FW2 := Aside0.mk fw2
      have F2H := Aside0.mk f2
      clear fw2 f2
      refine yo 21 (none) (fun K hK => ?_)
      refine few_put_step (by rfl) rfl rfl Try.underlying2 Try.underlying136 FW2.out rfl n rfl HN.out.wf (by have := HN.out; unfold IN at this; omega) (by have := HN.out; unfold IN at this; omega) (.int .i64 s.1) rfl ?_
      intro w8 hm_ hg_
      have HE8 := Aside0.mk (ExpW.put2 (f := upd S2.2.1 n s.1) HE7.out hg_ ⟨_, hm_, upd_get F2H.out n s.1⟩)
      have mk8 := (hHeld.2.2.2).kept hg_ (someNe HE7.out.n02)
      clear hm_ hg_ hHeld
      refine hK.out _ _ ⟨(blk_cell HE8.out.exp 0).trans rfl, (blk_cell HE8.out.exp 2).trans rfl, (blk_cell HE8.out.exp 3).trans rfl, mk8⟩ (fun hHeld => ?_)
      clear hK K mk8
      refine norm_ (a' := ?_) ?_ ?_
      rotate_left
      · show Act.put _ none _ = _
        rfl
      obtain ⟨F3, fw3, f3⟩ := HE8.out.m3
      have FW3 := Aside0.mk fw3
      have F3H := Aside0.mk f3
      clear fw3 f3
      refine yo 22 (none) (fun K hK => ?_)
      refine few_put_step (by rfl) rfl rfl Try.underlying2 Try.underlying137 FW3.out rfl n rfl HN.out.wf (by have := HN.out; unfold IN at this; omega) (by have := HN.out; unfold IN at this; omega) (.int .i64 s.2) rfl ?_
      intro w9 hm_ hg_
      have HE9 := Aside0.mk (ExpW.put3 (f := upd S2.2.2 n s.2) HE8.out hg_ ⟨_, hm_, upd_get F3H.out n s.2⟩)
      have mk9 := (hHeld.2.2.2).kept hg_ (someNe HE8.out.n03)
      clear hm_ hg_ hHeld
      refine hK.out _ _ ⟨(blk_cell HE9.out.exp 0).trans rfl, (blk_cell HE9.out.exp 2).trans rfl, (blk_cell HE9.out.exp 3).trans rfl, mk9⟩ (fun hHeld => ?_)
      clear hK K mk9
      refine norm_ (a' := ?_) ?_ ?_
      rotate_left
      · show Act.put _ none _ = _
        rfl
      refine done_ (by kernel_rfl) ?_
      go_wp2
      go_ret
      exact ⟨rfl, HE9.out⟩
def Grow_Block.f (n : Int) : Option (List (S32)) := if 0 ≤ n ∧ n < 2932031007402 then some [] else none
set_option maxHeartbeats 1000000 in
set_option maxRecDepth 100000 in
theorem Grow_Block.calls (n : Int) (r : List (S32)) (w : World) (h : Grow_Block.f n = some r) :
    Calls Try.prog 66 #[.slice none 0 0, .int .i64 n] w fun e w' => ∃ v0_ : Value, e = .returned (v0_) ∧ Kd.N k32 32 w' w.heap.size (fun k_ => w.heap.size ≤ k_) v0_ r ∧ Below w.heap.size w w' := by
  unfold Grow_Block.f at h
  by_cases hn : 0 ≤ n ∧ n < 2932031007402
  rotate_left
  · rw [if_neg hn] at h; cases h
  rw [if_pos hn] at h
  obtain rfl := Option.some.inj h
  obtain ⟨h0, h1⟩ := hn
  have H0 := Aside0.mk h0
  have H1 := Aside0.mk h1
  have hw : wrap64 n = n := by unfold wrap64; omega
  have hw0 : wrap64 0 = 0 := by unfold wrap64; omega
  have hng : decide (n < 0) = false := by simp; omega
  clear h h0 h1
  by_cases hp : 0 < n
  · have hgt : decide (n > 0) = true := by simpa using hp
    have hgt2 : decide (0 < n) = true := by simpa using hp
    clear hp
    go_enter Try.func66, Try.ntmps66
    go_wp2_with ((with_reducible refine gate_builtin (b := .append) (xs := #[.tmp 20, .tmp 21]) rfl ?_); at_builtin; refine Kd.N_append_zeros k32 (w0 := w) w.heap.size rfl (.tmp 20) (.tmp 21) 35 3 32 (.agg #[(.bool false), (.slice none 0 0), (.string ⟨#[]⟩)]) 48 rfl Try.underlying35 Try.underlying3 info32 rfl (by decide) (by omega) (.slice none 0 0) [] z32 n (fun k_ => w.heap.size ≤ k_) rfl (by first | rfl | exact congrArg (Value.int .i64) hw) (k32_mkF _ _ z32 (Nat.le_refl _) (fun W' _ => ⟨rfl, by simp [z32], fun hlt => by simp [z32] at hlt⟩)) (fun _ hk => hk) (Kd.N_nil _ _ _ _ _) H0.out (Below.refl _ _) (Nat.le_refl _) (by have := H1.out; have := H0.out; simp only [List.length_nil]; omega) ?_; intro v22 w1 ho hb hg hat; obtain ⟨A, c, rfl⟩ := Kd.N_slice ho; have HO := Aside0.mk ho; have HB := Aside0.mk hb; have HL := Aside0.mk (Kd.N_reads' ho).2.1; clear ho hb hg hat; have hq : (([] : List S32) ++ List.replicate n.toNat z32).length = n.toNat := by simp)
    go_ret
    exact ⟨_, rfl, by have := Kd.N_take (m := 0) HO.out (Nat.zero_le _); simpa using this, HB.out⟩
  have hgt : decide (n > 0) = false := by simpa using hp
  have hgt2 : decide (0 < n) = false := by simpa using hp
  clear hp
  go_enter Try.func66, Try.ntmps66
  go_wp2
  go_ret
  exact ⟨_, rfl, Kd.N_nil _ _ _ _ _, Below.refl _ _⟩
end Go.Proofs.Ytehkhbnhmehobaa.P
namespace Go.Proofs.Ytehkhbnhmehobaa.P
open Go.RowKit Go.Proofs.YtehkhbnhmehobaaW.PrintWords Go.Proofs.YtehkhbnhmehobaaW.PrintLast Go.Proofs.YtehkhbnhmehobaaW.PrintMore
attribute [local go_sem] max2_int min2_int max_two min_two max_three min_three max_four min_four
set_option linter.unusedVariables false
set_option linter.unusedSimpArgs false
mutual
def Concat_Block.l0 : Nat → List (List (S32)) → Int → List (List (S32)) → Int → Int → Option ((List (S32)))
 | 0, _, _, _, _, _ => none
 | k + 1, x0, x3, x9, x10, x11 => if x11 < x10 then (if 0 ≤ x11 then (if x11 < (x9.length : Int) then (if (wrap64 (x3 + ((rd_L7 x9 x11).length : Int))) < 0 then (none) else (Concat_Block.l0 k x0 (wrap64 (x3 + ((rd_L7 x9 x11).length : Int))) x9 x10 (wrap64 (x11 + 1)))) else (none)) else (none)) else ((Grow_Block.f x3).bind fun t373 => (Concat_Block.l1 k t373 x0 (x0.length : Int) 0))
def Concat_Block.l1 : Nat → List (S32) → List (List (S32)) → Int → Int → Option ((List (S32)))
 | 0, _, _, _, _ => none
 | k + 1, x6, x25, x26, x27 => if x27 < x26 then (if 0 ≤ x27 then (if x27 < (x25.length : Int) then (if x6.length + (rd_L7 x25 x27).length < 2932031007402 then (Concat_Block.l1 k (x6 ++ (rd_L7 x25 x27)) x25 x26 (wrap64 (x27 + 1))) else (none)) else (none)) else (none)) else (some x6)
end
def Concat_Block.f (k : Nat) (l0 : List (List (S32))) : Option ((List (S32))) := Concat_Block.l0 k l0 0 l0 (l0.length : Int) 0
set_option maxHeartbeats 8000000 in
set_option maxRecDepth 100000 in
theorem Concat_Block.calls (k : Nat) (P0_ : Nat → Prop) (A0 : Option Addr) (c0 : Nat) (l0 : List (List (S32))) (r : List (S32)) (w : World) (hs0 : Kd.V (Kd.slice 32 k32) 35 w w.heap.size (fun k_ => P0_ k_) (.slice A0 l0.length c0) l0) (h : Concat_Block.f k l0 = some r) :
  Calls Try.prog 31 #[.slice A0 l0.length c0] w fun e w' => ∃ v0_ : Value, e = .returned (v0_) ∧ Kd.N k32 32 w' w.heap.size (fun k_ => (P0_ k_ ∨ w.heap.size ≤ k_)) v0_ r ∧ Below w.heap.size w w' := by
 have HO0 := Aside0.mk (show Kd.V (Kd.slice 32 k32) 35 w w.heap.size (fun k_ => (P0_ k_ ∨ w.heap.size ≤ k_)) (.slice A0 l0.length c0) l0 from Kd.V_mono hs0 (fun k_ hk => .inl hk))
 have HB := Aside0.mk (Below.refl w.heap.size w)
 have H : (Concat_Block.l0 k l0 0 l0 (l0.length : Int) 0) = some r := h
 clear h
 have H' := Aside0.mk H
 clear H
 go_enter Try.func31, Try.ntmps31
 go_wp2
 go_loopg [3, 11] k (fun kq v3 v11 w' => ∃ (x3_1 : Int) (x11_1 : Int), v3 = .int .i64 x3_1 ∧ v11 = .int .i64 x11_1 ∧ Aside0 (Concat_Block.l0 kq l0 x3_1 l0 (l0.length : Int) x11_1 = some r) ∧ Aside0 (kq ≤ k) ∧ Aside0 (Kd.V (Kd.slice 32 k32) 35 w' w.heap.size (fun k_ => (P0_ k_ ∨ w.heap.size ≤ k_)) (.slice A0 l0.length c0) l0) ∧ Aside0 (Kd.V (Kd.slice 32 k32) 35 w' w.heap.size (fun k_ => (P0_ k_ ∨ w.heap.size ≤ k_)) (.slice A0 l0.length c0) l0) ∧ Aside0 (Below w.heap.size w w'))
 case atStart => exact ⟨(0), (0), yS, yS, H', ⟨Nat.le_refl _⟩, ⟨by refine yV ?_; exact HO0.out⟩, ⟨by refine yV ?_; exact HO0.out⟩, ⟨yB⟩⟩
 case round =>
  clear H'
  obtain ⟨x3_1, x11_1, rfl, rfl, HA, HK1, HO_0, HO_9, HB⟩ := hrel
  cases gk with
  | zero => exact absurd HA.out (by simp [Concat_Block.l0])
  | succ k1 =>
   have H := HA.out
   clear HA
   simp only [Concat_Block.l0] at H
   by_cases c2 : x11_1 < (l0.length : Int)
   ·rw [if_pos c2] at H
    have c2b0 := decide_eq_true c2
    clear c2
    by_cases c3 : 0 ≤ x11_1
    ·rw [if_pos c3] at H
     have c3b0 := decide_eq_true c3
     clear c3
     by_cases c4 : x11_1 < (l0.length : Int)
     ·rw [if_pos c4] at H
      have c4b0 := decide_eq_true c4
      clear c4
      by_cases c5 : (wrap64 (x3_1 + ((rd_L7 l0 x11_1).length : Int))) < 0
      ·rw [if_pos c5] at H
       exact absurd H (by simp)
      rw [if_neg c5] at H
      have c5b0 := decide_eq_false c5
      clear c5
      have H' := Aside0.mk H
      clear H
      have p372 : 0 ≤ (x11_1 : Int) := yD
      have q372 : x11_1 < (l0.length : Int) := yD
      obtain ⟨ad372, A372_0, c372_0, e372, hx372_0, hl372_0, hi372_0⟩ := at_L7 (Kd.V_reads' HO_9.out).2.2 x11_1 p372 q372
      cases e372
      obtain ⟨ce372, hce372, hMe372, hcc372⟩ := Kd.V_get HO_9.out [] x11_1 p372 (by first | exact q372 | exact yD | (have e_ := (Kd.V_reads' HO_9.out).1; omega))
      obtain ⟨ua372_0, uc372_0, rfl, ul372_0, ge372_0⟩ := Kd.FK_slice_open hMe372
      have hv372_0 := hcc372 0 _ rfl
      rw [Nat.add_zero, show ((Kd.slice 32 k32)).sz = 1 from rfl, Nat.mul_one] at hv372_0
      replace hv372_0 := Option.some.inj (hv372_0.symm.trans hx372_0)
      injection hv372_0 with hva_ hvn_ hvc_
      rw [hva_] at ge372_0
      rw [hvc_] at ul372_0
      have HL372_0 := Aside0.mk (show Kd.V k32 32 _ w.heap.size _ _ (rd_L7 l0 x11_1) from Kd.V_mk ul372_0 ge372_0)
      clear hva_ hvn_ hvc_ ge372_0 ul372_0
      clear hcc372 hce372
      have HR372_0 := Aside0.mk hi372_0
      have HC372_0 := Aside0.mk hl372_0
      clear hi372_0 hl372_0
      replace p372 := eq_true p372
      replace q372 := eq_true q372
      go_wp2
      go_roundg k1
      case measure => have := HK1.out; omega
      case rel => exact ⟨(wrap64 (x3_1 + ((rd_L7 l0 x11_1).length : Int))), (wrap64 (x11_1 + 1)), yS, yS, H', ⟨by have := HK1.out; omega⟩, ⟨by refine yV ?_; exact HO_0.out⟩, ⟨by refine yV ?_; exact HO_9.out⟩, ⟨yB⟩⟩
     rw [if_neg c4] at H
     exact absurd H (by simp)
    rw [if_neg c3] at H
    exact absurd H (by simp)
   rw [if_neg c2] at H
   have c2b0 := decide_eq_false c2
   clear c2
   replace H := Option.bind_eq_some_iff.mp H
   obtain ⟨t373, A60, H⟩ := H
   have A6 := Aside0.mk A60
   clear A60
   have H' := Aside0.mk H
   clear H
   go_wp2_with (first | ((with_reducible refine gate_callee (f := 66) rfl ?_); refine goesL_ (some 24) rfl rfl Try.func66 (by kernel_rfl) rfl #[.slice none 0 0, .int .i64 x3_1] rfl yQ ?_; (with_reducible refine (Grow_Block.calls x3_1 t373 _ A6.out).mono ?_); rintro e w7 ⟨v374, rfl, ho0, hb⟩; refine ⟨_, rfl, ?_⟩; replace HO_0 := Aside0.mk (Kd.V_elder' (yV HO_0.out) (by first | exact Kd.N_base ho0 | exact Kd.S_base ho0) hb); replace HO_9 := Aside0.mk (Kd.V_elder' (yV HO_9.out) (by first | exact Kd.N_base ho0 | exact Kd.S_base ho0) hb); have HO375 := Aside0.mk (Kd.N_lower (Kd.N_mono (ok' := fun k_ => (P0_ k_ ∨ w.heap.size ≤ k_)) ho0 (fun k_ hk_ => (.inr (Nat.le_trans (below_size yB) hk_)))) (below_size yB)); replace HB := Aside0.mk (below_step yB hb); (try clear hb); (try clear ho0)))
   go_loopg [6, 27] k1 (fun kq v6 v27 w' => ∃ (x6_2 : List (S32)) (x27_2 : Int), v27 = .int .i64 x27_2 ∧ Aside0 (Concat_Block.l1 kq x6_2 l0 (l0.length : Int) x27_2 = some r) ∧ Aside0 (kq ≤ k1) ∧ Aside0 (Kd.N k32 32 w' w.heap.size (fun k_ => (P0_ k_ ∨ w.heap.size ≤ k_)) v6 x6_2) ∧ Aside0 (Kd.V (Kd.slice 32 k32) 35 w' w.heap.size (fun k_ => (P0_ k_ ∨ w.heap.size ≤ k_) ∧ some k_ ≠ (v6 : Value).ownBlock) (.slice A0 l0.length c0) l0) ∧ Aside0 (Below w.heap.size w w'))
   case atStart => exact ⟨(t373), (0), yS, H', ⟨Nat.le_refl _⟩, ⟨by refine yN ?_; exact HO375.out⟩, ⟨by refine yV ?_; exact HO_0.out⟩, ⟨yB⟩⟩
   case round =>
    clear H'
    try clear c2
    try clear c2b0
    try clear p2
    try clear c3
    try clear c3b0
    try clear p3
    try clear q3
    try clear hx3
    try clear c4
    try clear c4b0
    try clear c5
    try clear c5b0
    try clear c6
    try clear p6
    try clear hx372_0
    try clear p372
    try clear q372
    obtain ⟨x6_2, x27_2, rfl, HA, HK2, HO_6, HO_25, HB⟩ := hrel
    cases gk with
    | zero => exact absurd HA.out (by simp [Concat_Block.l1])
    | succ k2 =>
     have H := HA.out
     clear HA
     simp only [Concat_Block.l1] at H
     by_cases c8 : x27_2 < (l0.length : Int)
     ·rw [if_pos c8] at H
      have c8b0 := decide_eq_true c8
      clear c8
      by_cases c9 : 0 ≤ x27_2
      ·rw [if_pos c9] at H
       have c9b0 := decide_eq_true c9
       clear c9
       by_cases c10 : x27_2 < (l0.length : Int)
       ·rw [if_pos c10] at H
        have c10b0 := decide_eq_true c10
        clear c10
        by_cases c11 : x6_2.length + (rd_L7 l0 x27_2).length < 2932031007402
        ·rw [if_pos c11] at H
         have LMc11 := Aside0.mk c11
         clear c11
         obtain ⟨y377, hy377⟩ : ∃ y_ : List (S32), y_ = (x6_2 ++ (rd_L7 l0 x27_2)) := ⟨_, rfl⟩
         replace H : (Concat_Block.l1 k2 y377 l0 (l0.length : Int) (wrap64 (x27_2 + 1))) = some r := by first | (rw [hy377]; with_reducible exact H) | (have H2_ := (Option.bind_some _ _).symm.trans H; rw [hy377]; with_reducible exact H2_) | (have H2_ := (Option.bind_some _ _).symm.trans H; with_reducible exact H2_) | with_reducible exact H | (rw [hy377]; exact H) | exact H
         have Ny377 := Aside0.mk hy377
         clear hy377
         have H' := Aside0.mk H
         clear H
         have p376 : 0 ≤ (x27_2 : Int) := yD
         have q376 : x27_2 < (l0.length : Int) := yD
         obtain ⟨ad376, A376_0, c376_0, e376, hx376_0, hl376_0, hi376_0⟩ := at_L7 (Kd.V_reads' HO_25.out).2.2 x27_2 p376 q376
         cases e376
         obtain ⟨ce376, hce376, hMe376, hcc376⟩ := Kd.V_get HO_25.out [] x27_2 p376 (by first | exact q376 | exact yD | (have e_ := (Kd.V_reads' HO_25.out).1; omega))
         obtain ⟨ua376_0, uc376_0, rfl, ul376_0, ge376_0⟩ := Kd.FK_slice_open hMe376
         have hv376_0 := hcc376 0 _ rfl
         rw [Nat.add_zero, show ((Kd.slice 32 k32)).sz = 1 from rfl, Nat.mul_one] at hv376_0
         replace hv376_0 := Option.some.inj (hv376_0.symm.trans hx376_0)
         injection hv376_0 with hva_ hvn_ hvc_
         rw [hva_] at ge376_0
         rw [hvc_] at ul376_0
         have HL376_0 := Aside0.mk (show Kd.V k32 32 _ w.heap.size _ _ (rd_L7 l0 x27_2) from Kd.V_mk ul376_0 ge376_0)
         clear hva_ hvn_ hvc_ ge376_0 ul376_0
         clear hcc376 hce376
         have HR376_0 := Aside0.mk hi376_0
         have HC376_0 := Aside0.mk hl376_0
         clear hi376_0 hl376_0
         replace p376 := eq_true p376
         replace q376 := eq_true q376
         go_wp2_with (first | ((with_reducible refine gate_builtin (b := .append) (xs := #[.tmp 31, .tmp 32]) rfl ?_); at_builtin; refine Kd.N_append_rows k32 (w0 := w) w.heap.size rfl (.tmp 31) (.tmp 32) 35 32 (.agg #[(.bool false), (.slice none 0 0), (.string ⟨#[]⟩)]) 48 rfl Try.underlying35 info32 rfl (by decide) (by omega) u6 x6_2 (rd_L7 l0 x27_2) _ _ _ (fun k_ => (P0_ k_ ∨ w.heap.size ≤ k_)) (fun k_ => ((fun k_ => (P0_ k_ ∨ w.heap.size ≤ k_))) k_ ∧ some k_ ≠ (u6 : Value).ownBlock) rfl rfl ?aO ?aR (fun _ hk => hk) ?aF ?aB ?aS ?aL ?_; (case aR => exact (by skip; exact Kd.V_F (Kd.V_mono (ok' := (fun k_ => ((fun k_ => (P0_ k_ ∨ w.heap.size ≤ k_))) k_ ∧ some k_ ≠ (u6 : Value).ownBlock)) (HL376_0.out) (fun k_ hk => ⟨hk.1, hk.2⟩)))); (case aB => exact yB); (case aF => exact (fun k_ hk => (.inr (Nat.le_trans (below_size yB) hk)))); (case aO => exact (yN HO_6.out)); (case aS => exact (below_size yB)); (case aL => have := LMc11.out; omega); intro v378 w12 ho hb hg hat; rw [← Ny377.out] at ho; have n0_ := Aside0.mk (Kd.V_afterv (ok := (fun k_ => (P0_ k_ ∨ w.heap.size ≤ k_))) (yV HO_25.out) hg hat); have n1_ := Aside0.mk (Kd.V_afterv (ok := (fun k_ => (P0_ k_ ∨ w.heap.size ≤ k_))) (yV HL376_0.out) hg hat); have n2_ := Aside0.mk (hb); have n3_ := Aside0.mk (ho); clear HO_25; clear HL376_0; clear HB; clear HO_6; have HO_25 := n0_; have HL376_0 := n1_; have HB := n2_; have HO379 := n3_; clear n0_ n1_ n2_ n3_; clear ho hb hg hat))
         go_roundg k2
         case measure => have := HK1.out; have := HK2.out; omega
         case rel => exact ⟨(y377), (wrap64 (x27_2 + 1)), yS, H', ⟨by have := HK1.out; have := HK2.out; omega⟩, ⟨by refine yN ?_; exact HO379.out⟩, ⟨by refine yV ?_; exact HO_25.out⟩, ⟨yB⟩⟩
        rw [if_neg c11] at H
        exact absurd H (by simp)
       rw [if_neg c10] at H
       exact absurd H (by simp)
      rw [if_neg c9] at H
      exact absurd H (by simp)
     rw [if_neg c8] at H
     have c8b0 := decide_eq_false c8
     clear c8
     obtain rfl := Option.some.inj H
     go_wp2
     go_ret
     exact ⟨_, yE, by refine yN ?_; exact HO_6.out, yB⟩
def subprogram_proper.l0 : Nat → List (S81) → Int → Int → List (S32) → List (S81) → Option (Bool)
 | 0, _, _, _, _, _ => none
 | k + 1, x6, x7, x8, x394000, x394001 => if x8 < x7 then (if 0 ≤ x8 then (if x8 < (x6.length : Int) then (if ((rd_T81 x6 x8).f0) < 1 then (some false) else (if ((rd_T81 x6 x8).f0) > 9999 then (some false) else (subprogram_proper.l0 k x6 x7 (wrap64 (x8 + 1)) x394000 x394001))) else (none)) else (none)) else ((subprogram_ordered.f k x394000 x394001).bind fun t396 => (if t396 = true then ((subprogram_repeated.f x394001).bind fun t397 => (some (!t397))) else (some false)))
def subprogram_proper.f (k : Nat) (l0_0 : List (S32)) (l0_1 : List (S81)) : Option (Bool) := subprogram_proper.l0 k l0_1 (l0_1.length : Int) 0 l0_0 l0_1
set_option maxHeartbeats 8000000 in
set_option maxRecDepth 100000 in
theorem subprogram_proper.calls (k : Nat) (A0_0 : Option Addr) (c0_0 : Nat) (l0_0 : List (S32)) (A0_1 : Option Addr) (c0_1 : Nat) (l0_1 : List (S81)) (r : Bool) (w : World) (hr0_0 : Kd.C k32 w A0_0 l0_0.length l0_0) (hc0_0 : l0_0.length ≤ c0_0) (hr0_1 : Kd.C k81 w A0_1 l0_1.length l0_1) (hc0_1 : l0_1.length ≤ c0_1) (h : subprogram_proper.f k l0_0 l0_1 = some r) :
  Calls Try.prog 110 #[.agg #[.slice A0_0 l0_0.length c0_0, .slice A0_1 l0_1.length c0_1]] w fun e w' => e = .returned (.bool r) ∧ Below w.heap.size w w' := by
 have hu54 := Try.underlying54
 have hu81 := Try.underlying81
 have HR0_0 := Aside0.mk hr0_0
 have HC0_0 := Aside0.mk hc0_0
 clear hr0_0 hc0_0
 have HR0_1 := Aside0.mk hr0_1
 have HC0_1 := Aside0.mk hc0_1
 clear hr0_1 hc0_1
 have HB := Aside0.mk (Below.refl w.heap.size w)
 have H : (subprogram_proper.l0 k l0_1 (l0_1.length : Int) 0 l0_0 l0_1) = some r := h
 clear h
 have H' := Aside0.mk H
 clear H
 go_enter Try.func110, Try.ntmps110
 go_wp2_with (first | ((with_reducible refine gate_dst (N := 1) rfl ?_); refine yX 1 #[.slice A0_0 l0_0.length c0_0, .slice A0_1 l0_1.length c0_1] 54 ?_; intro gb393 hg w2 hbox hb; have BK393 := Aside0.mk (hbox); have GE393 := Aside0.mk ((yG hg : w.heap.size ≤ gb393)); replace HB := Aside0.mk (below_step yB hb); clear hb hbox hg; have hcz3_0 := yZ0 BK393.out; have hcz3_1 := yZ1 BK393.out; have hfz3_0 := blk_frozen BK393.out 0; have hfz3_1 := blk_frozen BK393.out 1))
 go_loopg [8] k (fun kq v8 w' => ∃ (x8_1 : Int), v8 = .int .i64 x8_1 ∧ Aside0 (subprogram_proper.l0 kq l0_1 (l0_1.length : Int) x8_1 l0_0 l0_1 = some r) ∧ Aside0 (kq ≤ k) ∧ Aside0 (w'.heap[gb393]? = some (.cells #[(.slice A0_0 l0_0.length c0_0), (.slice A0_1 l0_1.length c0_1)] 54 (0, 0))) ∧ Aside0 (Below w.heap.size w w'))
 case atStart => exact ⟨(0), yS, H', ⟨Nat.le_refl _⟩, ⟨by refine yH ?_; exact BK393.out⟩, ⟨yB⟩⟩
 case round =>
  clear H'
  try clear c1
  try clear p2
  try clear hcz3_0
  try clear hcz3_1
  try clear hfz3_0
  try clear hfz3_1
  obtain ⟨x8_1, rfl, HA, HK1, BK393, HB⟩ := hrel
  cases gk with
  | zero => exact absurd HA.out (by simp [subprogram_proper.l0])
  | succ k1 =>
   have H := HA.out
   clear HA
   simp only [subprogram_proper.l0] at H
   by_cases c4 : x8_1 < (l0_1.length : Int)
   ·rw [if_pos c4] at H
    have c4b0 := decide_eq_true c4
    clear c4
    by_cases c5 : 0 ≤ x8_1
    ·rw [if_pos c5] at H
     have c5b0 := decide_eq_true c5
     clear c5
     by_cases c6 : x8_1 < (l0_1.length : Int)
     ·rw [if_pos c6] at H
      have c6b0 := decide_eq_true c6
      clear c6
      by_cases c7 : ((rd_T81 l0_1 x8_1).f0) < 1
      ·rw [if_pos c7] at H
       have c7b0 := decide_eq_true c7
       clear c7
       obtain rfl := Option.some.inj H
       have p394 : 0 ≤ (x8_1 : Int) := yD
       have q394 : x8_1 < (l0_1.length : Int) := yD
       obtain ⟨ad394, A394_1, c394_1, e394, hx394_0, hx394_1, hl394_1, hi394_1⟩ := at_T81 HR0_1.out x8_1 p394 q394
       cases e394
       replace hx394_0 := yM HB.out hx394_0
       replace hx394_1 := yM HB.out hx394_1
       have HR394_1 := Aside0.mk hi394_1
       have HC394_1 := Aside0.mk hl394_1
       clear hi394_1 hl394_1
       replace p394 := eq_true p394
       replace q394 := eq_true q394
       go_wp2_with (first | ((with_reducible refine gate_dst (N := 4) rfl ?_); refine yX 4 #[.int .i64 0, .slice none 0 0] 81 ?_; intro gb395 hg w8 hbox hb; have BK395 := Aside0.mk (hbox); have GW395 := Aside0.mk ((yG hg : w.heap.size ≤ gb395)); have GE395 := Aside0.mk ((yG hg : w.heap.size ≤ gb395)); replace HB := Aside0.mk (below_step yB hb); have NB393_395 := Aside0.mk ((yJ hg yK : gb393 ≠ gb395)); have NB395_393 := Aside0.mk ((yI hg yK : gb395 ≠ gb393)); replace BK393 := Aside0.mk (blk_below (g := gb393) yK hb); clear hb hbox hg; have hnb9 := NB395_393.out; have hnc9 := NB393_395.out; have hcz10_0 := yZ0 BK395.out; have hcz10_1 := yZ1 BK395.out; have hfz10_0 := blk_frozen BK395.out 0; have hfz10_1 := blk_frozen BK395.out 1))
       go_ret
       exact ⟨yE, yB⟩
      rw [if_neg c7] at H
      have c7b0 := decide_eq_false c7
      clear c7
      by_cases c11 : ((rd_T81 l0_1 x8_1).f0) > 9999
      ·rw [if_pos c11] at H
       have c11b0 := decide_eq_true c11
       clear c11
       obtain rfl := Option.some.inj H
       have p394 : 0 ≤ (x8_1 : Int) := yD
       have q394 : x8_1 < (l0_1.length : Int) := yD
       obtain ⟨ad394, A394_1, c394_1, e394, hx394_0, hx394_1, hl394_1, hi394_1⟩ := at_T81 HR0_1.out x8_1 p394 q394
       cases e394
       replace hx394_0 := yM HB.out hx394_0
       replace hx394_1 := yM HB.out hx394_1
       have HR394_1 := Aside0.mk hi394_1
       have HC394_1 := Aside0.mk hl394_1
       clear hi394_1 hl394_1
       replace p394 := eq_true p394
       replace q394 := eq_true q394
       go_wp2_with (first | ((with_reducible refine gate_dst (N := 4) rfl ?_); refine yX 4 #[.int .i64 0, .slice none 0 0] 81 ?_; intro gb395 hg w12 hbox hb; have BK395 := Aside0.mk (hbox); have GW395 := Aside0.mk ((yG hg : w.heap.size ≤ gb395)); have GE395 := Aside0.mk ((yG hg : w.heap.size ≤ gb395)); replace HB := Aside0.mk (below_step yB hb); have NB393_395 := Aside0.mk ((yJ hg yK : gb393 ≠ gb395)); have NB395_393 := Aside0.mk ((yI hg yK : gb395 ≠ gb393)); replace BK393 := Aside0.mk (blk_below (g := gb393) yK hb); clear hb hbox hg; have hnb13 := NB395_393.out; have hnc13 := NB393_395.out; have hcz14_0 := yZ0 BK395.out; have hcz14_1 := yZ1 BK395.out; have hfz14_0 := blk_frozen BK395.out 0; have hfz14_1 := blk_frozen BK395.out 1))
       go_ret
       exact ⟨yE, yB⟩
      rw [if_neg c11] at H
      have c11b0 := decide_eq_false c11
      clear c11
      have H' := Aside0.mk H
      clear H
      have p394 : 0 ≤ (x8_1 : Int) := yD
      have q394 : x8_1 < (l0_1.length : Int) := yD
      obtain ⟨ad394, A394_1, c394_1, e394, hx394_0, hx394_1, hl394_1, hi394_1⟩ := at_T81 HR0_1.out x8_1 p394 q394
      cases e394
      replace hx394_0 := yM HB.out hx394_0
      replace hx394_1 := yM HB.out hx394_1
      have HR394_1 := Aside0.mk hi394_1
      have HC394_1 := Aside0.mk hl394_1
      clear hi394_1 hl394_1
      replace p394 := eq_true p394
      replace q394 := eq_true q394
      go_wp2_with (first | ((with_reducible refine gate_dst (N := 4) rfl ?_); refine yX 4 #[.int .i64 0, .slice none 0 0] 81 ?_; intro gb395 hg w15 hbox hb; have BK395 := Aside0.mk (hbox); have GW395 := Aside0.mk ((yG hg : w.heap.size ≤ gb395)); have GE395 := Aside0.mk ((yG hg : w.heap.size ≤ gb395)); replace HB := Aside0.mk (below_step yB hb); have NB393_395 := Aside0.mk ((yJ hg yK : gb393 ≠ gb395)); have NB395_393 := Aside0.mk ((yI hg yK : gb395 ≠ gb393)); replace BK393 := Aside0.mk (blk_below (g := gb393) yK hb); clear hb hbox hg; have hnb16 := NB395_393.out; have hnc16 := NB393_395.out; have hcz17_0 := yZ0 BK395.out; have hcz17_1 := yZ1 BK395.out; have hfz17_0 := blk_frozen BK395.out 0; have hfz17_1 := blk_frozen BK395.out 1))
      go_roundg k1
      case measure => have := HK1.out; omega
      case rel => exact ⟨(wrap64 (x8_1 + 1)), yS, H', ⟨by have := HK1.out; omega⟩, ⟨by refine yH ?_; refine blk_far ?_ NB393_395.out _; refine yH ?_; refine blk_far ?_ NB393_395.out _; refine yH ?_; exact BK393.out⟩, ⟨yB⟩⟩
     rw [if_neg c6] at H
     exact absurd H (by simp)
    rw [if_neg c5] at H
    exact absurd H (by simp)
   rw [if_neg c4] at H
   have c4b0 := decide_eq_false c4
   clear c4
   replace H := Option.bind_eq_some_iff.mp H
   obtain ⟨t396, A180, H⟩ := H
   have A18 := Aside0.mk A180
   clear A180
   by_cases c19 : t396 = true
   ·subst c19
    rw [if_pos rfl] at H
    replace H := Option.bind_eq_some_iff.mp H
    obtain ⟨t397, A200, H⟩ := H
    have A20 := Aside0.mk A200
    clear A200
    obtain rfl := Option.some.inj H
    have hcz21_0 := yZ0 BK393.out
    have hcz21_1 := yZ1 BK393.out
    have hfz21_0 := blk_frozen BK393.out 0
    have hfz21_1 := blk_frozen BK393.out 1
    go_wp2_with (first | ((with_reducible refine gate_callee (f := 79) rfl ?_); refine goesL_ (some 22) rfl rfl Try.func79 (by kernel_rfl) rfl #[.agg #[.slice A0_0 l0_0.length c0_0, .slice A0_1 l0_1.length c0_1]] rfl yQ ?_; (with_reducible refine (subprogram_ordered.calls k1 _ _ l0_0 _ _ l0_1 true _ ?side1 ?side2 ?side3 ?side4 A18.out).mono ?_); (case side1 => exact yC HR0_0.out); (case side2 => exact HC0_0.out); (case side3 => exact yC HR0_1.out); (case side4 => exact HC0_1.out); rintro e w22 ⟨rfl, hb⟩; refine ⟨_, rfl, ?_⟩; replace BK393 := Aside0.mk (blk_below (g := gb393) yK hb); replace HB := Aside0.mk (below_step yB hb); (try clear hb); have hcz23_0 := yZ0 BK393.out; have hcz23_1 := yZ1 BK393.out; have hfz23_0 := blk_frozen BK393.out 0; have hfz23_1 := blk_frozen BK393.out 1) | (go_at_call 80; (with_reducible refine (subprogram_repeated.calls _ _ l0_1 t397 _ ?side1 ?side2 A20.out).mono ?_); (case side1 => exact yC HR0_1.out); (case side2 => exact HC0_1.out); rintro e w24 ⟨rfl, hb⟩; replace BK393 := Aside0.mk (blk_below (g := gb393) yK hb); replace HB := Aside0.mk (below_step yB hb); (try clear hb)))
    go_ret
    exact ⟨yE, yB⟩
   replace c19 := Bool.eq_false_iff.mpr c19
   subst c19
   replace H : (some false) = some r := by rw [if_neg (show ¬ (false = true) by decide)] at H; exact H
   obtain rfl := Option.some.inj H
   have hcz25_0 := yZ0 BK393.out
   have hcz25_1 := yZ1 BK393.out
   have hfz25_0 := blk_frozen BK393.out 0
   have hfz25_1 := blk_frozen BK393.out 1
   go_wp2_with (first | ((with_reducible refine gate_callee (f := 79) rfl ?_); refine goesL_ (some 22) rfl rfl Try.func79 (by kernel_rfl) rfl #[.agg #[.slice A0_0 l0_0.length c0_0, .slice A0_1 l0_1.length c0_1]] rfl yQ ?_; (with_reducible refine (subprogram_ordered.calls k1 _ _ l0_0 _ _ l0_1 false _ ?side1 ?side2 ?side3 ?side4 A18.out).mono ?_); (case side1 => exact yC HR0_0.out); (case side2 => exact HC0_0.out); (case side3 => exact yC HR0_1.out); (case side4 => exact HC0_1.out); rintro e w26 ⟨rfl, hb⟩; refine ⟨_, rfl, ?_⟩; replace BK393 := Aside0.mk (blk_below (g := gb393) yK hb); replace HB := Aside0.mk (below_step yB hb); (try clear hb)))
   go_ret
   exact ⟨yE, yB⟩
end Go.Proofs.Ytehkhbnhmehobaa.P
namespace Go.Proofs.Ytehkhbnhmehobaa.P
open Go.RowKit Go.Proofs.YtehkhbnhmehobaaW.PrintWords Go.Proofs.YtehkhbnhmehobaaW.PrintLast Go.Proofs.YtehkhbnhmehobaaW.PrintMore
set_option linter.unusedVariables false
set_option linter.unusedSimpArgs false
def SubMapO (w0 W : World) (g : Nat) (sb : Int → Option (List S32)) : Prop := ∃ F, MapFew Try.prog 2 .i64 W g F ∧ ∀ y, (F y).isSome = (sb y).isSome ∧ ∃ A c, (F y).getD (.slice none 0 0) = .slice A ((sb y).getD []).length c ∧ ((sb y).getD []).length ≤ c ∧ Kd.C k32 w0 A ((sb y).getD []).length ((sb y).getD [])
theorem SubMapO.sub {w0 W : World} {g : Nat} {sb : Int → Option (List S32)} (h : SubMapO w0 W g sb) : SubMap w0 W g (fun y => (sb y).getD []) := by
  obtain ⟨F, hm, hf⟩ := h
  exact ⟨F, hm, fun y => (hf y).2⟩
def subsO : List S81 → (Int → Option (List S32)) → Int → Option (List S32)
  | [], M => M
  | x :: l, M => subsO l (fun y => if y = x.f0 then some x.f1 else M y)
def foundL (k : Nat) : List S32 → List Int → Option (List Int × Int)
  | [], acc => some (acc, 0)
  | b :: l, acc => (callF k b).bind fun r => if r.2.2.2 = 0 then (if r.2.2.1 = true then (if IN r.1 ∧ acc.length < 1000000 then foundL k l (acc ++ [r.1]) else none) else foundL k l acc) else some (acc, r.2.2.2)
def haveL (sb : Int → Option (List S32)) (l : List Int) : Bool := l.all (fun n => (sb n).isSome)
def measAll (subs : Int → List S32) (k : Nat) : List S81 → St3 → Option (Bool × St3)
  | [], S => some (true, S)
  | x :: l, S => if IN x.f0 then (measF subs k k x.f0 S).bind fun m => if m.1 = true then measAll subs k l m.2 else some (false, m.2) else none
def newF (k : Nat) (mainB : List S32) (subsB : List S81) : Option (Int × (Int → Option (List S32)) × St3) :=
  (subprogram_proper.f k mainB subsB).bind fun p => if p = true then (if (subsB.all (fun x => decide (IN x.f0)) && decide (subsB.length < 1000000)) = true then
    (Concat_Block.f k (mainB :: subsB.map (fun x => x.f1))).bind fun al => (foundL k al []).bind fun fo => if fo.2 = 0 then
      (if haveL (subsO subsB (fun _ => none)) fo.1 = true then (measAll (fun y => ((subsO subsB (fun _ => none)) y).getD []) k subsB (fun _ => 0, fun _ => 0, fun _ => 0)).bind fun m =>
        if m.1 = true then some (0, subsO subsB (fun _ => none), m.2) else some (12, subsO subsB (fun _ => none), m.2)
      else some (4, fun _ => none, (fun _ => 0, fun _ => 0, fun _ => 0)))
    else some (fo.2, fun _ => none, (fun _ => 0, fun _ => 0, fun _ => 0))
  else none) else some (1, fun _ => none, (fun _ => 0, fun _ => 0, fun _ => 0))
abbrev Done := Int → Option (List S32)
def updD (D : Done) (n : Int) (x : List S32) : Done := fun y => if y = n then some x else D y
def rep (t : Int) (x : List S32) : List S32 := (List.replicate t.toNat x).flatten
def expL (kc : Nat) (rec_ : List S32 → Done → Option (List S32 × Done)) (subs : Int → List S32) : List S32 → List S32 → Done → Option (List S32 × Done)
  | [], out, D => some (out, D)
  | b :: l, out, D => (callF kc b).bind fun r => if r.2.2.1 = true then (if IN r.1 then (if IN r.2.1 then
      (match D r.1 with | some x => some (x, D) | none => (rec_ (subs r.1) D).map fun (p : List S32 × Done) => (p.1, updD p.2 r.1 p.1)).bind fun q =>
        if q.1.length = 0 then expL kc rec_ subs l out q.2 else if out.length + r.2.1.toNat * q.1.length ≤ 100000 then expL kc rec_ subs l (out ++ rep r.2.1 q.1) q.2 else none
      else none) else none) else if out.length < 100000 then expL kc rec_ subs l (out ++ [b]) D else none
def expF (kc : Nat) (subs : Int → List S32) : Nat → List S32 → Done → Option (List S32 × Done)
  | 0, _, _ => none
  | k + 1, l, D => expL kc (expF kc subs k) subs l [] D
abbrev VR (W : World) (ok : Nat → Prop) (A : Option Addr) (c : Nat) (l : List S32) : Prop := Kd.V k32 32 W 0 ok (.slice A l.length c) l
def SubMapV (w0 W : World) (g : Nat) (subs : Int → List S32) : Prop := ∃ F, MapFew Try.prog 2 .i64 W g F ∧ ∀ y, ∃ A c, (F y).getD (.slice none 0 0) = .slice A (subs y).length c ∧ VR w0 (fun k => k < w0.heap.size) A c (subs y)
def DoneMap (W : World) (g : Nat) (ok : Nat → Prop) (D : Done) : Prop := ∃ F, MapFew Try.prog 2 .i64 W g F ∧ ∀ y, (F y).isSome = (D y).isSome ∧ ∃ A c, (F y).getD (.slice none 0 0) = .slice A ((D y).getD []).length c ∧ VR W ok A c ((D y).getD [])
structure ExpD (w0 W : World) (gx g0 g1 g2 g3 g4 : Nat) (subs : Int → List S32) (ok : Nat → Prop) (D : Done) : Prop where
  below : Below w0.heap.size w0 W
  exp : ExpIs W gx g0 g1 g2 g3 g4
  sub : SubMapV w0 W g0 subs
  done : DoneMap W g4 ok D
  n04 : g0 ≠ g4
  ge4 : w0.heap.size ≤ g4
  lt4 : g4 < W.heap.size
  ok0 : ∀ k, k < w0.heap.size → ok k
  ok4 : ¬ ok g4
section
variable {w0 W W' : World} {gx g0 g1 g2 g3 g4 : Nat} {subs : Int → List S32} {ok ok' : Nat → Prop} {D : Done} {u v1 : Value}
theorem DoneMap.step {g : Nat} (h : DoneMap W g ok D) (hb : Below W.heap.size W W') : DoneMap W' g ok D := by
  obtain ⟨F, hm, hf⟩ := h
  refine ⟨F, hm.below hb, fun y => ?_⟩
  obtain ⟨h1, A, c, h2, h3⟩ := hf y
  exact ⟨h1, A, c, h2, Kd.V_below h3 hb⟩
theorem DoneMap.mono {g : Nat} (h : DoneMap W g ok D) (hok : ∀ k, ok k → k < W.heap.size → ok' k) : DoneMap W g ok' D := by
  obtain ⟨F, hm, hf⟩ := h
  refine ⟨F, hm, fun y => ?_⟩
  obtain ⟨h1, A, c, h2, h3⟩ := hf y
  exact ⟨h1, A, c, h2, Kd.V_mono (Kd.V_bound h3) (fun k hk => hok k hk.1 hk.2)⟩
theorem ExpD.step (h : ExpD w0 W gx g0 g1 g2 g3 g4 subs ok D) (hb : Below W.heap.size W W') : ExpD w0 W' gx g0 g1 g2 g3 g4 subs ok D :=
  { h with below := below_then h.below h.below.size hb, exp := blk_below h.exp hb, sub := by obtain ⟨F, hm, hf⟩ := h.sub; exact ⟨F, hm.below hb, hf⟩, done := h.done.step hb, lt4 := Nat.lt_of_lt_of_le h.lt4 hb.size }
theorem ExpD.mono (h : ExpD w0 W gx g0 g1 g2 g3 g4 subs ok D) (hok : ∀ k, ok k → k < W.heap.size → ok' k) (h0 : ∀ k, k < w0.heap.size → ok' k) (h4 : ¬ ok' g4) : ExpD w0 W gx g0 g1 g2 g3 g4 subs ok' D :=
  { h with done := h.done.mono hok, ok0 := h0, ok4 := h4 }
theorem ExpD.after (h : ExpD w0 W gx g0 g1 g2 g3 g4 subs (fun k => ok k ∧ some k ≠ u.ownBlock) D) (hb : Below w0.heap.size w0 W') (hg : W.grownBy W' u.ownBlock) (hat : v1.ownBlock = u.ownBlock ∨ ∃ b, v1.ownBlock = some b ∧ W.heap.size ≤ b)
    (hty : ∀ k, u.ownBlock = some k → ∃ cells, W.heap[k]? = some (.cells cells 32 (0, 0))) (hv : ∀ k, v1.ownBlock = some k → w0.heap.size ≤ k) : ExpD w0 W' gx g0 g1 g2 g3 g4 subs (fun k => ok k ∧ some k ≠ v1.ownBlock) D := by
  have hmap : ∀ {g : Nat} {F : Int → Option Value}, MapFew Try.prog 2 .i64 W g F → some g ≠ u.ownBlock := by
    intro g F hm e
    obtain ⟨cells, hc⟩ := hty g e.symm
    obtain ⟨n, hm, _⟩ := hm
    exact hm.ne hc rfl
  have hx : some gx ≠ u.ownBlock := by
    intro e
    obtain ⟨cells, hc⟩ := hty gx e.symm
    have := h.exp
    unfold ExpIs at this
    rw [hc] at this
    injection this with this
    injection this with _ h2 _
    exact absurd h2 (by decide)
  obtain ⟨F, hm, hf⟩ := h.sub
  obtain ⟨F4, hm4, hf4⟩ := h.done
  refine { h with below := hb, exp := (hg.block gx (blk_lt h.exp) hx).trans h.exp, sub := ⟨F, hm.kept hg (hmap hm), hf⟩, done := ⟨F4, hm4.kept hg (hmap hm4), fun y => ?_⟩, lt4 := Nat.lt_of_lt_of_le h.lt4 hg.size, ok0 := fun k hk => ⟨(h.ok0 k hk).1, fun e => ?_⟩, ok4 := fun hk => ?_ }
  · obtain ⟨h1, A, c, h2, h3⟩ := hf4 y
    exact ⟨h1, A, c, h2, Kd.V_after h3 hg hat⟩
  · have := hv k e.symm
    omega
  refine h.ok4 ⟨hk.1, ?_⟩
  exact hmap hm4
theorem DoneMap.put {g : Nat} {F : Int → Option Value} {n : Int} {A : Option Addr} {c : Nat} {x : List S32} (hf : ∀ y, (F y).isSome = (D y).isSome ∧ ∃ A c, (F y).getD (.slice none 0 0) = .slice A ((D y).getD []).length c ∧ VR W ok A c ((D y).getD []))
    (hm : MapFew Try.prog 2 .i64 W' g (fun y => if y = n then some (.slice A x.length c) else F y)) (hx : VR W ok A c x) (hg : W.grownBy W' (some g)) (hok : ¬ ok g) : DoneMap W' g ok (updD D n x) := by
  have hk : ∀ k, ok k → some k ≠ some g := fun k hk e => by injection e with e; subst e; exact hok hk
  refine ⟨_, hm, fun y => ?_⟩
  unfold updD
  by_cases hy : y = n
  · simp only [hy, if_true]
    exact ⟨rfl, A, c, rfl, Kd.V_grown hx hg hk⟩
  simp only [hy, if_false]
  obtain ⟨h1, A', c', h2, h3⟩ := hf y
  exact ⟨h1, A', c', h2, Kd.V_grown h3 hg hk⟩
theorem ExpD.put (h : ExpD w0 W gx g0 g1 g2 g3 g4 subs ok D) {D' : Done} (hg : W.grownBy W' (some g4)) (hd : DoneMap W' g4 ok D') : ExpD w0 W' gx g0 g1 g2 g3 g4 subs ok D' := by
  obtain ⟨F, hm, hf⟩ := h.sub
  obtain ⟨F4, ⟨n4, hm4, _⟩, _⟩ := h.done
  exact { h with below := below_row h.below hg h.ge4, exp := h.exp.kept hg (someNe (fun e => hm4.ne h.exp e.symm)), sub := ⟨F, hm.kept hg (someNe h.n04), hf⟩, done := hd, lt4 := Nat.lt_of_lt_of_le h.lt4 hg.size }
end
theorem keep_trans {w w1 w2 : World} {g : Nat} (h : KeepBut w w1 g none) (k : KeepBut w1 w2 g none) : KeepBut w w2 g none :=
  ⟨Nat.le_trans h.1 k.1, fun i hi hg hr => (k.2 i (Nat.lt_of_lt_of_le hi h.1) hg hr).trans (h.2 i hi hg hr)⟩
theorem keep_below {w w1 w2 : World} {g : Nat} (h : KeepBut w w1 g none) (k : Below w1.heap.size w1 w2) : KeepBut w w2 g none := keep_trans h (KeepBut.of_below k g none)
theorem keep_map {w w1 w2 : World} {g : Nat} (h : KeepBut w w1 g none) (k : w1.grownBy w2 (some g)) : KeepBut w w2 g none :=
  ⟨Nat.le_trans h.1 k.size, fun i hi hg hr => (k.block i (Nat.lt_of_lt_of_le hi h.1) (someNe hg)).trans (h.2 i hi hg hr)⟩
theorem keep_own {w w1 w2 : World} {g : Nat} {u : Value} (h : KeepBut w w1 g none) (k : w1.grownBy w2 u.ownBlock) (hu : ∀ b, u.ownBlock = some b → w.heap.size ≤ b) : KeepBut w w2 g none :=
  ⟨Nat.le_trans h.1 k.size, fun i hi hg hr => (k.block i (Nat.lt_of_lt_of_le hi h.1) (fun e => by have := hu i e.symm; omega)).trans (h.2 i hi hg hr)⟩
theorem fresh_after {w W : World} {u v1 : Value} (hle : w.heap.size ≤ W.heap.size) (hu : ∀ b, u.ownBlock = some b → w.heap.size ≤ b) (hat : v1.ownBlock = u.ownBlock ∨ ∃ b, v1.ownBlock = some b ∧ W.heap.size ≤ b) : ∀ b, v1.ownBlock = some b → w.heap.size ≤ b := by
  intro b hb
  rcases hat with h | ⟨c, h, hc⟩
  · exact hu b (h ▸ hb)
  rw [h] at hb
  injection hb with hb
  omega
theorem infoRows : (Try.prog.info? 35).map (fun i => (i.zero, i.size, i.bytes)) = some (some (.slice none 0 0), 1, 24) := by kernel_rfl
theorem infoI64 : (Try.prog.info? 2).map (fun i => (i.zero, i.size, i.bytes)) = some (some (.int .i64 0), 1, 8) := by kernel_rfl
structure Pre (w W : World) (A0 : Option Addr) (n0 c0 : Nat) (A1 : Option Addr) (n1 c1 : Nat) (gp gx g0 g1 g2 g3 g4 : Nat) (M : Int → Option (List S32)) : Prop where
  below : Below w.heap.size w W
  bp : W.heap[gp]? = some (.cells #[.slice A0 n0 c0, .slice A1 n1 c1] 54 (0, 0))
  exp : ExpIs W gx g0 g1 g2 g3 g4
  sub : SubMapO w W g0 M
  m1 : MapFew Try.prog 2 .i64 W g1 (fun _ => none)
  m2 : MapFew Try.prog 2 .i64 W g2 (fun _ => none)
  m3 : MapFew Try.prog 2 .i64 W g3 (fun _ => none)
  m4 : MapFew Try.prog 2 .i64 W g4 (fun _ => none)
  ge0 : w.heap.size ≤ g0
  l01 : g0 < g1
  l12 : g1 < g2
  l23 : g2 < g3
  l34 : g3 < g4
section
variable {w W W' : World} {A0 : Option Addr} {n0 c0 : Nat} {A1 : Option Addr} {n1 c1 : Nat} {gp gx g0 g1 g2 g3 g4 : Nat} {M : Int → Option (List S32)}
theorem Pre.step (h : Pre w W A0 n0 c0 A1 n1 c1 gp gx g0 g1 g2 g3 g4 M) (hb : Below W.heap.size W W') : Pre w W' A0 n0 c0 A1 n1 c1 gp gx g0 g1 g2 g3 g4 M :=
  { h with below := below_then h.below h.below.size hb, bp := blk_below h.bp hb, exp := blk_below h.exp hb, sub := by obtain ⟨F, hm, hf⟩ := h.sub; exact ⟨F, hm.below hb, hf⟩, m1 := h.m1.below hb, m2 := h.m2.below hb, m3 := h.m3.below hb, m4 := h.m4.below hb }
theorem Pre.put (h : Pre w W A0 n0 c0 A1 n1 c1 gp gx g0 g1 g2 g3 g4 M) {M' : Int → Option (List S32)} (hg : W.grownBy W' (some g0)) (hs : SubMapO w W' g0 M') : Pre w W' A0 n0 c0 A1 n1 c1 gp gx g0 g1 g2 g3 g4 M' := by
  have hmap : ∀ {g : Nat} {cs : Array Value} {t : TypeId}, W.heap[g]? = some (.cells cs t (0, 0)) → some g ≠ some g0 := by
    intro g cs t hc e
    injection e with e
    obtain ⟨F, ⟨n, hm, _⟩, _⟩ := h.sub
    exact hm.ne hc e.symm
  have l01 := h.l01
  have l12 := h.l12
  have l23 := h.l23
  have l34 := h.l34
  exact { h with below := below_row h.below hg h.ge0, bp := (hg.block gp (blk_lt h.bp) (hmap h.bp)).trans h.bp, exp := h.exp.kept hg (hmap h.exp), sub := hs, m1 := h.m1.kept hg (someNe (by omega)), m2 := h.m2.kept hg (someNe (by omega)), m3 := h.m3.kept hg (someNe (by omega)), m4 := h.m4.kept hg (someNe (by omega)) }
theorem Pre.own (h : Pre w W A0 n0 c0 A1 n1 c1 gp gx g0 g1 g2 g3 g4 M) {e : Nat} {u : Value} (he1 : e ≠ 54) (he2 : e ≠ 139) (hb : Below w.heap.size w W') (hg : W.grownBy W' u.ownBlock) (hty : ∀ k, u.ownBlock = some k → ∃ cells, W.heap[k]? = some (.cells cells e (0, 0))) : Pre w W' A0 n0 c0 A1 n1 c1 gp gx g0 g1 g2 g3 g4 M := by
  have hmap : ∀ {g : Nat} {F : Int → Option Value}, MapFew Try.prog 2 .i64 W g F → some g ≠ u.ownBlock := by
    intro g F hm e
    obtain ⟨cells, hc⟩ := hty g e.symm
    obtain ⟨n, hm, _⟩ := hm
    exact hm.ne hc rfl
  have hblk : ∀ {g t : Nat} {cs : Array Value}, W.heap[g]? = some (.cells cs t (0, 0)) → e ≠ t → some g ≠ u.ownBlock := by
    intro g t cs hc hne e
    obtain ⟨cells, hc2⟩ := hty g e.symm
    rw [hc] at hc2
    injection hc2 with hc2
    injection hc2 with _ h2 _
    exact hne h2.symm
  obtain ⟨F, hm, hf⟩ := h.sub
  exact { h with below := hb, bp := (hg.block gp (blk_lt h.bp) (hblk h.bp he1)).trans h.bp, exp := (hg.block gx (blk_lt h.exp) (hblk h.exp he2)).trans h.exp, sub := ⟨F, hm.kept hg (hmap hm), hf⟩, m1 := h.m1.kept hg (hmap h.m1), m2 := h.m2.kept hg (hmap h.m2), m3 := h.m3.kept hg (hmap h.m3), m4 := h.m4.kept hg (hmap h.m4) }
theorem Pre.expW (h : Pre w W A0 n0 c0 A1 n1 c1 gp gx g0 g1 g2 g3 g4 M) : ExpW w W gx g0 g1 g2 g3 g4 (fun y => (M y).getD []) (fun _ => 0, fun _ => 0, fun _ => 0) := by
  have l01 := h.l01
  have l12 := h.l12
  have l23 := h.l23
  have l34 := h.l34
  have ge0 := h.ge0
  exact { below := h.below, exp := h.exp, sub := h.sub.sub, m1 := ⟨_, h.m1, fun _ => rfl⟩, m2 := ⟨_, h.m2, fun _ => rfl⟩, m3 := ⟨_, h.m3, fun _ => rfl⟩, m4 := h.m4, ge1 := by omega, ge2 := by omega, ge3 := by omega, ge4 := by omega, n01 := by omega, n02 := by omega, n03 := by omega, n04 := by omega, n12 := by omega, n13 := by omega, n14 := by omega, n23 := by omega, n24 := by omega, n34 := by omega }
end
theorem subO_put {w W' : World} {g : Nat} {M : Int → Option (List S32)} {F : Int → Option Value} {n : Int} {A : Option Addr} {c : Nat} {x : List S32} (hf : ∀ y, (F y).isSome = (M y).isSome ∧ ∃ A c, (F y).getD (.slice none 0 0) = .slice A ((M y).getD []).length c ∧ ((M y).getD []).length ≤ c ∧ Kd.C k32 w A ((M y).getD []).length ((M y).getD []))
    (hm : MapFew Try.prog 2 .i64 W' g (fun y => if y = n then some (.slice A x.length c) else F y)) (hl : x.length ≤ c) (hC : Kd.C k32 w A x.length x) : SubMapO w W' g (fun y => if y = n then some x else M y) := by
  refine ⟨_, hm, fun y => ?_⟩
  by_cases hy : y = n
  · simp only [hy, if_true]
    exact ⟨rfl, A, c, rfl, hl, hC⟩
  simp only [hy, if_false]
  exact hf y
theorem subsO_snoc (x : S81) : ∀ (l : List S81) (M : Int → Option (List S32)), subsO (l ++ [x]) M = fun y => if y = x.f0 then some x.f1 else subsO l M y
  | [], M => rfl
  | z :: l, M => by
    show subsO (l ++ [x]) _ = _
    rw [subsO_snoc x l]
    rfl
theorem found_step {k : Nat} {l : List S32} {j : Nat} (h : j < l.length) {acc : List Int} {r : List Int × Int} (hr : foundL k (l.drop j) acc = some r) :
    ∃ n t is e, callF k l[j] = some (n, t, is, e) ∧ (e = 0 → is = true → (IN n ∧ acc.length < 1000000) ∧ foundL k (l.drop (j + 1)) (acc ++ [n]) = some r) ∧ (e = 0 → is = false → foundL k (l.drop (j + 1)) acc = some r) ∧ (e ≠ 0 → r = (acc, e)) := by
  rw [List.drop_eq_getElem_cons h, foundL] at hr
  obtain ⟨⟨n, t, is, e⟩, h1, h2⟩ := Option.bind_eq_some_iff.mp hr
  refine ⟨n, t, is, e, h1, fun he hi => ?_, fun he hi => ?_, fun he => ?_⟩
  · subst he; subst hi
    simp only [if_true] at h2
    by_cases hb : IN n ∧ acc.length < 1000000
    · rw [if_pos hb] at h2; exact ⟨hb, h2⟩
    rw [if_neg hb] at h2; cases h2
  · subst he; subst hi
    simpa using h2
  simp only [if_neg he] at h2
  exact (Option.some.inj h2).symm
theorem measAll_step {subs : Int → List S32} {k : Nat} {l : List S81} {j : Nat} (h : j < l.length) {S : St3} {r : Bool × St3} (hr : measAll subs k (l.drop j) S = some r) :
    IN l[j].f0 ∧ ∃ b S2, measF subs k k l[j].f0 S = some (b, S2) ∧ (b = true → measAll subs k (l.drop (j + 1)) S2 = some r) ∧ (b = false → r = (false, S2)) := by
  rw [List.drop_eq_getElem_cons h, measAll] at hr
  by_cases hn : IN l[j].f0
  · rw [if_pos hn] at hr
    obtain ⟨⟨b, S2⟩, h1, h2⟩ := Option.bind_eq_some_iff.mp hr
    refine ⟨hn, b, S2, h1, fun hb => ?_, fun hb => ?_⟩
    · subst hb; simpa using h2
    subst hb; simpa using h2.symm
  rw [if_neg hn] at hr; cases hr
def NewPost (w : World) (er : Int) (M : Int → Option (List S32)) (S : St3) (e : Ending) (w' : World) : Prop := ∃ pp : Option Addr, e = .returned (.tuple #[.pointer pp, .int .i64 er]) ∧ Below w.heap.size w w' ∧ (er = 0 → ∃ gx g0 g1 g2 g3 g4, pp = some ⟨gx, 0, none⟩ ∧ ExpW w w' gx g0 g1 g2 g3 g4 (fun y => (M y).getD []) S)
theorem NewPost.of {w w' : World} {er : Int} {M : Int → Option (List S32)} {S : St3} (pp : Option Addr) (h1 : Below w.heap.size w w') (h2 : er = 0 → ∃ gx g0 g1 g2 g3 g4, pp = some ⟨gx, 0, none⟩ ∧ ExpW w w' gx g0 g1 g2 g3 g4 (fun y => (M y).getD []) S) : NewPost w er M S (.returned (.tuple #[.pointer pp, .int .i64 er])) w' := ⟨pp, rfl, h1, h2⟩
set_option maxHeartbeats 16000000 in
set_option maxRecDepth 100000 in
theorem newExpander_calls (k : Nat) (A0 : Option Addr) (c0 : Nat) (l0 : List S32) (A1 : Option Addr) (c1 : Nat) (l1 : List S81) (er : Int) (M : Int → Option (List S32)) (S : St3) (w : World) (hr0 : Kd.C k32 w A0 l0.length l0) (hc0 : l0.length ≤ c0) (hr1 : Kd.C k81 w A1 l1.length l1) (hc1 : l1.length ≤ c1) (h : newF k l0 l1 = some (er, M, S)) :
    Calls Try.prog 94 #[.agg #[.slice A0 l0.length c0, .slice A1 l1.length c1]] w (NewPost w er M S) := by
  have hu54 := Try.underlying54
  have hu32 := Try.underlying32
  have hu81 := Try.underlying81
  have hu139 := Try.underlying139
  unfold newF at h
  obtain ⟨pb, hp, h2⟩ := Option.bind_eq_some_iff.mp h
  have HR0 := Aside0.mk hr0
  have HC0 := Aside0.mk hc0
  have HR1 := Aside0.mk hr1
  have HC1 := Aside0.mk hc1
  have HM1 := Aside0.mk (Kd.C_max hr1)
  have HPP := Aside0.mk hp
  have H := Aside0.mk h2
  clear hr0 hc0 hr1 hc1 hp h h2
  have HB0 := Aside0.mk (Below.refl w.heap.size w)
  cases pb with
  | false =>
    have H2 := H.out
    simp only [Bool.false_eq_true, if_false, Option.some.injEq, Prod.mk.injEq] at H2
    obtain ⟨rfl, rfl, rfl⟩ := H2
    go_enter Try.func94, Try.ntmps94
    go_wp2_with (first | ((with_reducible refine gate_dst (N := 1) rfl ?_); refine yX 1 #[.slice A0 l0.length c0, .slice A1 l1.length c1] 54 ?_; intro gp hgp w1 hbox hb; have GP := Aside0.mk hgp; have BP1 := Aside0.mk hbox; have HB1 := Aside0.mk hb; clear hgp hbox hb; have hz0_1 : w1.cell? ⟨gp, 0, none⟩ = some (.slice A0 l0.length c0) := (blk_cell BP1.out 0).trans rfl; have hz1_1 : w1.cell? ⟨gp, 1, none⟩ = some (.slice A1 l1.length c1) := (blk_cell BP1.out 1).trans rfl) | (go_at_call 110; (with_reducible refine (subprogram_proper.calls k _ _ l0 _ _ l1 false _ (Kd.C_below HR0.out HB1.out) HC0.out (Kd.C_below HR1.out HB1.out) HC1.out HPP.out).mono ?_); rintro e2 w2 ⟨rfl, hb2⟩; have HB2 := Aside0.mk (below_then HB1.out HB1.out.size hb2); have BP2 := Aside0.mk (blk_below BP1.out hb2); clear hb2 hz0_1 hz1_1 BP1))
    refine bodyPost_ret (results_list (rs := [.tmp 2, .tmp 3]) rfl (by simp) (.tmp (.tmp .nil))) rfl ?_
    exact NewPost.of none HB2.out (fun h => absurd h (by decide))
  | true =>
    have H2 := H.out
    simp only [if_true] at H2
    by_cases hall : (l1.all (fun x => decide (IN x.f0)) && decide (l1.length < 1000000)) = true
    rotate_left
    · rw [if_neg hall] at H2; cases H2
    rw [if_pos hall] at H2
    rw [Bool.and_eq_true] at hall
    have HALL := Aside0.mk (show ∀ x ∈ l1, IN x.f0 from fun x hx => of_decide_eq_true (List.all_eq_true.mp hall.1 x hx))
    have HLL := Aside0.mk (of_decide_eq_true hall.2)
    obtain ⟨al, hal, H2b⟩ := Option.bind_eq_some_iff.mp H2
    obtain ⟨⟨found, fe⟩, hfo, H2c⟩ := Option.bind_eq_some_iff.mp H2b
    have HAL := Aside0.mk hal
    have HFO := Aside0.mk hfo
    have H3 := Aside0.mk H2c
    clear hall hal hfo H2 H2b H2c H
    go_enter Try.func94, Try.ntmps94
    go_wp2_with (first | ((with_reducible refine gate_dst (N := 1) rfl ?_); refine yX 1 #[.slice A0 l0.length c0, .slice A1 l1.length c1] 54 ?_; intro gp hgp w1 hbox hb; have GP := Aside0.mk hgp; have BP1 := Aside0.mk hbox; have HB1 := Aside0.mk hb; clear hgp hbox hb; have hz0_1 : w1.cell? ⟨gp, 0, none⟩ = some (.slice A0 l0.length c0) := (blk_cell BP1.out 0).trans rfl; have hz1_1 : w1.cell? ⟨gp, 1, none⟩ = some (.slice A1 l1.length c1) := (blk_cell BP1.out 1).trans rfl) | (go_at_call 110; (with_reducible refine (subprogram_proper.calls k _ _ l0 _ _ l1 true _ (Kd.C_below HR0.out HB1.out) HC0.out (Kd.C_below HR1.out HB1.out) HC1.out HPP.out).mono ?_); rintro e2 w2 ⟨rfl, hb2⟩; have HB2 := Aside0.mk (below_then HB1.out HB1.out.size hb2); have BP2 := Aside0.mk (blk_below BP1.out hb2); clear hb2 hz0_1 hz1_1 BP1) | ((with_reducible refine gate_dst (N := 24) rfl ?_); refine map_make 24 rfl rfl .i64 2 rfl ?_; intro g0 w3 hgm hm hb; have G0 := Aside0.mk (show w.heap.size ≤ g0 from by rw [hgm]; exact HB2.out.size); have HM0_3 := Aside0.mk (show MapFew Try.prog 2 .i64 w3 g0 (fun _ => none) from ⟨0, hm, Nat.zero_le _⟩); have HB3 := Aside0.mk (below_then HB2.out HB2.out.size hb); have BP3 := Aside0.mk (blk_below BP2.out hb); clear hgm hm hb) | ((with_reducible refine gate_dst (N := 25) rfl ?_); refine map_make 25 rfl rfl .i64 2 rfl ?_; intro g1 w4 hgm hm hb; have HM0_4 := Aside0.mk (HM0_3.out.below hb); have L1 := Aside0.mk (show g0 < g1 from by rw [hgm]; exact HM0_3.out.lt); have HM1_4 := Aside0.mk (show MapFew Try.prog 2 .i64 w4 g1 (fun _ => none) from ⟨0, hm, Nat.zero_le _⟩); have HB4 := Aside0.mk (below_then HB3.out HB3.out.size hb); have BP4 := Aside0.mk (blk_below BP3.out hb); clear hgm hm hb) | ((with_reducible refine gate_dst (N := 26) rfl ?_); refine map_make 26 rfl rfl .i64 2 rfl ?_; intro g2 w5 hgm hm hb; have HM0_5 := Aside0.mk (HM0_4.out.below hb); have HM1_5 := Aside0.mk (HM1_4.out.below hb); have L2 := Aside0.mk (show g1 < g2 from by rw [hgm]; exact HM1_4.out.lt); have HM2_5 := Aside0.mk (show MapFew Try.prog 2 .i64 w5 g2 (fun _ => none) from ⟨0, hm, Nat.zero_le _⟩); have HB5 := Aside0.mk (below_then HB4.out HB4.out.size hb); have BP5 := Aside0.mk (blk_below BP4.out hb); clear hgm hm hb) | ((with_reducible refine gate_dst (N := 27) rfl ?_); refine map_make 27 rfl rfl .i64 2 rfl ?_; intro g3 w6 hgm hm hb; have HM0_6 := Aside0.mk (HM0_5.out.below hb); have HM1_6 := Aside0.mk (HM1_5.out.below hb); have HM2_6 := Aside0.mk (HM2_5.out.below hb); have L3 := Aside0.mk (show g2 < g3 from by rw [hgm]; exact HM2_5.out.lt); have HM3_6 := Aside0.mk (show MapFew Try.prog 2 .i64 w6 g3 (fun _ => none) from ⟨0, hm, Nat.zero_le _⟩); have HB6 := Aside0.mk (below_then HB5.out HB5.out.size hb); have BP6 := Aside0.mk (blk_below BP5.out hb); clear hgm hm hb) | ((with_reducible refine gate_dst (N := 28) rfl ?_); refine map_make 28 rfl rfl .i64 2 rfl ?_; intro g4 w7 hgm hm hb; have HM0_7 := Aside0.mk (HM0_6.out.below hb); have HM1_7 := Aside0.mk (HM1_6.out.below hb); have HM2_7 := Aside0.mk (HM2_6.out.below hb); have HM3_7 := Aside0.mk (HM3_6.out.below hb); have L4 := Aside0.mk (show g3 < g4 from by rw [hgm]; exact HM3_6.out.lt); have HM4_7 := Aside0.mk (show MapFew Try.prog 2 .i64 w7 g4 (fun _ => none) from ⟨0, hm, Nat.zero_le _⟩); have HB7 := Aside0.mk (below_then HB6.out HB6.out.size hb); have BP7 := Aside0.mk (blk_below BP6.out hb); clear hgm hm hb) | ((with_reducible refine gate_dst (N := 30) rfl ?_); refine yX 30 #[.map (some g0), .map (some g1), .map (some g2), .map (some g3), .map (some g4)] 139 ?_; intro gx hgx w8 hbox hb; have PRE := Aside0.mk (show Pre w w8 A0 l0.length c0 A1 l1.length c1 gp gx g0 g1 g2 g3 g4 (fun _ => none) from { below := below_then HB7.out HB7.out.size hb, bp := blk_below BP7.out hb, exp := hbox, sub := ⟨_, HM0_7.out.below hb, fun y => ⟨rfl, none, 0, rfl, Nat.le_refl _, rfl, by simp, fun hlt => by simp at hlt⟩⟩, m1 := HM1_7.out.below hb, m2 := HM2_7.out.below hb, m3 := HM3_7.out.below hb, m4 := HM4_7.out.below hb, ge0 := G0.out, l01 := L1.out, l12 := L2.out, l23 := L3.out, l34 := L4.out }); clear hgx hbox hb; have hz0_8 : w8.cell? ⟨gp, 0, none⟩ = some (.slice A0 l0.length c0) := (blk_cell PRE.out.bp 0).trans rfl) | ((with_reducible refine gate_dst (N := 33) rfl ?_); refine Kd.N_lit (Kd.slice 32 k32) (w0 := w) w.heap.size 35 ?hg (N' := 33) ?hd (xs := [l0]) (inner := [.slice A0 l0.length c0]) (ok := fun k => k ≠ g0) (okp := fun k => k < w.heap.size) ?hr ?hp ?hk ?hf PRE.out.below PRE.out.below.size (by simp) ?_; (case hd => rfl); (case hg => rfl); (case hr => first | (go_simp; done) | (go_simp; rfl)); (case hp => exact ⟨rfl, fun j q hj => by rcases j with _ | j; (simp only [List.getElem?_cons_zero, Option.some.injEq] at hj; subst hj; exact Kd.FK_slice_mk HC0.out (Kd.F_below (Kd.C_F k32_heap HR0.out) PRE.out.below)); (simp at hj)⟩); (case hk => intro k_ hk_ e_; have := PRE.out.ge0; omega); (case hf => intro e_; have h_ := (PRE.out.sub); obtain ⟨F_, hm_, _⟩ := h_; have := hm_.lt; omega); intro v9 w9 ho hb hg hat; have HA9 := Aside0.mk ho; have PRE9 := Aside0.mk (PRE.out.step ⟨hg.os, hg.tape, hg.output, hg.size, fun i_ hi_ => hg.block i_ hi_ (by simp)⟩); clear ho hb hg hat; have hz1_9 : w9.cell? ⟨gp, 1, none⟩ = some (.slice A1 l1.length c1) := (blk_cell PRE9.out.bp 1).trans rfl))
    clear BP2 HB2 HB3 HB4 HB5 HB6 HB7 BP3 BP4 BP5 BP6 BP7 HM0_3 HM0_4 HM0_5 HM0_6 HM0_7 HM1_4 HM1_5 HM1_6 HM1_7 HM2_5 HM2_6 HM2_7 HM3_6 HM3_7 HM4_7 hz0_8 hz1_9 PRE L1 L2 L3 L4 G0
    go_loopw [37, 5] (fun i v w' => ∃ (j : Nat), i = .int .i64 j ∧ Aside0 (j ≤ l1.length) ∧ Aside0 (Pre w w' A0 l0.length c0 A1 l1.length c1 gp gx g0 g1 g2 g3 g4 (subsO (l1.take j) (fun _ => none))) ∧ Aside0 (Kd.N (Kd.slice 32 k32) 35 w' w.heap.size (fun k => k ≠ g0) v (l0 :: (l1.take j).map (fun x => x.f1)))) (fun i _ _ => l1.length - (intOf i).toNat)
    case atStart => exact ⟨0, rfl, ⟨Nat.zero_le _⟩, ⟨PRE9.out⟩, ⟨by simpa using HA9.out⟩⟩
    case round =>
      obtain ⟨j, rfl, HJ, PRE, HA⟩ := hrel
      clear PRE9 HA9
      by_cases hlt : j < l1.length
      · obtain ⟨ad, A2, c2, e, hx0, hx1, hl2, hk2⟩ := at_T81 (Kd.C_below HR1.out PRE.out.below) (j : Int) (by omega) (by omega)
        cases e
        have hrd : rd_T81 l1 (j : Int) = l1[j] := by simp [rd_T81, hlt]
        rw [hrd] at hx0 hx1 hl2 hk2
        have HIN := Aside0.mk (HALL.out l1[j] (List.getElem_mem hlt))
        have TK := Aside0.mk (List.take_succ_eq_append_getElem hlt)
        obtain ⟨ad_, A2_, c2_, e_, hx0_, hx1_, hl2_, hk2_⟩ := at_T81 HR1.out (j : Int) (by omega) (by omega)
        cases e_
        rw [hrd] at hx0_ hx1_ hl2_ hk2_
        have ee := Option.some.inj (hx1_.symm.trans ((PRE.out.below.cell (yL hx1_)).symm.trans hx1))
        injection ee with ea_ en_ ec_
        rw [ea_] at hk2_
        have HL2 := Aside0.mk hl2
        have HK2 := Aside0.mk hk2_
        clear hrd hl2 hk2 hx0_ hx1_ hl2_ hk2_ en_ ea_ ec_
        generalize l1[j] = x at *
        simp only [Int.toNat_natCast] at hx0 hx1
        have hlt' : decide ((j : Int) < (l1.length : Int)) = true := by simp; omega
        go_wp2
        have BK := Aside0.mk (alloc_at wr (.cells #[.int .i64 x.f0, .slice A2 x.f1.length c2] 81 (0, 0)))
        have PREa := Aside0.mk (PRE.out.step (below_alloc (Below.refl _ _) (.cells #[.int .i64 x.f0, .slice A2 x.f1.length c2] 81 (0, 0))))
        have HAa := Aside0.mk (Kd.N_below HA.out (below_alloc (Below.refl _ _) (.cells #[.int .i64 x.f0, .slice A2 x.f1.length c2] 81 (0, 0))))
        generalize hwr : wr.heap.size = gt at *
        generalize wr.alloc (.cells #[.int .i64 x.f0, .slice A2 x.f1.length c2] 81 (0, 0)) = w10 at *
        have BKd := Aside0.mk (show w10.drew.heap[gt]? = _ from BK.out)
        have PREd := Aside0.mk (PREa.out.step (below_drew (Below.refl _ _)))
        have HAd := Aside0.mk (Kd.N_drew HAa.out)
        clear BK PREa HAa hwr hx0 hx1 HA PRE
        have hd0 : w10.drew.cell? ⟨gx, 0, none⟩ = some (.map (some g0)) := (blk_cell PREd.out.exp 0).trans rfl
        have hd1 : w10.drew.cell? ⟨gt, 0, none⟩ = some (.int .i64 x.f0) := (blk_cell BKd.out 0).trans rfl
        have hd2 : w10.drew.cell? ⟨gt, 1, none⟩ = some (.slice A2 x.f1.length c2) := (blk_cell BKd.out 1).trans rfl
        obtain ⟨Fs, fws, fhs⟩ := PREd.out.sub
        have FWs := Aside0.mk fws
        have FHs := Aside0.mk fhs
        clear fws fhs
        refine wp_region_still_tail 8 (by kernel_rfl) (by kernel_rfl) ?_
        change wpStill _ _ w10.drew (fun a' => wpList _ _ _ _ a' w10.drew) _ _
        generalize w10.drew = w11 at *
        simp only [List.take_succ_cons, List.take_zero, List.drop_succ_cons, List.drop_zero]
        repeat still_step
        refine wpStill_nil ?_
        go_wp2_with (first | (refine few_put rfl rfl Try.underlying2 Try.underlying135 FWs.out rfl x.f0 rfl HIN.out.wf (by have := HIN.out; unfold IN at this; omega) (by have := HIN.out; unfold IN at this; omega) (.slice A2 x.f1.length c2) (by rfl) ?_; intro w12 hm hg; have PRE12 := Aside0.mk (PREd.out.put hg (subO_put FHs.out hm HL2.out HK2.out)); have BK12 := Aside0.mk ((hg.block gt (blk_lt BKd.out) (fun e_ => by injection e_ with e_; obtain ⟨F_, ⟨n_, hm_, _⟩, _⟩ := PREd.out.sub; exact hm_.ne BKd.out e_.symm)).trans BKd.out); have HA12 := Aside0.mk (Kd.N_grown HAd.out hg (fun k_ hk_ => someNe hk_)); clear hm hg; have hzt : w12.cell? ⟨gt, 1, none⟩ = some (.slice A2 x.f1.length c2) := (blk_cell BK12.out 1).trans rfl) | ((with_reducible refine gate_builtin (b := .append) (xs := #[.tmp 49, .tmp 52]) rfl ?_); (try (refine gate_guard (by rfl) ?_; dsimp only)); at_builtin; refine Kd.N_append (Kd.slice 32 k32) (w0 := w) w.heap.size rfl (.tmp 49) (.tmp 52) 104 35 (.slice none 0 0) 24 rfl Try.underlying104 infoRows rfl (by decide) (by omega) u5 (l0 :: (l1.take j).map (fun x => x.f1)) x.f1 [.slice A2 x.f1.length c2] (fun k => k ≠ g0) (fun k => k ≠ g0 ∧ some k ≠ u5.ownBlock) rfl rfl ?aP (fun _ hk => hk) ?aF ?aO ?aB ?aS ?aL ?_; (case aP => exact Kd.FK_slice_mk HL2.out (Kd.F_mono (Kd.F_below (Kd.C_F k32_heap HK2.out) PRE12.out.below) (fun k_ hk_ => ⟨by have := PRE12.out.ge0; omega, fun e_ => by have := Kd.N_base HA12.out k_ e_.symm; omega⟩))); (case aF => intro k_ hk_ e_; obtain ⟨F_, hm_, _⟩ := PRE12.out.sub; have := hm_.lt; omega); (case aO => exact HA12.out); (case aB => exact PRE12.out.below); (case aS => exact PRE12.out.below.size); (case aL => have := HLL.out; simp only [List.length_cons, List.length_map, List.length_take]; have := HJ.out; omega); intro v13 w13 ho hb hg hat; have HA13 := Aside0.mk ho; have PRE13 := Aside0.mk (PRE12.out.own (by decide) (by decide) hb hg (Kd.N_typed HA12.out)); clear ho hb hg hat))
        go_roundw
        case rel => exact ⟨j + 1, by rw [wrap_succ hlt HM1.out], ⟨by omega⟩, ⟨by rw [TK.out, subsO_snoc]; exact PRE13.out⟩, ⟨by rw [TK.out]; simpa using HA13.out⟩⟩
        case measure => rw [wrap_succ hlt HM1.out]; simp only [intOf, Int.toNat_natCast]; omega
      have hlt' : decide ((j : Int) < (l1.length : Int)) = false := by simp; omega
      have PREx := Aside0.mk (show Pre w wr A0 l0.length c0 A1 l1.length c1 gp gx g0 g1 g2 g3 g4 (subsO l1 (fun _ => none)) from by have h_ := PRE.out; rw [List.take_of_length_le (by omega)] at h_; exact h_)
      obtain ⟨LL, hLL⟩ : ∃ LL : List (List S32), LL = l0 :: l1.map (fun x => x.f1) := ⟨_, rfl⟩
      have HAx := Aside0.mk (show Kd.N (Kd.slice 32 k32) 35 wr w.heap.size (fun k => k ≠ g0) u5 LL from by have h_ := HA.out; rw [List.take_of_length_le (by omega)] at h_; rw [hLL]; exact h_)
      have HAL2 := Aside0.mk (show Concat_Block.f k LL = some al from by rw [hLL]; exact HAL.out)
      clear PRE HA HJ hLL HAL
      obtain ⟨Av, cv, ev⟩ := Kd.N_slice HAx.out
      subst ev
      go_wp2_with (go_at_call 31; (with_reducible refine (Concat_Block.calls k (fun k => k ≠ g0) Av cv LL al _ (Kd.N_V HAx.out) HAL2.out).mono ?_); rintro e14 w14 ⟨v14, rfl, hn, hb⟩; obtain ⟨A3, c3, rfl⟩ := Kd.N_slice hn; have PRE14 := Aside0.mk (PREx.out.step hb); have HV14 := Aside0.mk (show Kd.V k32 32 w14 0 (fun _ => True) (.slice A3 al.length c3) al from Kd.V_mono (Kd.N_V hn) (fun _ _ => trivial)); clear hn hb)
      have HMA := Aside0.mk (Kd.C_max (Kd.V_reads' HV14.out).2.2)
      clear HAx PREx
      go_loopw [58, 8] (fun i v w' => ∃ (j : Nat) (acc : List Int), i = .int .i64 j ∧ Aside0 (j ≤ al.length) ∧ Aside0 (foundL k (al.drop j) acc = some (found, fe)) ∧ Aside0 (∀ y ∈ acc, IN y) ∧ Aside0 (Pre w w' A0 l0.length c0 A1 l1.length c1 gp gx g0 g1 g2 g3 g4 (subsO l1 (fun _ => none))) ∧ Aside0 (Kd.N (Kd.int .i64) 2 w' w.heap.size (fun _ => True) v acc) ∧ Aside0 (Kd.V k32 32 w' 0 (fun k => True ∧ some k ≠ (v : Value).ownBlock) (.slice A3 al.length c3) al)) (fun i _ _ => al.length - (intOf i).toNat)
      case atStart => exact ⟨0, [], rfl, ⟨Nat.zero_le _⟩, ⟨HFO.out⟩, ⟨fun y hy => by simp at hy⟩, ⟨PRE14.out⟩, ⟨Kd.N_nil _ _ _ _ _⟩, ⟨Kd.V_mono HV14.out (fun _ _ => ⟨trivial, by simp [Value.ownBlock]⟩)⟩⟩
      case round =>
        obtain ⟨j, acc, rfl, HJ, HI, HALN, PRE, HF, HV⟩ := hrel
        clear PRE14 HV14 HFO
        by_cases hlt : j < al.length
        · obtain ⟨ad, A4, c4, e, hx0, hx1, hx2, hl4, hk4⟩ := at_T32 (Kd.V_reads' HV.out).2.2 (j : Int) (by omega) (by omega)
          cases e
          have hrd : rd_T32 al (j : Int) = al[j] := by simp [rd_T32, hlt]
          rw [hrd] at hx0 hx1 hx2 hl4 hk4
          obtain ⟨n, t, is, e, hcl, hyes, hno, herr⟩ := found_step hlt HI.out
          have HCL := Aside0.mk (show subprogram_Call.f k al[j].f0 al[j].f1 al[j].f2 = some (n, t, is, e) from hcl)
          have HYES := Aside0.mk hyes
          have HNO := Aside0.mk hno
          have HERR := Aside0.mk herr
          have HL4 := Aside0.mk hl4
          have HK4 := Aside0.mk hk4
          clear hrd hcl hyes hno herr hl4 hk4
          generalize al[j] = x at *
          simp only [Int.toNat_natCast] at hx0 hx1 hx2
          have hlt' : decide ((j : Int) < (al.length : Int)) = true := by simp; omega
          by_cases he : e = 0
          · subst he
            cases is with
            | true =>
              obtain ⟨⟨hinn, hacc⟩, hnext⟩ := HYES.out rfl rfl
              have HINN := Aside0.mk hinn
              have HACC := Aside0.mk hacc
              have HNX := Aside0.mk hnext
              clear hacc hinn hnext HYES HNO HERR
              go_wp2_with (first | (go_at_call 25; (with_reducible refine (subprogram_Call.calls k x.f0 A4 c4 x.f1 x.f2 n t true 0 _ (Kd.C_alloc HK4.out _) HL4.out HCL.out).mono ?_); rintro e15 w15 ⟨rfl, hb⟩; have HB15 := Aside0.mk (below_then (below_alloc (Below.refl _ _) _) (below_alloc (Below.refl _ _) _).size hb); clear hb; have PRE15 := Aside0.mk (PRE.out.step HB15.out); have HF15 := Aside0.mk (Kd.N_below HF.out HB15.out); have HV15 := Aside0.mk (Kd.V_below HV.out HB15.out)) | ((with_reducible refine gate_builtin (b := .append) (xs := #[.tmp 73, .tmp 75]) rfl ?_); (try (refine gate_guard (by rfl) ?_; dsimp only)); at_builtin; refine Kd.N_append (Kd.int .i64) (w0 := w) w.heap.size rfl (.tmp 73) (.tmp 75) 91 2 (.int .i64 0) 8 rfl Try.underlying91 infoI64 rfl (by decide) (by omega) u8 acc n [.int .i64 n] (fun _ => True) (fun k => True ∧ some k ≠ u8.ownBlock) rfl rfl (fun _ _ => rfl) (fun _ hk => hk) (fun _ _ => trivial) HF15.out PRE15.out.below PRE15.out.below.size (by have := HACC.out; omega) ?_; intro v16 w16 ho hb hg hat; have HF16 := Aside0.mk ho; have PRE16 := Aside0.mk (PRE15.out.own (by decide) (by decide) hb hg (Kd.N_typed HF15.out)); have HV16 := Aside0.mk (Kd.V_after HV15.out hg hat); clear ho hb hg hat))
              go_roundw
              case rel => exact ⟨j + 1, acc ++ [n], by rw [wrap_succ hlt HMA.out], ⟨by omega⟩, ⟨HNX.out⟩, ⟨fun y hy => by rcases List.mem_append.mp hy with hy | hy; exact HALN.out y hy; simp at hy; subst hy; exact HINN.out⟩, ⟨PRE16.out⟩, ⟨HF16.out⟩, ⟨HV16.out⟩⟩
              case measure => rw [wrap_succ hlt HMA.out]; simp only [intOf, Int.toNat_natCast]; omega
            | false =>
              have HNX := Aside0.mk (HNO.out rfl rfl)
              clear HYES HNO HERR
              go_wp2_with (go_at_call 25; (with_reducible refine (subprogram_Call.calls k x.f0 A4 c4 x.f1 x.f2 n t false 0 _ (Kd.C_alloc HK4.out _) HL4.out HCL.out).mono ?_); rintro e15 w15 ⟨rfl, hb⟩; have HB15 := Aside0.mk (below_then (below_alloc (Below.refl _ _) _) (below_alloc (Below.refl _ _) _).size hb); clear hb; have PRE15 := Aside0.mk (PRE.out.step HB15.out); have HF15 := Aside0.mk (Kd.N_below HF.out HB15.out); have HV15 := Aside0.mk (Kd.V_below HV.out HB15.out))
              go_roundw
              case rel => exact ⟨j + 1, acc, by rw [wrap_succ hlt HMA.out], ⟨by omega⟩, ⟨HNX.out⟩, ⟨HALN.out⟩, ⟨PRE15.out⟩, ⟨HF15.out⟩, ⟨HV15.out⟩⟩
              case measure => rw [wrap_succ hlt HMA.out]; simp only [intOf, Int.toNat_natCast]; omega
          have hr_ := HERR.out he
          injection hr_ with hr1_ hr2_
          subst hr2_
          have hne : (fe == 0) = false := beq_eq_false_iff_ne.mpr he
          have hne2 : (fe != 0) = true := bne_iff_ne.mpr he
          have H4 := H3.out
          simp only [if_neg he, Option.some.injEq, Prod.mk.injEq] at H4
          obtain ⟨rfl, rfl, rfl⟩ := H4
          clear HYES HNO HERR hr1_
          have HE0 := Aside0.mk he
          clear he
          go_wp2_with (go_at_call 25; (with_reducible refine (subprogram_Call.calls k x.f0 A4 c4 x.f1 x.f2 n t is fe _ (Kd.C_alloc HK4.out _) HL4.out HCL.out).mono ?_); rintro e15 w15 ⟨rfl, hb⟩; have HB15 := Aside0.mk (below_then (below_alloc (Below.refl _ _) _) (below_alloc (Below.refl _ _) _).size hb); clear hb; have PRE15 := Aside0.mk (PRE.out.step HB15.out); have HF15 := Aside0.mk (Kd.N_below HF.out HB15.out); have HV15 := Aside0.mk (Kd.V_below HV.out HB15.out))
          refine bodyPost_ret (results_list (rs := [.tmp 2, .tmp 3]) rfl (by simp) (.tmp (.tmp .nil))) rfl ?_
          exact NewPost.of none PRE15.out.below (fun h => absurd h HE0.out)
        have hlt' : decide ((j : Int) < (al.length : Int)) = false := by simp; omega
        have hI := HI.out
        rw [List.drop_eq_nil_of_le (by omega)] at hI
        simp only [foundL, Option.some.injEq, Prod.mk.injEq] at hI
        obtain ⟨rfl, rfl⟩ := hI
        have H4r := H3.out
        simp only [if_true] at H4r
        have H4 := Aside0.mk H4r
        clear H4r
        have PREf := Aside0.mk PRE.out
        have HFf := Aside0.mk HF.out
        clear HI HV H3 HMA HJ PRE HF
        obtain ⟨Af, cf, ef⟩ := Kd.N_slice HFf.out
        subst ef
        have HCF := Aside0.mk (Kd.N_reads' HFf.out).2.2
        have HMF := Aside0.mk (Kd.C_max HCF.out)
        go_wp2
        obtain ⟨bh, hbh⟩ : ∃ b, b = haveL (subsO l1 (fun _ => none)) acc := ⟨_, rfl⟩
        have HBH := Aside0.mk hbh
        clear hbh
        have hq0 : wr.cell? ⟨gx, 0, none⟩ = some (.map (some g0)) := (blk_cell PREf.out.exp 0).trans rfl
        have hq1 : wr.cell? ⟨gp, 1, none⟩ = some (.slice A1 l1.length c1) := (blk_cell PREf.out.bp 1).trans rfl
        obtain ⟨F0, ⟨n0_, m0, _⟩, f0⟩ := PREf.out.sub
        have M0 := Aside0.mk m0
        have F0H := Aside0.mk f0
        clear m0 f0
        go_loop [80] (fun i => ∃ (j : Nat), i = .int .i64 j ∧ Aside0 (j ≤ acc.length) ∧ Aside0 (haveL (subsO l1 (fun _ => none)) (acc.drop j) = bh)) (fun i => acc.length - (intOf i).toNat)
        case atStart => exact ⟨0, rfl, ⟨Nat.zero_le _⟩, ⟨HBH.out.symm⟩⟩
        case round =>
          obtain ⟨j2, rfl, HJ2, HI2⟩ := hrel
          by_cases hlt2 : j2 < acc.length
          · obtain ⟨adf, e, hxf⟩ := Kd.at_int HCF.out (j2 : Int) (by omega) (by omega)
            cases e
            have hrdf : rd acc (j2 : Int) = acc[j2] := by simp [rd, hlt2]
            rw [hrdf] at hxf
            have hI2 := HI2.out
            rw [List.drop_eq_getElem_cons hlt2] at hI2
            simp only [haveL, List.all_cons] at hI2
            clear hrdf
            have WFN := Aside0.mk (HALN.out acc[j2] (List.getElem_mem hlt2)).wf
            generalize acc[j2] = nn at *
            simp only [Int.toNat_natCast] at hxf
            have hlt2' : decide ((j2 : Int) < (acc.length : Int)) = true := by simp; omega
            cases hok : ((subsO l1 (fun _ => none)) nn).isSome with
            | true =>
              have HOK := Aside0.mk ((F0H.out nn).1.trans hok)
              rw [hok, Bool.true_and] at hI2
              have HNX := Aside0.mk hI2
              clear hI2 hok
              go_wp2_with ((with_reducible refine gate_dst (N := 90) rfl ?_); refine map_lookOk 90 rfl rfl rfl Try.underlying2 Try.underlying135 zero_rows M0.out rfl nn rfl WFN.out _ _ rfl HOK.out ?_)
              go_round
              case rel => exact ⟨j2 + 1, by rw [wrap_succ hlt2 HMF.out], ⟨by omega⟩, ⟨HNX.out⟩⟩
              case measure => rw [wrap_succ hlt2 HMF.out]; simp only [intOf, Int.toNat_natCast]; omega
            | false =>
              have HOK := Aside0.mk ((F0H.out nn).1.trans hok)
              rw [hok, Bool.false_and] at hI2
              subst hI2
              have H5 := H4.out
              rw [if_neg (by rw [← HBH.out]; decide)] at H5
              simp only [Option.some.injEq, Prod.mk.injEq] at H5
              obtain ⟨rfl, rfl, rfl⟩ := H5
              clear hok
              go_wp2_with ((with_reducible refine gate_dst (N := 90) rfl ?_); refine map_lookOk 90 rfl rfl rfl Try.underlying2 Try.underlying135 zero_rows M0.out rfl nn rfl WFN.out _ _ rfl HOK.out ?_)
              refine bodyPost_ret (results_list (rs := [.tmp 2, .tmp 3]) rfl (by simp) (.tmp (.tmp .nil))) rfl ?_
              exact NewPost.of none PREf.out.below (fun h => absurd h (by decide))
          have hlt2' : decide ((j2 : Int) < (acc.length : Int)) = false := by simp; omega
          have hI2 := HI2.out
          rw [List.drop_eq_nil_of_le (by omega)] at hI2
          simp only [haveL, List.all_nil] at hI2
          subst hI2
          have H5r := H4.out
          rw [if_pos HBH.out.symm] at H5r
          obtain ⟨⟨mb, mS⟩, hms, H5s⟩ := Option.bind_eq_some_iff.mp H5r
          have HMS := Aside0.mk hms
          have H5 := Aside0.mk H5s
          have EW := Aside0.mk PREf.out.expW
          clear hms H4 HI2 HBH H5r H5s
          go_wp2
          clear PREf M0 F0H HFf HCF HMF hq0 hq1 HJ2 hlt2
          go_loopw [99] (fun i w' => ∃ (j : Nat) (S2 : St3), i = .int .i64 j ∧ Aside0 (j ≤ l1.length) ∧ Aside0 (measAll (fun y => ((subsO l1 (fun _ => none)) y).getD []) k (l1.drop j) S2 = some (mb, mS)) ∧ Aside0 (ExpW w w' gx g0 g1 g2 g3 g4 (fun y => ((subsO l1 (fun _ => none)) y).getD []) S2)) (fun i _ => l1.length - (intOf i).toNat)
          case atStart => exact ⟨0, _, rfl, ⟨Nat.zero_le _⟩, ⟨HMS.out⟩, ⟨EW.out⟩⟩
          case round =>
            obtain ⟨j3, S2, rfl, HJ3, HI3, HE3⟩ := hrel
            clear HMS EW
            by_cases hlt3 : j3 < l1.length
            · obtain ⟨ad3, A5, c5, e, hx0, hx1, hl5, hk5⟩ := at_T81 (Kd.C_below HR1.out HE3.out.below) (j3 : Int) (by omega) (by omega)
              cases e
              have hrd : rd_T81 l1 (j3 : Int) = l1[j3] := by simp [rd_T81, hlt3]
              rw [hrd] at hx0 hx1 hl5 hk5
              obtain ⟨hin, b3, S3, hm3, hy3, hn3⟩ := measAll_step hlt3 HI3.out
              have HIN := Aside0.mk hin
              have HM3 := Aside0.mk hm3
              have HY3 := Aside0.mk hy3
              have HN3 := Aside0.mk hn3
              clear hrd hin hm3 hy3 hn3 hl5 hk5
              generalize l1[j3] = x at *
              simp only [Int.toNat_natCast] at hx0 hx1
              have hlt3' : decide ((j3 : Int) < (l1.length : Int)) = true := by simp; omega
              cases b3 with
              | true =>
                have HNX := Aside0.mk (HY3.out rfl)
                go_wp2_with (go_at_call 111; (with_reducible refine (measure_calls k w gx g0 g1 g2 g3 g4 (fun y => ((subsO l1 (fun _ => none)) y).getD []) k x.f0 S2 S3 true _ HIN.out (HE3.out.step (below_alloc (Below.refl _ _) _)) HM3.out).mono ?_); rintro e17 w17 ⟨rfl, he4⟩; have HE4 := Aside0.mk he4; clear he4)
                go_roundw
                case rel => exact ⟨j3 + 1, S3, by rw [wrap_succ hlt3 HM1.out], ⟨by omega⟩, ⟨HNX.out⟩, ⟨HE4.out⟩⟩
                case measure => rw [wrap_succ hlt3 HM1.out]; simp only [intOf, Int.toNat_natCast]; omega
              | false =>
                have hq := HN3.out rfl
                injection hq with hq1_ hq2_
                subst hq1_
                have H6 := H5.out
                simp only [Bool.false_eq_true, if_false, Option.some.injEq, Prod.mk.injEq] at H6
                obtain ⟨rfl, rfl, rfl⟩ := H6
                clear hq2_
                go_wp2_with (go_at_call 111; (with_reducible refine (measure_calls k w gx g0 g1 g2 g3 g4 (fun y => ((subsO l1 (fun _ => none)) y).getD []) k x.f0 S2 S3 false _ HIN.out (HE3.out.step (below_alloc (Below.refl _ _) _)) HM3.out).mono ?_); rintro e17 w17 ⟨rfl, he4⟩; have HE4 := Aside0.mk he4; clear he4)
                refine bodyPost_ret (results_list (rs := [.tmp 2, .tmp 3]) rfl (by simp) (.tmp (.tmp .nil))) rfl ?_
                exact NewPost.of none HE4.out.below (fun h => absurd h (by decide))
            have hlt3' : decide ((j3 : Int) < (l1.length : Int)) = false := by simp; omega
            have hI3 := HI3.out
            rw [List.drop_eq_nil_of_le (by omega)] at hI3
            simp only [measAll, Option.some.injEq, Prod.mk.injEq] at hI3
            obtain ⟨rfl, rfl⟩ := hI3
            have H6 := H5.out
            simp only [if_true, Option.some.injEq, Prod.mk.injEq] at H6
            obtain ⟨rfl, rfl, rfl⟩ := H6
            go_wp2
            refine bodyPost_ret (results_list (rs := [.tmp 2, .tmp 3]) rfl (by simp) (.tmp (.tmp .nil))) rfl ?_
            exact NewPost.of (some ⟨gx, 0, none⟩) HE3.out.below (fun _ => ⟨gx, g0, g1, g2, g3, g4, rfl, HE3.out⟩)
theorem exp_step {kc : Nat} {rec_ : List S32 → Done → Option (List S32 × Done)} {subs : Int → List S32} {l : List S32} {j : Nat} (h : j < l.length) {out : List S32} {D : Done} {r : List S32 × Done} (hr : expL kc rec_ subs (l.drop j) out D = some r) :
    ∃ n t is e, callF kc l[j] = some (n, t, is, e) ∧ (is = false → out.length < 100000 ∧ expL kc rec_ subs (l.drop (j + 1)) (out ++ [l[j]]) D = some r) ∧
      (is = true → IN n ∧ IN t ∧ ∃ x D2, (D n = some x ∧ D2 = D ∨ D n = none ∧ ∃ D1, rec_ (subs n) D = some (x, D1) ∧ D2 = updD D1 n x) ∧ (x.length = 0 → expL kc rec_ subs (l.drop (j + 1)) out D2 = some r) ∧ (x.length ≠ 0 → out.length + t.toNat * x.length ≤ 100000 ∧ expL kc rec_ subs (l.drop (j + 1)) (out ++ rep t x) D2 = some r)) := by
  rw [List.drop_eq_getElem_cons h, expL] at hr
  obtain ⟨⟨n, t, is, e⟩, h1, h2⟩ := Option.bind_eq_some_iff.mp hr
  refine ⟨n, t, is, e, h1, fun hi => ?_, fun hi => ?_⟩
  · subst hi
    simp only [Bool.false_eq_true, if_false] at h2
    by_cases hb : out.length < 100000
    · rw [if_pos hb] at h2; exact ⟨hb, h2⟩
    rw [if_neg hb] at h2; cases h2
  subst hi
  simp only [if_true] at h2
  by_cases hn : IN n
  · rw [if_pos hn] at h2
    by_cases ht : IN t
    · rw [if_pos ht] at h2
      obtain ⟨⟨x, D2⟩, h3, h4⟩ := Option.bind_eq_some_iff.mp h2
      refine ⟨hn, ht, x, D2, ?_, fun hz => ?_, fun hz => ?_⟩
      · cases hd : D n with
        | some y =>
          rw [hd] at h3
          simp only [Option.some.injEq, Prod.mk.injEq] at h3
          exact Or.inl ⟨by rw [h3.1], h3.2.symm⟩
        | none =>
          rw [hd] at h3
          obtain ⟨⟨y, D1⟩, h5, h6⟩ := Option.map_eq_some_iff.mp h3
          simp only [Prod.mk.injEq] at h6
          obtain ⟨rfl, rfl⟩ := h6
          exact Or.inr ⟨rfl, D1, h5, rfl⟩
      · simpa [hz] using h4
      simp only [if_neg hz] at h4
      by_cases hb : out.length + t.toNat * x.length ≤ 100000
      · rw [if_pos hb] at h4; exact ⟨hb, h4⟩
      rw [if_neg hb] at h4; cases h4
    rw [if_neg ht] at h2; cases h2
  rw [if_neg hn] at h2; cases h2
theorem rep_succ (m : Nat) (x out : List S32) : out ++ (List.replicate m x).flatten ++ x = out ++ (List.replicate (m + 1) x).flatten := by
  rw [List.replicate_succ', List.flatten_append]
  simp
theorem rep_len (m : Nat) (x : List S32) : ((List.replicate m x).flatten).length = m * x.length := by simp
set_option maxHeartbeats 8000000 in
set_option maxRecDepth 100000 in
theorem expanded_calls (kc : Nat) (w0 : World) (gx g0 g1 g2 g3 g4 : Nat) (subs : Int → List S32) : ∀ (kf : Nat) (l : List S32) (A0 : Option Addr) (c0 : Nat) (ok : Nat → Prop) (D D' : Done) (r : List S32) (W : World), ExpD w0 W gx g0 g1 g2 g3 g4 subs ok D → VR w0 (fun k => k < w0.heap.size) A0 c0 l → expF kc subs kf l D = some (r, D') →
    Calls Try.prog 64 #[.pointer (some ⟨gx, 0, none⟩), .slice A0 l.length c0] W fun e W' => ∃ v : Value, e = .returned v ∧ Kd.N k32 32 W' w0.heap.size (fun k => ok k ∨ W.heap.size ≤ k) v r ∧ (∀ k, v.ownBlock = some k → W.heap.size ≤ k) ∧ ExpD w0 W' gx g0 g1 g2 g3 g4 subs (fun k => ok k ∨ W.heap.size ≤ k) D' ∧ KeepBut W W' g4 none := by
  intro kf
  induction kf with
  | zero => intro l A0 c0 ok D D' r W hE hl h; simp [expF] at h
  | succ kf ih =>
    intro l A0 c0 ok D D' r W hE hl h
    have IH := Aside0.mk ih
    clear ih
    rw [expF] at h
    have hu139 := Try.underlying139
    have hu32 := Try.underlying32
    have HL := Aside0.mk hl
    have HM := Aside0.mk (Kd.C_max (Kd.V_reads' hl).2.2)
    have H := Aside0.mk h
    have OK0 := Aside0.mk hE.ok0
    have OK4 := Aside0.mk hE.ok4
    have LT4 := Aside0.mk hE.lt4
    have SZ0 := Aside0.mk hE.below.size
    obtain ⟨okB, hokB⟩ : ∃ okB : Nat → Prop, okB = fun k => ok k ∨ W.heap.size ≤ k := ⟨_, rfl⟩
    have OKB := Aside0.mk hokB
    have okB0 : Aside0 (∀ k, k < w0.heap.size → okB k) := ⟨fun k hk => by rw [hokB]; exact Or.inl (hE.ok0 k hk)⟩
    have okB1 : Aside0 (∀ k, W.heap.size ≤ k → okB k) := ⟨fun k hk => by rw [hokB]; exact Or.inr hk⟩
    have okB4 : Aside0 (∀ k, okB k → k ≠ g4) := ⟨fun k hk e => by rw [hokB] at hk; subst e; rcases hk with hk | hk; exact hE.ok4 hk; have := hE.lt4; omega⟩
    have HE := Aside0.mk (show ExpD w0 W gx g0 g1 g2 g3 g4 subs (fun k => okB k ∧ some k ≠ (Value.slice none 0 0).ownBlock) D from hE.mono (fun k hk _ => ⟨by rw [hokB]; exact Or.inl hk, by simp [Value.ownBlock]⟩) (fun k hk => ⟨by rw [hokB]; exact Or.inl (hE.ok0 k hk), by simp [Value.ownBlock]⟩) (fun hk => okB4.out g4 hk.1 rfl))
    clear hE hl h hokB
    go_enter Try.func64, Try.ntmps64
    go_wp2
    go_loopw [16, 5] (fun i v w' => ∃ (j : Nat) (out : List S32) (D2 : Done), i = .int .i64 j ∧ Aside0 (j ≤ l.length) ∧ Aside0 (expL kc (expF kc subs kf) subs (l.drop j) out D2 = some (r, D')) ∧ Aside0 (Kd.N k32 32 w' w0.heap.size okB v out) ∧ Aside0 (∀ k, (v : Value).ownBlock = some k → W.heap.size ≤ k) ∧ Aside0 (ExpD w0 w' gx g0 g1 g2 g3 g4 subs (fun k => okB k ∧ some k ≠ (v : Value).ownBlock) D2) ∧ Aside0 (KeepBut W w' g4 none)) (fun i _ _ => l.length - (intOf i).toNat)
    case atStart => exact ⟨0, [], D, rfl, ⟨Nat.zero_le _⟩, ⟨H.out⟩, ⟨Kd.N_nil _ _ _ _ _⟩, ⟨fun k hk => by simp [Value.ownBlock] at hk⟩, ⟨HE.out⟩, ⟨KeepBut.refl _ _ _⟩⟩
    case round =>
      obtain ⟨j, out, D2, rfl, HJ, HI, HN, FR, HE2, HK⟩ := hrel
      clear H HE
      by_cases hlt : j < l.length
      · have HV := Aside0.mk (Kd.V_below HL.out HE2.out.below)
        obtain ⟨ad, A1, c1, e, hx0, hx1, hx2, hl1, hk1⟩ := at_T32 (Kd.V_reads' HV.out).2.2 (j : Int) (by omega) (by omega)
        cases e
        obtain ⟨ce, hce, hMe, hcc⟩ := Kd.V_get HV.out z32 (j : Int) (by omega) (by omega)
        have hrd : rd_T32 l (j : Int) = l[j] := by simp [rd_T32, hlt]
        rw [show l.getD (j : Int).toNat z32 = rd_T32 l (j : Int) from rfl] at hMe
        obtain ⟨ua, uc, rfl, ul, ge⟩ := k32_openF hMe
        have hv1 := hcc 1 _ rfl
        rw [add_field _ _ 1 (by omega)] at hv1
        replace hv1 := Option.some.inj (hv1.symm.trans hx1)
        injection hv1 with hva_ hvn_ hvc_
        rw [hva_] at ge
        clear hva_ hvn_ hvc_ hcc hce hMe ul
        rw [hrd] at hx0 hx1 hx2 hl1 hk1 ge
        obtain ⟨n, t, is, e, hcl, hno, hyes⟩ := exp_step hlt HI.out
        have HCL := Aside0.mk (show subprogram_Call.f kc l[j].f0 l[j].f1 l[j].f2 = some (n, t, is, e) from hcl)
        have HYES := Aside0.mk hyes
        have HNO := Aside0.mk hno
        have HL1 := Aside0.mk hl1
        have HK1 := Aside0.mk hk1
        have GE := Aside0.mk ge
        clear hrd hcl hyes hno hl1 hk1 ge HV
        generalize l[j] = x at *
        simp only [Int.toNat_natCast] at hx0 hx1 hx2
        have hlt' : decide ((j : Int) < (l.length : Int)) = true := by simp; omega
        cases is with
        | false =>
          obtain ⟨hlen, hnext⟩ := HNO.out rfl
          have HLen := Aside0.mk hlen
          have HNX := Aside0.mk hnext
          clear hlen hnext HYES HNO
          go_wp2_with (first | (go_at_call 25; (with_reducible refine (subprogram_Call.calls kc x.f0 A1 c1 x.f1 x.f2 n t false e _ (Kd.C_alloc HK1.out _) HL1.out HCL.out).mono ?_); rintro e2 w2 ⟨rfl, hb2⟩; have HB20 := Aside0.mk (below_then (below_alloc (Below.refl _ _) _) (below_alloc (Below.refl _ _) _).size hb2); have BK := Aside0.mk (blk_below (alloc_at _ _) hb2); clear hb2; have HE3 := Aside0.mk (HE2.out.step HB20.out); have HN3 := Aside0.mk (Kd.N_below HN.out HB20.out); have HK3 := Aside0.mk (keep_below HK.out HB20.out); have hz0 : w2.cell? ⟨wr.heap.size, 0, none⟩ = some (.bool x.f0) := (blk_cell BK.out 0).trans rfl; have hz1 : w2.cell? ⟨wr.heap.size, 1, none⟩ = some (.slice A1 x.f1.length c1) := (blk_cell BK.out 1).trans rfl; have hz2 : w2.cell? ⟨wr.heap.size, 2, none⟩ = some (.string x.f2) := (blk_cell BK.out 2).trans rfl) | ((with_reducible refine gate_builtin (b := .append) (xs := #[.tmp 29, .tmp 31]) rfl ?_); (try (refine gate_guard (by rfl) ?_; dsimp only)); at_builtin; refine Kd.N_append k32 (w0 := w0) w0.heap.size rfl (.tmp 29) (.tmp 31) 35 32 (.agg #[(.bool false), (.slice none 0 0), (.string ⟨#[]⟩)]) 48 rfl Try.underlying35 info32 rfl (by decide) (by omega) u5 out x [.bool x.f0, .slice A1 x.f1.length c1, .string x.f2] okB (fun k => okB k ∧ some k ≠ u5.ownBlock) rfl rfl ?aP (fun _ hk => hk) ?aF ?aO ?aB ?aS ?aL ?_; (case aP => exact k32_mkF _ _ x HL1.out (Kd.F_mono (Kd.F_below GE.out HB20.out) (fun k hk => ⟨okB0.out k hk, fun e => by have := Kd.N_base HN.out k e.symm; omega⟩))); (case aF => exact fun k hk => okB1.out k (Nat.le_trans HK3.out.1 hk)); (case aO => exact HN3.out); (case aB => exact HE3.out.below); (case aS => exact HE3.out.below.size); (case aL => have := HLen.out; omega); intro v3 w3 ho hb hg hat; have HN4 := Aside0.mk ho; have HE4 := Aside0.mk (ExpD.after HE3.out hb hg hat (Kd.N_typed HN3.out) (Kd.N_base ho)); have HK4 := Aside0.mk (keep_own HK3.out hg FR.out); have FR4 := Aside0.mk (fresh_after HK3.out.1 FR.out hat); clear ho hb hg hat))
          go_roundw
          case rel => exact ⟨j + 1, out ++ [x], D2, by rw [wrap_succ hlt HM.out], ⟨by omega⟩, ⟨HNX.out⟩, ⟨HN4.out⟩, ⟨FR4.out⟩, ⟨HE4.out⟩, ⟨HK4.out⟩⟩
          case measure => rw [wrap_succ hlt HM.out]; simp only [intOf, Int.toNat_natCast]; omega
        | true =>
          obtain ⟨hin, hit, xx, D3, hcase, hzero, hpos⟩ := HYES.out rfl
          have HIN := Aside0.mk hin
          have HZ := Aside0.mk hzero
          have HP := Aside0.mk hpos
          obtain ⟨tn, rfl⟩ : ∃ tn : Nat, t = (tn : Int) := ⟨t.toNat, by unfold IN at hit; omega⟩
          have HIT := Aside0.mk hit
          clear hin hit hzero hpos HYES HNO
          rcases hcase with ⟨hd, rfl⟩ | ⟨hd, D1, hrec, rfl⟩
          · have HD := Aside0.mk hd
            clear hd
            by_cases hz : xx.length = 0
            · have tz : ((xx.length : Int) == 0) = true := beq_iff_eq.mpr (by omega)
              have HNX := Aside0.mk (HZ.out hz)
              clear HZ HP hz
              go_wp2_with (first | (go_at_call 25; (with_reducible refine (subprogram_Call.calls kc x.f0 A1 c1 x.f1 x.f2 n tn true e _ (Kd.C_alloc HK1.out _) HL1.out HCL.out).mono ?_); rintro e2 w2 ⟨rfl, hb2⟩; have HB20 := Aside0.mk (below_then (below_alloc (Below.refl _ _) _) (below_alloc (Below.refl _ _) _).size hb2); have BK := Aside0.mk (blk_below (alloc_at _ _) hb2); clear hb2; have HE3 := Aside0.mk (HE2.out.step HB20.out); have HN3 := Aside0.mk (Kd.N_below HN.out HB20.out); have HK3 := Aside0.mk (keep_below HK.out HB20.out); have hz0 : w2.cell? ⟨wr.heap.size, 0, none⟩ = some (.bool x.f0) := (blk_cell BK.out 0).trans rfl; have hz1 : w2.cell? ⟨wr.heap.size, 1, none⟩ = some (.slice A1 x.f1.length c1) := (blk_cell BK.out 1).trans rfl; have hz2 : w2.cell? ⟨wr.heap.size, 2, none⟩ = some (.string x.f2) := (blk_cell BK.out 2).trans rfl; have hq4 : w2.cell? ⟨gx, 4, none⟩ = some (.map (some g4)) := (blk_cell HE3.out.exp 4).trans rfl; have hq0 : w2.cell? ⟨gx, 0, none⟩ = some (.map (some g0)) := (blk_cell HE3.out.exp 0).trans rfl; obtain ⟨F4, fw4, f4⟩ := HE3.out.done; have FW4 := Aside0.mk fw4; obtain ⟨n4_, m4, _⟩ := fw4; have M4 := Aside0.mk m4; have F4H := Aside0.mk f4; obtain ⟨h4a, A4, c4, h4b, h4c⟩ := f4 n; have H4A := Aside0.mk h4a; have H4B := Aside0.mk h4b; have H4C := Aside0.mk h4c; clear m4 f4 h4a h4b h4c) | ((with_reducible refine gate_dst (N := 39) rfl ?_); refine map_lookOk 39 rfl rfl rfl Try.underlying2 Try.underlying135 zero_rows M4.out rfl n rfl HIN.out.wf (.slice A4 xx.length c4) true (by have h_ := H4B.out; rw [HD.out] at h_; exact h_) (by have h_ := H4A.out; rw [HD.out] at h_; exact h_) ?_; have HX := Aside0.mk (show VR w2 (fun k => okB k ∧ some k ≠ u5.ownBlock) A4 c4 xx from by have h_ := H4C.out; rw [HD.out] at h_; exact h_)))
              go_roundw
              case rel => exact ⟨j + 1, out, D3, by rw [wrap_succ hlt HM.out], ⟨by omega⟩, ⟨HNX.out⟩, ⟨HN3.out⟩, ⟨FR.out⟩, ⟨HE3.out⟩, ⟨HK3.out⟩⟩
              case measure => rw [wrap_succ hlt HM.out]; simp only [intOf, Int.toNat_natCast]; omega
            have tz : ((xx.length : Int) == 0) = false := beq_eq_false_iff_ne.mpr (by omega)
            obtain ⟨hlen, hnext⟩ := HP.out hz
            have HLen := Aside0.mk hlen
            have HNX := Aside0.mk hnext
            clear HZ HP hlen hnext hz
            go_wp2_with (first | (go_at_call 25; (with_reducible refine (subprogram_Call.calls kc x.f0 A1 c1 x.f1 x.f2 n tn true e _ (Kd.C_alloc HK1.out _) HL1.out HCL.out).mono ?_); rintro e2 w2 ⟨rfl, hb2⟩; have HB20 := Aside0.mk (below_then (below_alloc (Below.refl _ _) _) (below_alloc (Below.refl _ _) _).size hb2); have BK := Aside0.mk (blk_below (alloc_at _ _) hb2); clear hb2; have HE3 := Aside0.mk (HE2.out.step HB20.out); have HN3 := Aside0.mk (Kd.N_below HN.out HB20.out); have HK3 := Aside0.mk (keep_below HK.out HB20.out); have hz0 : w2.cell? ⟨wr.heap.size, 0, none⟩ = some (.bool x.f0) := (blk_cell BK.out 0).trans rfl; have hz1 : w2.cell? ⟨wr.heap.size, 1, none⟩ = some (.slice A1 x.f1.length c1) := (blk_cell BK.out 1).trans rfl; have hz2 : w2.cell? ⟨wr.heap.size, 2, none⟩ = some (.string x.f2) := (blk_cell BK.out 2).trans rfl; have hq4 : w2.cell? ⟨gx, 4, none⟩ = some (.map (some g4)) := (blk_cell HE3.out.exp 4).trans rfl; have hq0 : w2.cell? ⟨gx, 0, none⟩ = some (.map (some g0)) := (blk_cell HE3.out.exp 0).trans rfl; obtain ⟨F4, fw4, f4⟩ := HE3.out.done; have FW4 := Aside0.mk fw4; obtain ⟨n4_, m4, _⟩ := fw4; have M4 := Aside0.mk m4; have F4H := Aside0.mk f4; obtain ⟨h4a, A4, c4, h4b, h4c⟩ := f4 n; have H4A := Aside0.mk h4a; have H4B := Aside0.mk h4b; have H4C := Aside0.mk h4c; clear m4 f4 h4a h4b h4c) | ((with_reducible refine gate_dst (N := 39) rfl ?_); refine map_lookOk 39 rfl rfl rfl Try.underlying2 Try.underlying135 zero_rows M4.out rfl n rfl HIN.out.wf (.slice A4 xx.length c4) true (by have h_ := H4B.out; rw [HD.out] at h_; exact h_) (by have h_ := H4A.out; rw [HD.out] at h_; exact h_) ?_; have HX := Aside0.mk (show VR w2 (fun k => okB k ∧ some k ≠ u5.ownBlock) A4 c4 xx from by have h_ := H4C.out; rw [HD.out] at h_; exact h_)))
            go_loopw [62, 5] (fun i v5 w' => ∃ (m : Nat), i = .int .i64 m ∧ Aside0 (m ≤ tn) ∧ Aside0 (Kd.N k32 32 w' w0.heap.size okB v5 (out ++ (List.replicate m xx).flatten)) ∧ Aside0 (∀ k, (v5 : Value).ownBlock = some k → W.heap.size ≤ k) ∧ Aside0 (ExpD w0 w' gx g0 g1 g2 g3 g4 subs (fun k => okB k ∧ some k ≠ (v5 : Value).ownBlock) (D3)) ∧ Aside0 (VR w' (fun k => okB k ∧ some k ≠ (v5 : Value).ownBlock) A4 c4 xx) ∧ Aside0 (KeepBut W w' g4 none)) (fun i _ _ => tn - (intOf i).toNat)
            case atStart => exact ⟨0, rfl, ⟨Nat.zero_le _⟩, ⟨by simpa using HN3.out⟩, ⟨FR.out⟩, ⟨HE3.out⟩, ⟨HX.out⟩, ⟨HK3.out⟩⟩
            case round =>
              obtain ⟨m, rfl, HMJ, HN5, FR5, HE5, HV5, HK5⟩ := hrel
              clear HN3 HE3 HK3 HX hz0 hz1 hz2 hq4 hq0 FW4 M4 F4H H4A H4B H4C BK HB20 HN HE2 HK HI
              have HIT2 := HIT.out
              unfold IN at HIT2
              have w1_ : wrap64 ((m : Int) + 1) = ((m + 1 : Nat) : Int) := by have := HMJ.out; unfold wrap64; omega
              clear HIT2
              by_cases hm : m < tn
              · have hm' : decide ((m : Int) < (tn : Int)) = true := by simp; omega
                have HLM := Aside0.mk (show (out ++ (List.replicate m xx).flatten).length + xx.length ≤ 100000 from by have := HLen.out; simp only [Int.toNat_natCast] at this; have h2 : (m + 1) * xx.length ≤ tn * xx.length := Nat.mul_le_mul_right _ hm; rw [Nat.succ_mul] at h2; rw [List.length_append, rep_len]; omega)
                have W1 := Aside0.mk w1_
                clear w1_
                go_wp2_with ((with_reducible refine gate_builtin (b := .append) (xs := #[.tmp 64, .tmp 65]) rfl ?_); (try (refine gate_guard (by rfl) ?_; dsimp only)); at_builtin; refine Kd.N_append_rows k32 (w0 := w0) w0.heap.size rfl (.tmp 64) (.tmp 65) 35 32 (.agg #[(.bool false), (.slice none 0 0), (.string ⟨#[]⟩)]) 48 rfl Try.underlying35 info32 rfl (by decide) (by omega) u5 (out ++ (List.replicate m xx).flatten) xx _ _ _ okB (fun k => okB k ∧ some k ≠ u5.ownBlock) rfl rfl ?aO ?aR (fun _ hk => hk) ?aF ?aB ?aS ?aL ?_; (case aR => exact Kd.V_F HV5.out); (case aF => exact fun k hk => okB1.out k (Nat.le_trans HK5.out.1 hk)); (case aO => exact HN5.out); (case aB => exact HE5.out.below); (case aS => exact HE5.out.below.size); (case aL => have := HLM.out; omega); intro v6 w6 ho hb hg hat; have HN6 := Aside0.mk (show Kd.N k32 32 w6 w0.heap.size okB v6 (out ++ (List.replicate (m + 1) xx).flatten) from by rw [← rep_succ]; exact ho); have HE6 := Aside0.mk (ExpD.after HE5.out hb hg hat (Kd.N_typed HN5.out) (Kd.N_base ho)); have HV6 := Aside0.mk (Kd.V_after HV5.out hg hat); have HK6 := Aside0.mk (keep_own HK5.out hg FR5.out); have FR6 := Aside0.mk (fresh_after HK5.out.1 FR5.out hat); clear ho hb hg hat)
                go_roundw
                case rel => exact ⟨m + 1, by rw [W1.out], ⟨by omega⟩, ⟨HN6.out⟩, ⟨FR6.out⟩, ⟨HE6.out⟩, ⟨HV6.out⟩, ⟨HK6.out⟩⟩
                case measure => rw [W1.out]; simp only [intOf, Int.toNat_natCast]; omega
              have hm' : decide ((m : Int) < (tn : Int)) = false := by simp; omega
              obtain rfl : m = tn := by have := HMJ.out; omega
              clear w1_
              go_wp2
              go_roundw
              case rel => exact ⟨j + 1, out ++ rep (m : Int) xx, D3, by rw [wrap_succ hlt HM.out], ⟨by omega⟩, ⟨HNX.out⟩, ⟨by have := HN5.out; unfold rep; simpa using this⟩, ⟨FR5.out⟩, ⟨HE5.out⟩, ⟨HK5.out⟩⟩
              case measure => rw [wrap_succ hlt HM.out]; simp only [intOf, Int.toNat_natCast]; omega
          have HD := Aside0.mk hd
          have HR := Aside0.mk hrec
          clear hd hrec
          by_cases hz : xx.length = 0
          · have tz : ((xx.length : Int) == 0) = true := beq_iff_eq.mpr (by omega)
            have HNX := Aside0.mk (HZ.out hz)
            clear HZ HP hz
            go_wp2_with (first | (go_at_call 25; (with_reducible refine (subprogram_Call.calls kc x.f0 A1 c1 x.f1 x.f2 n tn true e _ (Kd.C_alloc HK1.out _) HL1.out HCL.out).mono ?_); rintro e2 w2 ⟨rfl, hb2⟩; have HB20 := Aside0.mk (below_then (below_alloc (Below.refl _ _) _) (below_alloc (Below.refl _ _) _).size hb2); have BK := Aside0.mk (blk_below (alloc_at _ _) hb2); clear hb2; have HE3 := Aside0.mk (HE2.out.step HB20.out); have HN3 := Aside0.mk (Kd.N_below HN.out HB20.out); have HK3 := Aside0.mk (keep_below HK.out HB20.out); have hz0 : w2.cell? ⟨wr.heap.size, 0, none⟩ = some (.bool x.f0) := (blk_cell BK.out 0).trans rfl; have hz1 : w2.cell? ⟨wr.heap.size, 1, none⟩ = some (.slice A1 x.f1.length c1) := (blk_cell BK.out 1).trans rfl; have hz2 : w2.cell? ⟨wr.heap.size, 2, none⟩ = some (.string x.f2) := (blk_cell BK.out 2).trans rfl; have hq4 : w2.cell? ⟨gx, 4, none⟩ = some (.map (some g4)) := (blk_cell HE3.out.exp 4).trans rfl; have hq0 : w2.cell? ⟨gx, 0, none⟩ = some (.map (some g0)) := (blk_cell HE3.out.exp 0).trans rfl; obtain ⟨F4, fw4, f4⟩ := HE3.out.done; have FW4 := Aside0.mk fw4; obtain ⟨n4_, m4, _⟩ := fw4; have M4 := Aside0.mk m4; have F4H := Aside0.mk f4; obtain ⟨h4a, A4, c4, h4b, h4c⟩ := f4 n; have H4A := Aside0.mk h4a; have H4B := Aside0.mk h4b; have H4C := Aside0.mk h4c; clear m4 f4 h4a h4b h4c) | ((with_reducible refine gate_dst (N := 39) rfl ?_); refine map_lookOk 39 rfl rfl rfl Try.underlying2 Try.underlying135 zero_rows M4.out rfl n rfl HIN.out.wf (.slice A4 0 c4) false (by have h_ := H4B.out; rw [HD.out] at h_; exact h_) (by have h_ := H4A.out; rw [HD.out] at h_; exact h_) ?_; obtain ⟨F0, ⟨n0_, m0, _⟩, f0⟩ := HE3.out.sub; obtain ⟨A5, c5, h5, v5_⟩ := f0 n; have M0 := Aside0.mk m0; have H5 := Aside0.mk h5; have V5 := Aside0.mk v5_; clear m0 f0 h5 v5_) | ((with_reducible refine gate_dst (N := 50) rfl ?_); refine map_look 50 rfl rfl rfl Try.underlying2 Try.underlying135 zero_rows M0.out rfl n rfl HIN.out.wf (.slice A5 (subs n).length c5) H5.out ?_) | (go_at_call 64; (with_reducible refine (IH.out (subs n) A5 c5 (fun k => (okB k ∧ some k ≠ u5.ownBlock) ∧ k < w2.heap.size) D2 D1 xx w2 ?rE V5.out HR.out).mono ?_); (case rE => exact HE3.out.mono (fun k hk hlt => ⟨hk, hlt⟩) (fun k hk => ⟨HE3.out.ok0 k hk, Nat.lt_of_lt_of_le hk HE3.out.below.size⟩) (fun hk => HE3.out.ok4 hk.1)); rintro e3 w3 ⟨v3, rfl, hn3, hf3, he3, hk3⟩; obtain ⟨A6, c6, rfl⟩ := Kd.N_slice hn3; have LTO := Aside0.mk (Kd.N_lt HN3.out); have UP := Aside0.mk (show ∀ k, (((okB k ∧ some k ≠ u5.ownBlock) ∧ k < w2.heap.size) ∨ w2.heap.size ≤ k) → (okB k ∧ some k ≠ u5.ownBlock) from fun k hk => by rcases hk with hk | hk; exact hk.1; exact ⟨okB1.out k (Nat.le_trans HK3.out.1 hk), fun e => by have := LTO.out k e.symm; omega⟩); have HX3 := Aside0.mk (show VR w3 (fun k => okB k ∧ some k ≠ u5.ownBlock) A6 c6 xx from Kd.V_mono (Kd.N_V hn3) UP.out); have HE4 := Aside0.mk (show ExpD w0 w3 gx g0 g1 g2 g3 g4 subs (fun k => okB k ∧ some k ≠ u5.ownBlock) D1 from he3.mono (fun k hk _ => UP.out k hk) HE3.out.ok0 HE3.out.ok4); have HK4 := Aside0.mk (keep_trans HK3.out hk3); have HN4 := Aside0.mk (Kd.N_keep HN3.out hk3 okB4.out); clear hn3 hf3 he3 hk3; obtain ⟨F6, fw6, f6⟩ := HE4.out.done; have FW6 := Aside0.mk fw6; have F6H := Aside0.mk f6; clear fw6 f6; have hq4_3 : w3.cell? ⟨gx, 4, none⟩ = some (.map (some g4)) := (blk_cell HE4.out.exp 4).trans rfl) | (refine few_put rfl rfl Try.underlying2 Try.underlying135 FW6.out rfl n rfl HIN.out.wf (by have := HIN.out; unfold IN at this; omega) (by have := HIN.out; unfold IN at this; omega) (.slice A6 xx.length c6) rfl ?_; intro w5 hm5 hg5; have HE5_ := Aside0.mk (HE4.out.put hg5 (DoneMap.put F6H.out hm5 HX3.out hg5 HE4.out.ok4)); have HX5 := Aside0.mk (show VR w5 (fun k => okB k ∧ some k ≠ u5.ownBlock) A6 c6 xx from Kd.V_grown HX3.out hg5 (fun k hk => someNe (okB4.out k hk.1))); have HN5_ := Aside0.mk (Kd.N_grown HN4.out hg5 (fun k hk => someNe (okB4.out k hk))); have HK5_ := Aside0.mk (keep_map HK4.out hg5); clear hm5 hg5))
            go_roundw
            case rel => exact ⟨j + 1, out, updD D1 n xx, by rw [wrap_succ hlt HM.out], ⟨by omega⟩, ⟨HNX.out⟩, ⟨HN5_.out⟩, ⟨FR.out⟩, ⟨HE5_.out⟩, ⟨HK5_.out⟩⟩
            case measure => rw [wrap_succ hlt HM.out]; simp only [intOf, Int.toNat_natCast]; omega
          have tz : ((xx.length : Int) == 0) = false := beq_eq_false_iff_ne.mpr (by omega)
          obtain ⟨hlen, hnext⟩ := HP.out hz
          have HLen := Aside0.mk hlen
          have HNX := Aside0.mk hnext
          clear HZ HP hlen hnext hz
          go_wp2_with (first | (go_at_call 25; (with_reducible refine (subprogram_Call.calls kc x.f0 A1 c1 x.f1 x.f2 n tn true e _ (Kd.C_alloc HK1.out _) HL1.out HCL.out).mono ?_); rintro e2 w2 ⟨rfl, hb2⟩; have HB20 := Aside0.mk (below_then (below_alloc (Below.refl _ _) _) (below_alloc (Below.refl _ _) _).size hb2); have BK := Aside0.mk (blk_below (alloc_at _ _) hb2); clear hb2; have HE3 := Aside0.mk (HE2.out.step HB20.out); have HN3 := Aside0.mk (Kd.N_below HN.out HB20.out); have HK3 := Aside0.mk (keep_below HK.out HB20.out); have hz0 : w2.cell? ⟨wr.heap.size, 0, none⟩ = some (.bool x.f0) := (blk_cell BK.out 0).trans rfl; have hz1 : w2.cell? ⟨wr.heap.size, 1, none⟩ = some (.slice A1 x.f1.length c1) := (blk_cell BK.out 1).trans rfl; have hz2 : w2.cell? ⟨wr.heap.size, 2, none⟩ = some (.string x.f2) := (blk_cell BK.out 2).trans rfl; have hq4 : w2.cell? ⟨gx, 4, none⟩ = some (.map (some g4)) := (blk_cell HE3.out.exp 4).trans rfl; have hq0 : w2.cell? ⟨gx, 0, none⟩ = some (.map (some g0)) := (blk_cell HE3.out.exp 0).trans rfl; obtain ⟨F4, fw4, f4⟩ := HE3.out.done; have FW4 := Aside0.mk fw4; obtain ⟨n4_, m4, _⟩ := fw4; have M4 := Aside0.mk m4; have F4H := Aside0.mk f4; obtain ⟨h4a, A4, c4, h4b, h4c⟩ := f4 n; have H4A := Aside0.mk h4a; have H4B := Aside0.mk h4b; have H4C := Aside0.mk h4c; clear m4 f4 h4a h4b h4c) | ((with_reducible refine gate_dst (N := 39) rfl ?_); refine map_lookOk 39 rfl rfl rfl Try.underlying2 Try.underlying135 zero_rows M4.out rfl n rfl HIN.out.wf (.slice A4 0 c4) false (by have h_ := H4B.out; rw [HD.out] at h_; exact h_) (by have h_ := H4A.out; rw [HD.out] at h_; exact h_) ?_; obtain ⟨F0, ⟨n0_, m0, _⟩, f0⟩ := HE3.out.sub; obtain ⟨A5, c5, h5, v5_⟩ := f0 n; have M0 := Aside0.mk m0; have H5 := Aside0.mk h5; have V5 := Aside0.mk v5_; clear m0 f0 h5 v5_) | ((with_reducible refine gate_dst (N := 50) rfl ?_); refine map_look 50 rfl rfl rfl Try.underlying2 Try.underlying135 zero_rows M0.out rfl n rfl HIN.out.wf (.slice A5 (subs n).length c5) H5.out ?_) | (go_at_call 64; (with_reducible refine (IH.out (subs n) A5 c5 (fun k => (okB k ∧ some k ≠ u5.ownBlock) ∧ k < w2.heap.size) D2 D1 xx w2 ?rE V5.out HR.out).mono ?_); (case rE => exact HE3.out.mono (fun k hk hlt => ⟨hk, hlt⟩) (fun k hk => ⟨HE3.out.ok0 k hk, Nat.lt_of_lt_of_le hk HE3.out.below.size⟩) (fun hk => HE3.out.ok4 hk.1)); rintro e3 w3 ⟨v3, rfl, hn3, hf3, he3, hk3⟩; obtain ⟨A6, c6, rfl⟩ := Kd.N_slice hn3; have LTO := Aside0.mk (Kd.N_lt HN3.out); have UP := Aside0.mk (show ∀ k, (((okB k ∧ some k ≠ u5.ownBlock) ∧ k < w2.heap.size) ∨ w2.heap.size ≤ k) → (okB k ∧ some k ≠ u5.ownBlock) from fun k hk => by rcases hk with hk | hk; exact hk.1; exact ⟨okB1.out k (Nat.le_trans HK3.out.1 hk), fun e => by have := LTO.out k e.symm; omega⟩); have HX3 := Aside0.mk (show VR w3 (fun k => okB k ∧ some k ≠ u5.ownBlock) A6 c6 xx from Kd.V_mono (Kd.N_V hn3) UP.out); have HE4 := Aside0.mk (show ExpD w0 w3 gx g0 g1 g2 g3 g4 subs (fun k => okB k ∧ some k ≠ u5.ownBlock) D1 from he3.mono (fun k hk _ => UP.out k hk) HE3.out.ok0 HE3.out.ok4); have HK4 := Aside0.mk (keep_trans HK3.out hk3); have HN4 := Aside0.mk (Kd.N_keep HN3.out hk3 okB4.out); clear hn3 hf3 he3 hk3; obtain ⟨F6, fw6, f6⟩ := HE4.out.done; have FW6 := Aside0.mk fw6; have F6H := Aside0.mk f6; clear fw6 f6; have hq4_3 : w3.cell? ⟨gx, 4, none⟩ = some (.map (some g4)) := (blk_cell HE4.out.exp 4).trans rfl) | (refine few_put rfl rfl Try.underlying2 Try.underlying135 FW6.out rfl n rfl HIN.out.wf (by have := HIN.out; unfold IN at this; omega) (by have := HIN.out; unfold IN at this; omega) (.slice A6 xx.length c6) rfl ?_; intro w5 hm5 hg5; have HE5_ := Aside0.mk (HE4.out.put hg5 (DoneMap.put F6H.out hm5 HX3.out hg5 HE4.out.ok4)); have HX5 := Aside0.mk (show VR w5 (fun k => okB k ∧ some k ≠ u5.ownBlock) A6 c6 xx from Kd.V_grown HX3.out hg5 (fun k hk => someNe (okB4.out k hk.1))); have HN5_ := Aside0.mk (Kd.N_grown HN4.out hg5 (fun k hk => someNe (okB4.out k hk))); have HK5_ := Aside0.mk (keep_map HK4.out hg5); clear hm5 hg5))
          go_loopw [62, 5] (fun i v5 w' => ∃ (m : Nat), i = .int .i64 m ∧ Aside0 (m ≤ tn) ∧ Aside0 (Kd.N k32 32 w' w0.heap.size okB v5 (out ++ (List.replicate m xx).flatten)) ∧ Aside0 (∀ k, (v5 : Value).ownBlock = some k → W.heap.size ≤ k) ∧ Aside0 (ExpD w0 w' gx g0 g1 g2 g3 g4 subs (fun k => okB k ∧ some k ≠ (v5 : Value).ownBlock) (updD D1 n xx)) ∧ Aside0 (VR w' (fun k => okB k ∧ some k ≠ (v5 : Value).ownBlock) A6 c6 xx) ∧ Aside0 (KeepBut W w' g4 none)) (fun i _ _ => tn - (intOf i).toNat)
          case atStart => exact ⟨0, rfl, ⟨Nat.zero_le _⟩, ⟨by simpa using HN5_.out⟩, ⟨FR.out⟩, ⟨HE5_.out⟩, ⟨HX5.out⟩, ⟨HK5_.out⟩⟩
          case round =>
            obtain ⟨m, rfl, HMJ, HN5, FR5, HE5, HV5, HK5⟩ := hrel
            clear HN5_ HE5_ HK5_ HX5 hz0 hz1 hz2 hq4 hq0 hq4_3 FW4 M4 F4H H4A H4B H4C M0 H5 V5 FW6 F6H HE4 HK4 HN4 HX3 UP LTO BK HB20 HN HN3 HE3 HE2 HK HK3 HI HR
            have HIT2 := HIT.out
            unfold IN at HIT2
            have w1_ : wrap64 ((m : Int) + 1) = ((m + 1 : Nat) : Int) := by have := HMJ.out; unfold wrap64; omega
            clear HIT2
            by_cases hm : m < tn
            · have hm' : decide ((m : Int) < (tn : Int)) = true := by simp; omega
              have HLM := Aside0.mk (show (out ++ (List.replicate m xx).flatten).length + xx.length ≤ 100000 from by have := HLen.out; simp only [Int.toNat_natCast] at this; have h2 : (m + 1) * xx.length ≤ tn * xx.length := Nat.mul_le_mul_right _ hm; rw [Nat.succ_mul] at h2; rw [List.length_append, rep_len]; omega)
              have W1 := Aside0.mk w1_
              clear w1_
              go_wp2_with ((with_reducible refine gate_builtin (b := .append) (xs := #[.tmp 64, .tmp 65]) rfl ?_); (try (refine gate_guard (by rfl) ?_; dsimp only)); at_builtin; refine Kd.N_append_rows k32 (w0 := w0) w0.heap.size rfl (.tmp 64) (.tmp 65) 35 32 (.agg #[(.bool false), (.slice none 0 0), (.string ⟨#[]⟩)]) 48 rfl Try.underlying35 info32 rfl (by decide) (by omega) u5 (out ++ (List.replicate m xx).flatten) xx _ _ _ okB (fun k => okB k ∧ some k ≠ u5.ownBlock) rfl rfl ?aO ?aR (fun _ hk => hk) ?aF ?aB ?aS ?aL ?_; (case aR => exact Kd.V_F HV5.out); (case aF => exact fun k hk => okB1.out k (Nat.le_trans HK5.out.1 hk)); (case aO => exact HN5.out); (case aB => exact HE5.out.below); (case aS => exact HE5.out.below.size); (case aL => have := HLM.out; omega); intro v6 w6 ho hb hg hat; have HN6 := Aside0.mk (show Kd.N k32 32 w6 w0.heap.size okB v6 (out ++ (List.replicate (m + 1) xx).flatten) from by rw [← rep_succ]; exact ho); have HE6 := Aside0.mk (ExpD.after HE5.out hb hg hat (Kd.N_typed HN5.out) (Kd.N_base ho)); have HV6 := Aside0.mk (Kd.V_after HV5.out hg hat); have HK6 := Aside0.mk (keep_own HK5.out hg FR5.out); have FR6 := Aside0.mk (fresh_after HK5.out.1 FR5.out hat); clear ho hb hg hat)
              go_roundw
              case rel => exact ⟨m + 1, by rw [W1.out], ⟨by omega⟩, ⟨HN6.out⟩, ⟨FR6.out⟩, ⟨HE6.out⟩, ⟨HV6.out⟩, ⟨HK6.out⟩⟩
              case measure => rw [W1.out]; simp only [intOf, Int.toNat_natCast]; omega
            have hm' : decide ((m : Int) < (tn : Int)) = false := by simp; omega
            obtain rfl : m = tn := by have := HMJ.out; omega
            clear w1_
            go_wp2
            go_roundw
            case rel => exact ⟨j + 1, out ++ rep (m : Int) xx, updD D1 n xx, by rw [wrap_succ hlt HM.out], ⟨by omega⟩, ⟨HNX.out⟩, ⟨by have := HN5.out; unfold rep; simpa using this⟩, ⟨FR5.out⟩, ⟨HE5.out⟩, ⟨HK5.out⟩⟩
            case measure => rw [wrap_succ hlt HM.out]; simp only [intOf, Int.toNat_natCast]; omega
      have hlt' : decide ((j : Int) < (l.length : Int)) = false := by simp; omega
      have hI := HI.out
      rw [List.drop_eq_nil_of_le (by omega), expL] at hI
      simp only [Option.some.injEq, Prod.mk.injEq] at hI
      obtain ⟨rfl, rfl⟩ := hI
      go_wp2
      go_ret
      obtain rfl := OKB.out
      exact ⟨_, rfl, HN.out, FR.out, HE2.out.mono (fun k hk _ => hk.1) (fun k hk => Or.inl (OK0.out k hk)) (fun hk => okB4.out g4 hk rfl), HK.out⟩
abbrev SubsO := Int → Option (List S32)
def checkedF (k : Nat) (l0 : List S32) (l1 : List S81) : Option (Int × SubsO × St3 × Int) :=
  (newF k l0 l1).bind fun q => if q.1 = 0 then (sumL k q.2.2.2.1 q.2.2.2.2 l0 0 0).bind fun s => if s.1 > 8 then some (3, q.2.1, q.2.2, 0) else if s.2 > 20000 then some (3, q.2.1, q.2.2, 0) else some (0, q.2.1, q.2.2, s.2) else some (q.1, q.2.1, q.2.2, 0)
def subprogram_Expand.f (k : Nat) (l0_0 : List (S32)) (l0_1 : List (S81)) : Option ((List (S32)) × Int) :=
  (checkedF k l0_0 l0_1).bind fun q => if q.1 = 0 then (expF k (fun y => (q.2.1 y).getD []) k l0_0 (fun _ => none)).bind fun r => if (decide (r.1.length < 1000000) && r.1.all (fun x => decide (x.f1.length < 1000000))) = true then some (r.1, 0) else none else some ([], q.1)
def CheckPost (w : World) (er size : Int) (M : SubsO) (S : St3) (e : Ending) (w' : World) : Prop := ∃ pp : Option Addr, e = .returned (.tuple #[.pointer pp, .int .i64 size, .int .i64 er]) ∧ Below w.heap.size w w' ∧ (er = 0 → ∃ gx g0 g1 g2 g3 g4, pp = some ⟨gx, 0, none⟩ ∧ ExpW w w' gx g0 g1 g2 g3 g4 (fun y => (M y).getD []) S)
theorem CheckPost.of {w w' : World} {er size : Int} {M : SubsO} {S : St3} (pp : Option Addr) (h1 : Below w.heap.size w w') (h2 : er = 0 → ∃ gx g0 g1 g2 g3 g4, pp = some ⟨gx, 0, none⟩ ∧ ExpW w w' gx g0 g1 g2 g3 g4 (fun y => (M y).getD []) S) : CheckPost w er size M S (.returned (.tuple #[.pointer pp, .int .i64 size, .int .i64 er])) w' := ⟨pp, rfl, h1, h2⟩
theorem ExpW.from {w w1 W : World} {gx g0 g1 g2 g3 g4 : Nat} {subs : Int → List S32} {S : St3} (h : ExpW w1 W gx g0 g1 g2 g3 g4 subs S) (hb : Below w.heap.size w w1) (hs : SubMap w W g0 subs) : ExpW w W gx g0 g1 g2 g3 g4 subs S := by
  have := hb.size
  have h1 := h.ge1
  have h2 := h.ge2
  have h3 := h.ge3
  have h4 := h.ge4
  exact { h with below := below_then hb hb.size h.below, sub := hs, ge1 := by omega, ge2 := by omega, ge3 := by omega, ge4 := by omega }
def CheckPost' (w : World) (er size : Int) (M : SubsO) (S : St3) (e : Ending) (w' : World) : Prop := ∃ pp : Option Addr, e = .returned (.tuple #[.pointer pp, .int .i64 size, .int .i64 er]) ∧ Below w.heap.size w w' ∧ (er = 0 → ∃ wg gx g0 g1 g2 g3 g4, Below w.heap.size w wg ∧ pp = some ⟨gx, 0, none⟩ ∧ ExpW wg w' gx g0 g1 g2 g3 g4 (fun y => (M y).getD []) S)
theorem CheckPost'.of {w w' : World} {er size : Int} {M : SubsO} {S : St3} (pp : Option Addr) (h1 : Below w.heap.size w w') (h2 : er = 0 → ∃ wg gx g0 g1 g2 g3 g4, Below w.heap.size w wg ∧ pp = some ⟨gx, 0, none⟩ ∧ ExpW wg w' gx g0 g1 g2 g3 g4 (fun y => (M y).getD []) S) : CheckPost' w er size M S (.returned (.tuple #[.pointer pp, .int .i64 size, .int .i64 er])) w' := ⟨pp, rfl, h1, h2⟩
set_option maxHeartbeats 4000000 in
set_option maxRecDepth 100000 in
theorem checked_calls (k : Nat) (A0 : Option Addr) (c0 : Nat) (l0 : List S32) (A1 : Option Addr) (c1 : Nat) (l1 : List S81) (er size : Int) (M : SubsO) (S : St3) (w : World) (hr0_0 : Kd.C k32 w A0 l0.length l0) (hc0_0 : l0.length ≤ c0) (hr0_1 : Kd.C k81 w A1 l1.length l1) (hc0_1 : l1.length ≤ c1) (h : checkedF k l0 l1 = some (er, M, S, size)) :
    Calls Try.prog 63 #[.agg #[.slice A0 l0.length c0, .slice A1 l1.length c1]] w (CheckPost' w er size M S) := by
  have hu54 := Try.underlying54
  unfold checkedF at h
  obtain ⟨⟨e0, M0, S0⟩, hn, h2⟩ := Option.bind_eq_some_iff.mp h
  have HR0 := Aside0.mk hr0_0
  have HC0 := Aside0.mk hc0_0
  have HR1 := Aside0.mk hr0_1
  have HC1 := Aside0.mk hc0_1
  have HN := Aside0.mk hn
  have H := Aside0.mk h2
  clear hr0_0 hc0_0 hr0_1 hc0_1 h hn h2
  by_cases he : e0 = 0
  · subst he
    have H2 := H.out
    simp only [if_true] at H2
    obtain ⟨⟨d, s⟩, hs, H3⟩ := Option.bind_eq_some_iff.mp H2
    have HS := Aside0.mk hs
    have HT := Aside0.mk H3
    clear H2 hs H3 H
    by_cases hd : d > 8
    · have H4 := HT.out
      simp only [if_pos hd, Option.some.injEq, Prod.mk.injEq] at H4
      obtain ⟨rfl, rfl, rfl, rfl⟩ := H4
      clear HT
      go_enter Try.func63, Try.ntmps63
      go_wp2_with (first | ((with_reducible refine gate_dst (N := 1) rfl ?_); refine yX 1 #[.slice A0 l0.length c0, .slice A1 l1.length c1] 54 ?_; intro gp hgp w1 hbox hb; have BP1 := Aside0.mk hbox; have HB1 := Aside0.mk hb; clear hgp hbox hb; have hz0_1 : w1.cell? ⟨gp, 0, none⟩ = some (.slice A0 l0.length c0) := (blk_cell BP1.out 0).trans rfl; have hz1_1 : w1.cell? ⟨gp, 1, none⟩ = some (.slice A1 l1.length c1) := (blk_cell BP1.out 1).trans rfl) | (go_at_call 94; (with_reducible refine (newExpander_calls k A0 c0 l0 A1 c1 l1 0 _ _ _ (Kd.C_below HR0.out HB1.out) HC0.out (Kd.C_below HR1.out HB1.out) HC1.out HN.out).mono ?_); rintro e2 w2 hpost; obtain ⟨pp, rfl, hb2, himp⟩ := hpost; have HB2 := Aside0.mk (below_then HB1.out HB1.out.size hb2); have BP2 := Aside0.mk (blk_below BP1.out hb2); obtain ⟨gx, g0, g1, g2, g3, g4, rfl, hew⟩ := himp rfl; have HE2 := Aside0.mk hew; clear himp hew hb2 hz0_1 hz1_1; have hz0_2 : w2.cell? ⟨gp, 0, none⟩ = some (.slice A0 l0.length c0) := (blk_cell BP2.out 0).trans rfl) | (go_at_call 95; (with_reducible refine (sum_calls k gx g0 g1 g2 g3 g4 _ _ A0 c0 l0 d s _ HE2.out.exp HE2.out.m2 HE2.out.m3 (Kd.C_below HR0.out HB2.out) HC0.out HS.out).mono ?_); rintro e3 w3 ⟨rfl, hb3⟩; have HB3 := Aside0.mk (below_then HB2.out HB2.out.size hb3); have HE3 := Aside0.mk (HE2.out.step hb3); clear hb3))
      refine bodyPost_ret (results_list (rs := [.tmp 2, .tmp 3, .tmp 4]) rfl (by simp) (.tmp (.tmp (.tmp .nil)))) rfl ?_
      exact CheckPost'.of none HB3.out (fun h => absurd h (by decide))
    by_cases hs2 : s > 20000
    · have H4 := HT.out
      simp only [if_neg hd, if_pos hs2, Option.some.injEq, Prod.mk.injEq] at H4
      obtain ⟨rfl, rfl, rfl, rfl⟩ := H4
      clear HT
      go_enter Try.func63, Try.ntmps63
      go_wp2_with (first | ((with_reducible refine gate_dst (N := 1) rfl ?_); refine yX 1 #[.slice A0 l0.length c0, .slice A1 l1.length c1] 54 ?_; intro gp hgp w1 hbox hb; have BP1 := Aside0.mk hbox; have HB1 := Aside0.mk hb; clear hgp hbox hb; have hz0_1 : w1.cell? ⟨gp, 0, none⟩ = some (.slice A0 l0.length c0) := (blk_cell BP1.out 0).trans rfl; have hz1_1 : w1.cell? ⟨gp, 1, none⟩ = some (.slice A1 l1.length c1) := (blk_cell BP1.out 1).trans rfl) | (go_at_call 94; (with_reducible refine (newExpander_calls k A0 c0 l0 A1 c1 l1 0 _ _ _ (Kd.C_below HR0.out HB1.out) HC0.out (Kd.C_below HR1.out HB1.out) HC1.out HN.out).mono ?_); rintro e2 w2 hpost; obtain ⟨pp, rfl, hb2, himp⟩ := hpost; have HB2 := Aside0.mk (below_then HB1.out HB1.out.size hb2); have BP2 := Aside0.mk (blk_below BP1.out hb2); obtain ⟨gx, g0, g1, g2, g3, g4, rfl, hew⟩ := himp rfl; have HE2 := Aside0.mk hew; clear himp hew hb2 hz0_1 hz1_1; have hz0_2 : w2.cell? ⟨gp, 0, none⟩ = some (.slice A0 l0.length c0) := (blk_cell BP2.out 0).trans rfl) | (go_at_call 95; (with_reducible refine (sum_calls k gx g0 g1 g2 g3 g4 _ _ A0 c0 l0 d s _ HE2.out.exp HE2.out.m2 HE2.out.m3 (Kd.C_below HR0.out HB2.out) HC0.out HS.out).mono ?_); rintro e3 w3 ⟨rfl, hb3⟩; have HB3 := Aside0.mk (below_then HB2.out HB2.out.size hb3); have HE3 := Aside0.mk (HE2.out.step hb3); clear hb3))
      refine bodyPost_ret (results_list (rs := [.tmp 2, .tmp 3, .tmp 4]) rfl (by simp) (.tmp (.tmp (.tmp .nil)))) rfl ?_
      exact CheckPost'.of none HB3.out (fun h => absurd h (by decide))
    have H4 := HT.out
    simp only [if_neg hd, if_neg hs2, Option.some.injEq, Prod.mk.injEq] at H4
    obtain ⟨rfl, rfl, rfl, rfl⟩ := H4
    clear HT
    go_enter Try.func63, Try.ntmps63
    go_wp2_with (first | ((with_reducible refine gate_dst (N := 1) rfl ?_); refine yX 1 #[.slice A0 l0.length c0, .slice A1 l1.length c1] 54 ?_; intro gp hgp w1 hbox hb; have BP1 := Aside0.mk hbox; have HB1 := Aside0.mk hb; clear hgp hbox hb; have hz0_1 : w1.cell? ⟨gp, 0, none⟩ = some (.slice A0 l0.length c0) := (blk_cell BP1.out 0).trans rfl; have hz1_1 : w1.cell? ⟨gp, 1, none⟩ = some (.slice A1 l1.length c1) := (blk_cell BP1.out 1).trans rfl) | (go_at_call 94; (with_reducible refine (newExpander_calls k A0 c0 l0 A1 c1 l1 0 _ _ _ (Kd.C_below HR0.out HB1.out) HC0.out (Kd.C_below HR1.out HB1.out) HC1.out HN.out).mono ?_); rintro e2 w2 hpost; obtain ⟨pp, rfl, hb2, himp⟩ := hpost; have HB2 := Aside0.mk (below_then HB1.out HB1.out.size hb2); have BP2 := Aside0.mk (blk_below BP1.out hb2); obtain ⟨gx, g0, g1, g2, g3, g4, rfl, hew⟩ := himp rfl; have HE2 := Aside0.mk hew; clear himp hew hb2 hz0_1 hz1_1; have hz0_2 : w2.cell? ⟨gp, 0, none⟩ = some (.slice A0 l0.length c0) := (blk_cell BP2.out 0).trans rfl) | (go_at_call 95; (with_reducible refine (sum_calls k gx g0 g1 g2 g3 g4 _ _ A0 c0 l0 d s _ HE2.out.exp HE2.out.m2 HE2.out.m3 (Kd.C_below HR0.out HB2.out) HC0.out HS.out).mono ?_); rintro e3 w3 ⟨rfl, hb3⟩; have HB3 := Aside0.mk (below_then HB2.out HB2.out.size hb3); have HE3 := Aside0.mk (HE2.out.step hb3); clear hb3))
    refine bodyPost_ret (results_list (rs := [.tmp 2, .tmp 3, .tmp 4]) rfl (by simp) (.tmp (.tmp (.tmp .nil)))) rfl ?_
    exact CheckPost'.of (some ⟨gx, 0, none⟩) HB3.out (fun _ => ⟨w1, gx, g0, g1, g2, g3, g4, HB1.out, rfl, HE3.out⟩)
  have H4 := H.out
  simp only [if_neg he, Option.some.injEq, Prod.mk.injEq] at H4
  obtain ⟨rfl, rfl, rfl, rfl⟩ := H4
  have hne : (e0 == 0) = false := beq_eq_false_iff_ne.mpr he
  have hne2 : (e0 != 0) = true := bne_iff_ne.mpr he
  have HE0 := Aside0.mk he
  clear H he
  go_enter Try.func63, Try.ntmps63
  go_wp2_with (first | ((with_reducible refine gate_dst (N := 1) rfl ?_); refine yX 1 #[.slice A0 l0.length c0, .slice A1 l1.length c1] 54 ?_; intro gp hgp w1 hbox hb; have BP1 := Aside0.mk hbox; have HB1 := Aside0.mk hb; clear hgp hbox hb; have hz0_1 : w1.cell? ⟨gp, 0, none⟩ = some (.slice A0 l0.length c0) := (blk_cell BP1.out 0).trans rfl; have hz1_1 : w1.cell? ⟨gp, 1, none⟩ = some (.slice A1 l1.length c1) := (blk_cell BP1.out 1).trans rfl) | (go_at_call 94; (with_reducible refine (newExpander_calls k A0 c0 l0 A1 c1 l1 e0 _ _ _ (Kd.C_below HR0.out HB1.out) HC0.out (Kd.C_below HR1.out HB1.out) HC1.out HN.out).mono ?_); rintro e2 w2 hpost; obtain ⟨pp, rfl, hb2, himp⟩ := hpost; have HB2 := Aside0.mk (below_then HB1.out HB1.out.size hb2); have BP2 := Aside0.mk (blk_below BP1.out hb2); clear himp hb2))
  refine bodyPost_ret (results_list (rs := [.tmp 2, .tmp 3, .tmp 4]) rfl (by simp) (.tmp (.tmp (.tmp .nil)))) rfl ?_
  exact CheckPost'.of none HB2.out (fun h => absurd h HE0.out)
theorem ExpW.expD {w W : World} {gx g0 g1 g2 g3 g4 : Nat} {subs : Int → List S32} {S : St3} (h : ExpW w W gx g0 g1 g2 g3 g4 subs S) : ExpD w W gx g0 g1 g2 g3 g4 subs (fun k => k < w.heap.size) (fun _ => none) := by
  have h4 := h.ge4
  refine { below := h.below, exp := h.exp, sub := ?_, done := ⟨_, h.m4, fun y => ⟨rfl, none, 0, rfl, Kd.V_nil _ _ _ _ _⟩⟩, n04 := h.n04, ge4 := h.ge4, lt4 := h.m4.lt, ok0 := fun _ hk => hk, ok4 := fun hk => by omega }
  obtain ⟨F, hm, hf⟩ := h.sub
  refine ⟨F, hm, fun y => ?_⟩
  obtain ⟨A, c, h1, h2, h3⟩ := hf y
  exact ⟨A, c, h1, Kd.V_mk h2 (Kd.C_F k32_heap h3)⟩
set_option maxHeartbeats 8000000 in
set_option maxRecDepth 100000 in
theorem subprogram_Expand.calls (k : Nat) (A0 : Option Addr) (c0 : Nat) (l0 : List S32) (A1 : Option Addr) (c1 : Nat) (l1 : List S81) (r1 : List (S32)) (r2 : Int) (w : World) (hr0_0 : Kd.C k32 w A0 l0.length l0) (hc0_0 : l0.length ≤ c0) (hr0_1 : Kd.C k81 w A1 l1.length l1) (hc0_1 : l1.length ≤ c1) (h : subprogram_Expand.f k l0 l1 = some (r1, r2)) :
    Calls Try.prog 28 #[.agg #[.slice A0 l0.length c0, .slice A1 l1.length c1]] w fun e w' => ∃ v0_ : Value, e = .returned (.tuple #[v0_, .int .i64 r2]) ∧ Kd.S k32 32 w' w.heap.size (fun _ => True) v0_ r1 ∧ Below w.heap.size w w' := by
  have hu54 := Try.underlying54
  have hu32 := Try.underlying32
  unfold subprogram_Expand.f at h
  obtain ⟨⟨e0, M0, S0, z0⟩, hn, h2⟩ := Option.bind_eq_some_iff.mp h
  have HR0 := Aside0.mk hr0_0
  have HC0 := Aside0.mk hc0_0
  have HR1 := Aside0.mk hr0_1
  have HC1 := Aside0.mk hc0_1
  have HQ := Aside0.mk hn
  have H := Aside0.mk h2
  clear hr0_0 hc0_0 hr0_1 hc0_1 h hn h2
  by_cases he : e0 = 0
  · subst he
    have H2 := H.out
    simp only [if_true] at H2
    obtain ⟨⟨rr, D1⟩, hx, H3⟩ := Option.bind_eq_some_iff.mp H2
    have HX := Aside0.mk hx
    by_cases hgd : (decide (rr.length < 1000000) && rr.all (fun x => decide (x.f1.length < 1000000))) = true
    rotate_left
    · simp only [if_neg hgd] at H3; cases H3
    simp only [if_pos hgd, Option.some.injEq, Prod.mk.injEq] at H3
    obtain ⟨rfl, rfl⟩ := H3
    rw [Bool.and_eq_true] at hgd
    have HLN := Aside0.mk (of_decide_eq_true hgd.1)
    have HWL := Aside0.mk (show ∀ x ∈ rr, x.f1.length < 1000000 from fun x hx => of_decide_eq_true (List.all_eq_true.mp hgd.2 x hx))
    clear H2 hx hgd H
    go_enter Try.func28, Try.ntmps28
    go_wp2_with (first | ((with_reducible refine gate_dst (N := 1) rfl ?_); refine yX 1 #[.slice A0 l0.length c0, .slice A1 l1.length c1] 54 ?_; intro gp hgp w1 hbox hb; have BP1 := Aside0.mk hbox; have HB1 := Aside0.mk hb; clear hgp hbox hb; have hz0_1 : w1.cell? ⟨gp, 0, none⟩ = some (.slice A0 l0.length c0) := (blk_cell BP1.out 0).trans rfl; have hz1_1 : w1.cell? ⟨gp, 1, none⟩ = some (.slice A1 l1.length c1) := (blk_cell BP1.out 1).trans rfl) | (go_at_call 63; (with_reducible refine (checked_calls k A0 c0 l0 A1 c1 l1 0 z0 M0 S0 _ (Kd.C_below HR0.out HB1.out) HC0.out (Kd.C_below HR1.out HB1.out) HC1.out HQ.out).mono ?_); rintro e2 w2 hpost; obtain ⟨pp, rfl, hb2, himp⟩ := hpost; have HB2 := Aside0.mk (below_then HB1.out HB1.out.size hb2); have BP2 := Aside0.mk (blk_below BP1.out hb2); obtain ⟨wg, gx, g0, g1, g2, g3, g4, hbg, rfl, hew⟩ := himp rfl; have HBG := Aside0.mk (below_then HB1.out HB1.out.size hbg); have HED := Aside0.mk (show ExpD wg w2 gx g0 g1 g2 g3 g4 (fun y => (M0 y).getD []) (fun k => k < wg.heap.size) (fun _ => none) from hew.expD); clear himp hew hb2 hbg hz0_1 hz1_1; have hz0_2 : w2.cell? ⟨gp, 0, none⟩ = some (.slice A0 l0.length c0) := (blk_cell BP2.out 0).trans rfl) | (go_at_call 64; (with_reducible refine (expanded_calls k wg gx g0 g1 g2 g3 g4 (fun y => (M0 y).getD []) k l0 A0 c0 (fun k => k < wg.heap.size) (fun _ => none) D1 rr _ HED.out (Kd.V_mk HC0.out (Kd.C_F k32_heap (Kd.C_below HR0.out HBG.out))) HX.out).mono ?_); rintro e3 w3 ⟨v3, rfl, hn3, _, he3, _⟩; obtain ⟨A3, c3, rfl⟩ := Kd.N_slice hn3; have HB3 := Aside0.mk (below_then HBG.out HBG.out.size he3.below); have HC3 := Aside0.mk (Kd.N_reads' hn3).2.2; clear hn3 he3))
    clear HED BP1 BP2 hz0_2
    go_loopw [24, 7] (fun i v w' => ∃ (j : Nat), i = .int .i64 j ∧ Aside0 (j ≤ rr.length) ∧ Aside0 (Kd.S k32 32 w' w3.heap.size (fun _ => True) v (rr.take j)) ∧ Aside0 (Below w3.heap.size w3 w')) (fun i _ _ => rr.length - (intOf i).toNat)
    case atStart => exact ⟨0, rfl, ⟨Nat.zero_le _⟩, ⟨by simpa using Kd.S_nil _ _ _ _ _⟩, ⟨Below.refl _ _⟩⟩
    case round =>
      obtain ⟨j, rfl, HJ, HO, HB⟩ := hrel
      by_cases hlt : j < rr.length
      · obtain ⟨ad, A4, c4, e, hx0, hx1, hx2, hl4, hk4⟩ := at_T32 (Kd.C_below HC3.out HB.out) (j : Int) (by omega) (by omega)
        cases e
        have hrd : rd_T32 rr (j : Int) = rr[j] := by simp [rd_T32, hlt]
        rw [hrd] at hx0 hx1 hx2 hl4 hk4
        have TK := Aside0.mk (List.take_succ_eq_append_getElem hlt)
        have HWX := HWL.out rr[j] (List.getElem_mem hlt)
        have HL4 := Aside0.mk hl4
        have HK4 := Aside0.mk hk4
        clear hrd hl4 hk4
        generalize rr[j] = x at *
        have HCW := Aside0.mk (show Clone_Word.f x.f1 = some x.f1 from by unfold Clone_Word.f; rw [if_pos (by omega)])
        clear HWX
        simp only [Int.toNat_natCast] at hx0 hx1 hx2
        have hlt' : decide ((j : Int) < (rr.length : Int)) = true := by simp; omega
        go_wp2_with (first | (go_at_call 65; (with_reducible refine (Clone_Word.calls A4 c4 x.f1 x.f1 _ (Kd.C_alloc HK4.out _) HL4.out HCW.out).mono ?_); rintro e5 w5 ⟨v5, rfl, hr5, hb5⟩; obtain ⟨A5, c5, rfl⟩ := Kd.R_slice hr5; have HB5a := Aside0.mk (below_then (below_alloc (Below.refl _ _) _) (below_alloc (Below.refl _ _) _).size hb5); have BK5 := Aside0.mk (blk_below (alloc_at _ _) hb5); have HB5 := Aside0.mk (below_then HB.out HB.out.size HB5a.out); have HW5 := Aside0.mk hr5; have HO5 := Aside0.mk (Kd.S_below (Kd.S_bound HO.out) HB5a.out); have LTO := Aside0.mk (Kd.S_lt HO.out); have GEW := Aside0.mk (show ∀ k, (Value.slice A5 x.f1.length c5).ownBlock = some k → wr.heap.size < k from fun k hk => Nat.lt_of_lt_of_le (below_alloc_lt wr _) (Kd.R_base hr5 k hk)); clear hr5 hb5; have hz0 : w5.cell? ⟨wr.heap.size, 0, none⟩ = some (.bool x.f0) := (blk_cell BK5.out 0).trans rfl; have hz1 : w5.cell? ⟨wr.heap.size, 1, none⟩ = some (.slice A4 x.f1.length c4) := (blk_cell BK5.out 1).trans rfl; have hz2 : w5.cell? ⟨wr.heap.size, 2, none⟩ = some (.string x.f2) := (blk_cell BK5.out 2).trans rfl; have hfr : w5.frozen? ⟨wr.heap.size, 1, none⟩ = false := blk_frozen BK5.out 1) | ((with_reducible refine gate_store (p := 31) rfl ?_); refine store_event (t := 30) (p := 31) (v := ?vo) (w1 := (w5.setCell ⟨wr.heap.size, 1, none⟩ (.slice A5 x.f1.length c5))) ?hg ?ho ?hn ?hr ?_; (case ho => rfl); (case hg => rfl); (case hn => rfl); (case hr => first | (go_simp; done) | (go_simp; rfl)); intro w6 e6; have BK6 := Aside0.mk (show w6.heap[wr.heap.size]? = some (.cells #[.bool x.f0, .slice A5 x.f1.length c5, .string x.f2] 32 (0, 0)) from by rw [e6]; exact blk_put BK5.out 1 _ rfl); have HB6 := Aside0.mk (show Below w3.heap.size w3 w6 from by rw [e6]; exact below_set HB5.out (HB.out.size)); have HW6 := Aside0.mk (show Kd.R k78 78 w6 w3.heap.size (fun k => some k = (Value.slice A5 x.f1.length c5).ownBlock) (.slice A5 x.f1.length c5) x.f1 from by rw [e6]; exact Kd.R_far (p := ⟨wr.heap.size, 1, none⟩) (Kd.R_tight rfl (Kd.R_lower HW5.out (Nat.le_trans HB.out.size (Nat.le_of_lt (below_alloc_lt wr _))))) (fun k hk e => by have := GEW.out k hk.symm; simp only at e; omega) _); have HO6 := Aside0.mk (show Kd.S k32 32 w6 w3.heap.size (fun k => True ∧ ¬ some k = (Value.slice A5 x.f1.length c5).ownBlock) u7 (rr.take j) from by rw [e6]; exact Kd.S_mono (Kd.S_far (p := ⟨wr.heap.size, 1, none⟩) HO5.out (fun k hk e => by have := hk.2.2.1; simp only at e; omega) _) (fun k hk => ⟨trivial, fun e => by have := GEW.out k e.symm; have := hk.2.2.1; omega⟩)); clear e6 hz0 hz1 hz2 hfr; have hz0 : w6.cell? ⟨wr.heap.size, 0, none⟩ = some (.bool x.f0) := (blk_cell BK6.out 0).trans rfl; have hz1 : w6.cell? ⟨wr.heap.size, 1, none⟩ = some (.slice A5 x.f1.length c5) := (blk_cell BK6.out 1).trans rfl; have hz2 : w6.cell? ⟨wr.heap.size, 2, none⟩ = some (.string x.f2) := (blk_cell BK6.out 2).trans rfl) | ((with_reducible refine gate_builtin (b := .append) (xs := #[.tmp 32, .tmp 34]) rfl ?_); (try (refine gate_guard (by rfl) ?_; dsimp only)); at_builtin; refine Kd.S_append k32 (w0 := w3) w3.heap.size rfl (.tmp 32) (.tmp 34) 35 32 (.agg #[(.bool false), (.slice none 0 0), (.string ⟨#[]⟩)]) 48 rfl Try.underlying35 info32 rfl (by decide) (by omega) u7 (rr.take j) x [.bool x.f0, .slice A5 x.f1.length c5, .string x.f2] (fun _ => True) (fun k => some k = (Value.slice A5 x.f1.length c5).ownBlock) rfl rfl ?aP (fun k hk => ⟨trivial, fun e => by have h1 := LTO.out k e.symm; have h2 := GEW.out k hk.symm; omega⟩) (fun _ _ => trivial) HO6.out HB6.out HB6.out.size ?aL ?_; (case aP => exact k32_mkM _ _ _ x HW6.out); (case aL => have := HLN.out; simp only [List.length_take]; omega); intro v7 w7 ho hb hg hat; have HO7 := Aside0.mk (show Kd.S k32 32 w7 w3.heap.size (fun _ => True) v7 (rr.take (j + 1)) from by rw [TK.out]; exact ho); have HB7 := Aside0.mk hb; clear ho hb hg hat))
        go_roundw
        case rel => exact ⟨j + 1, by rw [wrap_succ hlt (by have := HLN.out; omega)], ⟨by omega⟩, ⟨HO7.out⟩, ⟨HB7.out⟩⟩
        case measure => rw [wrap_succ hlt (by have := HLN.out; omega)]; simp only [intOf, Int.toNat_natCast]; omega
      have hlt' : decide ((j : Int) < (rr.length : Int)) = false := by simp; omega
      have HOx := Aside0.mk (show Kd.S k32 32 wr w3.heap.size (fun _ => True) u7 rr from by have h_ := HO.out; rw [List.take_of_length_le (by omega)] at h_; exact h_)
      clear HO
      go_wp2
      go_ret2
      exact ⟨_, rfl, Kd.S_lower HOx.out HB3.out.size, below_then HB3.out HB3.out.size HB.out⟩
  have H4 := H.out
  simp only [if_neg he, Option.some.injEq, Prod.mk.injEq] at H4
  obtain ⟨rfl, rfl⟩ := H4
  have hne : (e0 == 0) = false := beq_eq_false_iff_ne.mpr he
  have hne2 : (e0 != 0) = true := bne_iff_ne.mpr he
  clear H he
  go_enter Try.func28, Try.ntmps28
  go_wp2_with (first | ((with_reducible refine gate_dst (N := 1) rfl ?_); refine yX 1 #[.slice A0 l0.length c0, .slice A1 l1.length c1] 54 ?_; intro gp hgp w1 hbox hb; have BP1 := Aside0.mk hbox; have HB1 := Aside0.mk hb; clear hgp hbox hb; have hz0_1 : w1.cell? ⟨gp, 0, none⟩ = some (.slice A0 l0.length c0) := (blk_cell BP1.out 0).trans rfl; have hz1_1 : w1.cell? ⟨gp, 1, none⟩ = some (.slice A1 l1.length c1) := (blk_cell BP1.out 1).trans rfl) | (go_at_call 63; (with_reducible refine (checked_calls k A0 c0 l0 A1 c1 l1 e0 z0 M0 S0 _ (Kd.C_below HR0.out HB1.out) HC0.out (Kd.C_below HR1.out HB1.out) HC1.out HQ.out).mono ?_); rintro e2 w2 hpost; obtain ⟨pp, rfl, hb2, himp⟩ := hpost; have HB2 := Aside0.mk (below_then HB1.out HB1.out.size hb2); have BP2 := Aside0.mk (blk_below BP1.out hb2); clear himp hb2))
  go_ret2
  exact ⟨_, rfl, Kd.S_nil _ _ _ _ _, HB2.out⟩
end Go.Proofs.Ytehkhbnhmehobaa.P
namespace Go.Proofs.Ytehkhbnhmehobaa.P
open Go.RowKit Go.Proofs.YtehkhbnhmehobaaW.PrintWords Go.Proofs.YtehkhbnhmehobaaW.PrintLast Go.Proofs.YtehkhbnhmehobaaW.PrintMore
attribute [local go_sem] max2_int min2_int max_two min_two max_three min_three max_four min_four
set_option linter.unusedVariables false
set_option linter.unusedSimpArgs false
def swarflaw43_word.f (a0 : Int) (a1 : Int) : Option (Int × Int) := some (a0, wrap64 (1000 * a1))
set_option maxHeartbeats 8000000 in
set_option maxRecDepth 100000 in
theorem swarflaw43_word.calls (a0 : Int) (a1 : Int) (r1 : Int) (r2 : Int) (w : World) (h : swarflaw43_word.f a0 a1 = some (r1, r2)) :
  Calls Try.prog 44 #[.int .u8 a0, .int .i64 a1] w fun e w' => e = .returned (.agg #[.int .u8 r1, .int .i64 r2]) ∧ Below w.heap.size w w' := by
 have hu78 := Try.underlying78
 have HB := Aside0.mk (Below.refl w.heap.size w)
 have H : (some (a0, wrap64 (1000 * a1))) = some (r1, r2) := h
 clear h
 simp only [Option.some.injEq, Prod.mk.injEq] at H
 obtain ⟨rfl, rfl⟩ := H
 go_enter Try.func44, Try.ntmps44
 go_wp2_with (first | ((with_reducible refine gate_dst (N := 4) rfl ?_); refine yX 4 #[.int .u8 0, .int .i64 0] 78 ?_; intro gb447 hg w3 hbox hb; have BK447 := Aside0.mk (hbox); have GE447 := Aside0.mk ((yG hg : w.heap.size ≤ gb447)); replace HB := Aside0.mk (below_step yB hb); clear hb hbox hg; have hcz4_0 := yZ0 BK447.out; have hcz4_1 := yZ1 BK447.out; have hfz4_0 := blk_frozen BK447.out 0; have hfz4_1 := blk_frozen BK447.out 1))
 refine bodyPost_ret (results_cell_row rfl _ _ gb447 78 #[.int .u8 a0, .int .i64 (wrap64 (1000 * a1))] (0, 0) _ rfl (by refine yH ?_; refine blk_put (cs := #[.int .u8 a0, .int .i64 0]) ?_ 1 _ rfl; refine yH ?_; refine blk_put (cs := #[.int .u8 0, .int .i64 0]) ?_ 0 _ rfl; refine yH ?_; exact BK447.out) Try.underlying78 rfl (by kernel_rfl)) rfl ?_
 exact ⟨yE, yB⟩
end Go.Proofs.Ytehkhbnhmehobaa.P
namespace Go.Proofs.Ytehkhbnhmehobaa.P
open Go.RowKit Go.Proofs.YtehkhbnhmehobaaW.PrintWords Go.Proofs.YtehkhbnhmehobaaW.PrintLast Go.Proofs.YtehkhbnhmehobaaW.PrintMore
set_option linter.unusedVariables false
set_option linter.unusedSimpArgs false
def Blks (W : World) (L : List (Nat × Obj)) : Prop := ∀ p ∈ L, W.heap[p.1]? = some p.2
theorem Blks.below {W W' : World} {L : List (Nat × Obj)} (h : Blks W L) (hb : Below W.heap.size W W') : Blks W' L := fun p hp => by
  have := h p hp
  exact (hb.block p.1 (Array.getElem?_eq_some_iff.1 this).1).trans this
theorem Blks.nil (W : World) : Blks W [] := fun p hp => by cases hp
theorem Blks.cons {W : World} {L : List (Nat × Obj)} (h : Blks W L) {g : Nat} {o : Obj} (hg : W.heap[g]? = some o) : Blks W ((g, o) :: L) := fun p hp => by
  rcases List.mem_cons.mp hp with rfl | hp
  · exact hg
  exact h p hp
theorem size_alloc (W : World) (o : Obj) : (W.alloc o).heap.size = W.heap.size + 1 := by
  show (W.heap.push o).size = _
  simp
theorem Blks.alloc1 {W : World} {L : List (Nat × Obj)} (h : Blks W L) (o : Obj) : Blks (W.alloc o) ((W.heap.size, o) :: L) := (h.below (below_alloc (Below.refl _ _) o)).cons (alloc_at W o)
theorem Blks.alloc3 {W : World} {L : List (Nat × Obj)} (h : Blks W L) (o1 o2 o3 : Obj) : Blks (((W.alloc o1).alloc o2).alloc o3) ((W.heap.size + 1 + 1, o3) :: (W.heap.size + 1, o2) :: (W.heap.size, o1) :: L) := by
  have := ((h.alloc1 o1).alloc1 o2).alloc1 o3
  rw [size_alloc, size_alloc] at this
  exact this
theorem Blks.drew {W : World} {L : List (Nat × Obj)} (h : Blks W L) : Blks W.drew L := h
theorem Blks.at {W : World} {L : List (Nat × Obj)} (h : Blks W L) {g : Nat} {o : Obj} (hm : (g, o) ∈ L) : W.heap[g]? = some o := h _ hm
section
variable {P : Program} {ops : Array Oper} {Q : Exit → Act → World → Prop}
theorem lit_step {oi : Oper} {N : Option Tmp} {a : Act} {w w' : World} {K : Act → World → Prop} {v : Value} (hw : Region.wanted oi (yielded ops a.tmps) = true) (hN : oi.dst = N) (hrun : (execOp a.eval oi).run P w = .ok (.value v) w') (h : K (a.put N v) w') : if Region.wanted oi (yielded ops a.tmps) = true then Oper.wp P oi a w K Q else K (a.put N undef) w := by
  rw [if_pos hw]
  subst hN
  unfold Oper.wp
  rw [hrun]
  exact h
end
def encW : List S78 → List Value
  | [] => []
  | x :: l => .int .u8 x.f0 :: .int .i64 x.f1 :: encW l
theorem encW_at : ∀ (xs : List S78) (j : Nat) (x : S78), xs[j]? = some x → (encW xs)[j * 2]? = some (.int .u8 x.f0) ∧ (encW xs)[j * 2 + 1]? = some (.int .i64 x.f1)
  | [], j, x, h => by simp at h
  | y :: l, 0, x, h => by simp at h; subst h; exact ⟨rfl, rfl⟩
  | y :: l, j + 1, x, h => by
    have := encW_at l j x (by simpa using h)
    rw [show (j + 1) * 2 = j * 2 + 1 + 1 by omega]
    exact this
theorem C_words {W : World} {g : Nat} (xs : List S78) (h : W.heap[g]? = some (.cells (encW xs).toArray 78 (0, 0))) (hm : xs.length ≤ 9223372036854775807) : Kd.C k78 W (some ⟨g, 0, none⟩) xs.length xs := by
  refine ⟨rfl, hm, fun _ => ⟨⟨g, 0, none⟩, rfl, fun j x hj => ⟨[.int .u8 x.f0, .int .i64 x.f1], rfl, k78_mk W x, fun i u hu => ?_⟩⟩⟩
  obtain ⟨h1, h2⟩ := encW_at xs j x hj
  rw [show ((⟨g, 0, none⟩ : Addr).add (j * (k78).sz + i)) = ⟨g, j * 2 + i, none⟩ from by rw [show (k78).sz = 2 from rfl]; simp [Addr.add] <;> (intros; omega)]
  rcases i with _ | _ | i
  · simp at hu; subst hu
    refine (blk_cell h _).trans ?_
    simpa using h1
  · simp at hu; subst hu
    refine (blk_cell h _).trans ?_
    simpa using h2
  simp at hu
theorem C_sub1 {W : World} {g : Nat} {n : Int} {l : List S32} {A : Option Addr} {c : Nat} (h0 : W.cell? ⟨g, 0, none⟩ = some (.int .i64 n)) (h1 : W.cell? ⟨g, 1, none⟩ = some (.slice A l.length c)) (hl : l.length ≤ c) (hC : Kd.C k32 W A l.length l) : Kd.C k81 W (some ⟨g, 0, none⟩) 1 [⟨n, l⟩] := by
  refine ⟨rfl, by decide, fun _ => ⟨⟨g, 0, none⟩, rfl, fun j x hj => ?_⟩⟩
  rcases j with _ | j
  · simp at hj
    subst hj
    refine ⟨[.int .i64 n, .slice A l.length c], rfl, k81_mk W ⟨n, l⟩ hl hC, fun i u hu => ?_⟩
    rw [show ((⟨g, 0, none⟩ : Addr).add (0 * (k81).sz + i)) = ⟨g, i, none⟩ from by simp [Addr.add] <;> (intros; omega)]
    rcases i with _ | _ | i
    · simp at hu; subst hu; exact h0
    · simp at hu; subst hu; exact h1
    simp at hu
  simp at hj
theorem Blks.hd {W : World} {L : List (Nat × Obj)} {g : Nat} {o : Obj} (h : Blks W ((g, o) :: L)) : W.heap[g]? = some o := h _ List.mem_cons_self
theorem Blks.tl {W : World} {L : List (Nat × Obj)} {q : Nat × Obj} (h : Blks W (q :: L)) : Blks W L := fun p hp => h p (List.mem_cons_of_mem _ hp)
section
variable {P : Program} {ops : Array Oper} {Q : Exit → Act → World → Prop}
theorem store_step_ {oi : Oper} {a : Act} {w w' : World} {K : Act → World → Prop} (hw : Region.wanted oi (yielded ops a.tmps) = true) (hN : oi.dst = none) (hrun : (execOp a.eval oi).run P w = .ok .skip w') (h : K (a.put none undef) w') : if Region.wanted oi (yielded ops a.tmps) = true then Oper.wp P oi a w K Q else K (a.put none undef) w := by
  rw [if_pos hw]
  unfold Oper.wp
  rw [hrun]
  show K (a.put oi.dst undef) w'
  rw [hN]
  exact h
end
def encB : List (S32 × Option Addr × Nat) → List Value
  | [] => []
  | q :: l => .bool q.1.f0 :: .slice q.2.1 q.1.f1.length q.2.2 :: .string q.1.f2 :: encB l
theorem encB_at : ∀ (xs : List (S32 × Option Addr × Nat)) (j : Nat) (x : S32 × Option Addr × Nat), xs[j]? = some x → (encB xs)[j * 3]? = some (.bool x.1.f0) ∧ (encB xs)[j * 3 + 1]? = some (.slice x.2.1 x.1.f1.length x.2.2) ∧ (encB xs)[j * 3 + 2]? = some (.string x.1.f2)
  | [], j, x, h => by simp at h
  | y :: l, 0, x, h => by simp at h; subst h; exact ⟨rfl, rfl, rfl⟩
  | y :: l, j + 1, x, h => by
    have := encB_at l j x (by simpa using h)
    rw [show (j + 1) * 3 = j * 3 + 1 + 1 + 1 by omega]
    exact this
theorem C_blocks {W : World} {g : Nat} (xs : List (S32 × Option Addr × Nat)) (h : W.heap[g]? = some (.cells (encB xs).toArray 32 (0, 0))) (hm : xs.length ≤ 9223372036854775807) (hw : ∀ x ∈ xs, x.1.f1.length ≤ x.2.2 ∧ Kd.C k78 W x.2.1 x.1.f1.length x.1.f1) : Kd.C k32 W (some ⟨g, 0, none⟩) (xs.map (·.1)).length (xs.map (·.1)) := by
  refine ⟨rfl, by simpa using hm, fun _ => ⟨⟨g, 0, none⟩, rfl, fun j y hj => ?_⟩⟩
  rw [List.getElem?_map] at hj
  obtain ⟨x, hx, rfl⟩ := Option.map_eq_some_iff.mp hj
  obtain ⟨hl, hC⟩ := hw x (List.mem_of_getElem? hx)
  refine ⟨[.bool x.1.f0, .slice x.2.1 x.1.f1.length x.2.2, .string x.1.f2], rfl, k32_mk W x.1 hl hC, fun i u hu => ?_⟩
  obtain ⟨h1, h2, h3⟩ := encB_at xs j x hx
  rw [show ((⟨g, 0, none⟩ : Addr).add (j * (k32).sz + i)) = ⟨g, j * 3 + i, none⟩ from by rw [show (k32).sz = 3 from rfl]; simp [Addr.add] <;> (intros; omega)]
  rcases i with _ | _ | _ | i
  · simp at hu; subst hu
    refine (blk_cell h _).trans ?_
    simpa using h1
  · simp at hu; subst hu
    refine (blk_cell h _).trans ?_
    simpa using h2
  · simp at hu; subst hu
    refine (blk_cell h _).trans ?_
    simpa using h3
  simp at hu
theorem word_any (a0 a1 r : Int) (h : wrap64 (1000 * a1) = r) (w : World) : Calls Try.prog 44 #[.int .u8 a0, .int .i64 a1] w fun e w' => e = .returned (.agg #[.int .u8 a0, .int .i64 r]) ∧ Below w.heap.size w w' :=
  swarflaw43_word.calls a0 a1 a0 r w (by unfold swarflaw43_word.f; rw [h])
set_option maxHeartbeats 1000000 in
theorem words_any (A : Option Addr) (n c : Nat) (w : World) : Calls Try.prog 43 #[.slice A n c] w fun e w' => e = .returned (.agg #[.bool false, .slice A n c, .string (⟨#[]⟩ : ByteArray)]) ∧ Below w.heap.size w w' := by
  have hu32 := Try.underlying32
  have HB := Aside0.mk (Below.refl w.heap.size w)
  go_enter Try.func43, Try.ntmps43
  go_wp2_with ((with_reducible refine gate_dst (N := 2) rfl ?_); refine yX 2 #[.bool false, .slice none 0 0, .string (⟨#[]⟩ : ByteArray)] 32 ?_; intro gb hg w2 hbox hb; have BK := Aside0.mk hbox; have GE := Aside0.mk (show w.heap.size ≤ gb from by rw [hg]; exact Nat.le_refl _); have HB2 := Aside0.mk (below_step HB.out hb); clear hbox hg hb; have hz0 : w2.cell? ⟨gb, 0, none⟩ = some (.bool false) := (blk_cell BK.out 0).trans rfl; have hz1 : w2.cell? ⟨gb, 1, none⟩ = some (.slice none 0 0) := (blk_cell BK.out 1).trans rfl; have hz2 : w2.cell? ⟨gb, 2, none⟩ = some (.string (⟨#[]⟩ : ByteArray)) := (blk_cell BK.out 2).trans rfl; have hf0 := blk_frozen BK.out 0; have hf1 := blk_frozen BK.out 1; have hf2 := blk_frozen BK.out 2)
  refine bodyPost_ret (results_cell_row rfl _ _ gb 32 #[.bool false, .slice A n c, .string (⟨#[]⟩ : ByteArray)] (0, 0) _ rfl (by refine blk_put (cs := #[.bool false, .slice A n c, .string (⟨#[]⟩ : ByteArray)]) ?_ 2 _ rfl; refine blk_put (cs := #[.bool false, .slice none 0 0, .string (⟨#[]⟩ : ByteArray)]) ?_ 1 _ rfl; refine blk_put (cs := #[.bool false, .slice none 0 0, .string (⟨#[]⟩ : ByteArray)]) ?_ 0 _ rfl; exact BK.out) Try.underlying32 rfl (by kernel_rfl)) rfl ?_
  exact ⟨rfl, by repeat (with_reducible first | exact HB2.out | refine below_set ?_ GE.out)⟩
def BX (a n : Nat) : Obj := .cells #[.bool false, .slice (some ⟨a, 0, none⟩) n n, .string ⟨#[]⟩] 32 (0, 0)
def aw (a b : Int) : S78 := ⟨a, b⟩
def ab (l : List S78) : S32 := ⟨false, l, ⟨#[]⟩⟩
def rapid_ := ab [aw 71 0, aw 88 1000]
def feed_ := ab [aw 71 1000, aw 88 2000]
def end_ := ab [aw 77 30000]
def call_ := ab [aw 77 98000, aw 80 5000, aw 76 2000]
def o5_ := ab [aw 79 5000]
def ret_ := ab [aw 77 99000]
def call5_ := ab [aw 77 98000, aw 80 5000]
def again_ := ab [aw 77 98000, aw 80 7000]
theorem split_ex : subprogram_Split.f 60 [rapid_, call_, end_, o5_, feed_, ret_] = some ([rapid_, call_, end_], [⟨5, [feed_]⟩], 0) := by kernel_rfl
theorem expand_ex : subprogram_Expand.f 60 [rapid_, call_, end_] [⟨5, [feed_]⟩] = some ([rapid_, feed_, feed_, end_], 0) := by kernel_rfl
theorem expand_ex2 : subprogram_Expand.f 60 [rapid_, call_, end_] [⟨5, [call5_]⟩] = some ([], 12) := by kernel_rfl
theorem fold_ex : subprogram_Fold.f 60 [rapid_, feed_, call_, rapid_, feed_, end_] 7 2 = some ([again_, call_, again_, end_], [⟨7, [rapid_, feed_]⟩], 0) := by kernel_rfl
theorem same_ex : swarfref41_Same.f 60 [rapid_, feed_, feed_, end_] [rapid_, feed_, feed_, end_] = some true := by kernel_rfl
theorem same_ex2 : swarfref41_Same.f 60 [again_, call_, again_, end_] [again_, call_, again_, end_] = some true := by kernel_rfl
set_option maxHeartbeats 16000000 in
set_option maxRecDepth 100000 in
theorem awake43_calls (w : World) : Calls Try.prog 23 #[] w fun e w' => e = .returned (.bool true) ∧ Below w.heap.size w w' := by
  have hu32 := Try.underlying32
  have hu54 := Try.underlying54
  have hu81 := Try.underlying81
  have hu78 := Try.underlying78
  have HL := Aside0.mk (Blks.nil w)
  have HB := Aside0.mk (Below.refl w.heap.size w)
  go_enter Try.func23, Try.ntmps23
  go_wp2_with (first | (go_at_call 44; (with_reducible refine (word_any 71 0 0 (by kernel_rfl) _).mono ?_); rintro e_ w_ ⟨rfl, hb⟩; (first | (have HL_ := Aside0.mk (HL.out.below hb); have HB_ := Aside0.mk (below_then HB.out HB.out.size hb)) | (have HL_ := Aside0.mk ((HL.out.alloc1 _).below hb); have HB_ := Aside0.mk (below_then (below_alloc HB.out _) (below_alloc HB.out _).size hb)) | (have HL_ := Aside0.mk ((HL.out.alloc3 _ _ _).below hb); have HB_ := Aside0.mk (below_then (below_alloc (below_alloc (below_alloc HB.out _) _) _) (below_alloc (below_alloc (below_alloc HB.out _) _) _).size hb))); clear HL HB hb; have HL := HL_; have HB := HB_; clear HL_ HB_) | (go_at_call 44; (with_reducible refine (word_any 88 1 1000 (by kernel_rfl) _).mono ?_); rintro e_ w_ ⟨rfl, hb⟩; (first | (have HL_ := Aside0.mk (HL.out.below hb); have HB_ := Aside0.mk (below_then HB.out HB.out.size hb)) | (have HL_ := Aside0.mk ((HL.out.alloc1 _).below hb); have HB_ := Aside0.mk (below_then (below_alloc HB.out _) (below_alloc HB.out _).size hb)) | (have HL_ := Aside0.mk ((HL.out.alloc3 _ _ _).below hb); have HB_ := Aside0.mk (below_then (below_alloc (below_alloc (below_alloc HB.out _) _) _) (below_alloc (below_alloc (below_alloc HB.out _) _) _).size hb))); clear HL HB hb; have HL := HL_; have HB := HB_; clear HL_ HB_) | (go_at_call 44; (with_reducible refine (word_any 71 1 1000 (by kernel_rfl) _).mono ?_); rintro e_ w_ ⟨rfl, hb⟩; (first | (have HL_ := Aside0.mk (HL.out.below hb); have HB_ := Aside0.mk (below_then HB.out HB.out.size hb)) | (have HL_ := Aside0.mk ((HL.out.alloc1 _).below hb); have HB_ := Aside0.mk (below_then (below_alloc HB.out _) (below_alloc HB.out _).size hb)) | (have HL_ := Aside0.mk ((HL.out.alloc3 _ _ _).below hb); have HB_ := Aside0.mk (below_then (below_alloc (below_alloc (below_alloc HB.out _) _) _) (below_alloc (below_alloc (below_alloc HB.out _) _) _).size hb))); clear HL HB hb; have HL := HL_; have HB := HB_; clear HL_ HB_) | (go_at_call 44; (with_reducible refine (word_any 88 2 2000 (by kernel_rfl) _).mono ?_); rintro e_ w_ ⟨rfl, hb⟩; (first | (have HL_ := Aside0.mk (HL.out.below hb); have HB_ := Aside0.mk (below_then HB.out HB.out.size hb)) | (have HL_ := Aside0.mk ((HL.out.alloc1 _).below hb); have HB_ := Aside0.mk (below_then (below_alloc HB.out _) (below_alloc HB.out _).size hb)) | (have HL_ := Aside0.mk ((HL.out.alloc3 _ _ _).below hb); have HB_ := Aside0.mk (below_then (below_alloc (below_alloc (below_alloc HB.out _) _) _) (below_alloc (below_alloc (below_alloc HB.out _) _) _).size hb))); clear HL HB hb; have HL := HL_; have HB := HB_; clear HL_ HB_) | (go_at_call 44; (with_reducible refine (word_any 77 30 30000 (by kernel_rfl) _).mono ?_); rintro e_ w_ ⟨rfl, hb⟩; (first | (have HL_ := Aside0.mk (HL.out.below hb); have HB_ := Aside0.mk (below_then HB.out HB.out.size hb)) | (have HL_ := Aside0.mk ((HL.out.alloc1 _).below hb); have HB_ := Aside0.mk (below_then (below_alloc HB.out _) (below_alloc HB.out _).size hb)) | (have HL_ := Aside0.mk ((HL.out.alloc3 _ _ _).below hb); have HB_ := Aside0.mk (below_then (below_alloc (below_alloc (below_alloc HB.out _) _) _) (below_alloc (below_alloc (below_alloc HB.out _) _) _).size hb))); clear HL HB hb; have HL := HL_; have HB := HB_; clear HL_ HB_) | (go_at_call 44; (with_reducible refine (word_any 77 98 98000 (by kernel_rfl) _).mono ?_); rintro e_ w_ ⟨rfl, hb⟩; (first | (have HL_ := Aside0.mk (HL.out.below hb); have HB_ := Aside0.mk (below_then HB.out HB.out.size hb)) | (have HL_ := Aside0.mk ((HL.out.alloc1 _).below hb); have HB_ := Aside0.mk (below_then (below_alloc HB.out _) (below_alloc HB.out _).size hb)) | (have HL_ := Aside0.mk ((HL.out.alloc3 _ _ _).below hb); have HB_ := Aside0.mk (below_then (below_alloc (below_alloc (below_alloc HB.out _) _) _) (below_alloc (below_alloc (below_alloc HB.out _) _) _).size hb))); clear HL HB hb; have HL := HL_; have HB := HB_; clear HL_ HB_) | (go_at_call 44; (with_reducible refine (word_any 80 5 5000 (by kernel_rfl) _).mono ?_); rintro e_ w_ ⟨rfl, hb⟩; (first | (have HL_ := Aside0.mk (HL.out.below hb); have HB_ := Aside0.mk (below_then HB.out HB.out.size hb)) | (have HL_ := Aside0.mk ((HL.out.alloc1 _).below hb); have HB_ := Aside0.mk (below_then (below_alloc HB.out _) (below_alloc HB.out _).size hb)) | (have HL_ := Aside0.mk ((HL.out.alloc3 _ _ _).below hb); have HB_ := Aside0.mk (below_then (below_alloc (below_alloc (below_alloc HB.out _) _) _) (below_alloc (below_alloc (below_alloc HB.out _) _) _).size hb))); clear HL HB hb; have HL := HL_; have HB := HB_; clear HL_ HB_) | (go_at_call 44; (with_reducible refine (word_any 76 2 2000 (by kernel_rfl) _).mono ?_); rintro e_ w_ ⟨rfl, hb⟩; (first | (have HL_ := Aside0.mk (HL.out.below hb); have HB_ := Aside0.mk (below_then HB.out HB.out.size hb)) | (have HL_ := Aside0.mk ((HL.out.alloc1 _).below hb); have HB_ := Aside0.mk (below_then (below_alloc HB.out _) (below_alloc HB.out _).size hb)) | (have HL_ := Aside0.mk ((HL.out.alloc3 _ _ _).below hb); have HB_ := Aside0.mk (below_then (below_alloc (below_alloc (below_alloc HB.out _) _) _) (below_alloc (below_alloc (below_alloc HB.out _) _) _).size hb))); clear HL HB hb; have HL := HL_; have HB := HB_; clear HL_ HB_) | (go_at_call 44; (with_reducible refine (word_any 79 5 5000 (by kernel_rfl) _).mono ?_); rintro e_ w_ ⟨rfl, hb⟩; (first | (have HL_ := Aside0.mk (HL.out.below hb); have HB_ := Aside0.mk (below_then HB.out HB.out.size hb)) | (have HL_ := Aside0.mk ((HL.out.alloc1 _).below hb); have HB_ := Aside0.mk (below_then (below_alloc HB.out _) (below_alloc HB.out _).size hb)) | (have HL_ := Aside0.mk ((HL.out.alloc3 _ _ _).below hb); have HB_ := Aside0.mk (below_then (below_alloc (below_alloc (below_alloc HB.out _) _) _) (below_alloc (below_alloc (below_alloc HB.out _) _) _).size hb))); clear HL HB hb; have HL := HL_; have HB := HB_; clear HL_ HB_) | (go_at_call 44; (with_reducible refine (word_any 77 99 99000 (by kernel_rfl) _).mono ?_); rintro e_ w_ ⟨rfl, hb⟩; (first | (have HL_ := Aside0.mk (HL.out.below hb); have HB_ := Aside0.mk (below_then HB.out HB.out.size hb)) | (have HL_ := Aside0.mk ((HL.out.alloc1 _).below hb); have HB_ := Aside0.mk (below_then (below_alloc HB.out _) (below_alloc HB.out _).size hb)) | (have HL_ := Aside0.mk ((HL.out.alloc3 _ _ _).below hb); have HB_ := Aside0.mk (below_then (below_alloc (below_alloc (below_alloc HB.out _) _) _) (below_alloc (below_alloc (below_alloc HB.out _) _) _).size hb))); clear HL HB hb; have HL := HL_; have HB := HB_; clear HL_ HB_) | (go_at_call 44; (with_reducible refine (word_any 80 7 7000 (by kernel_rfl) _).mono ?_); rintro e_ w_ ⟨rfl, hb⟩; (first | (have HL_ := Aside0.mk (HL.out.below hb); have HB_ := Aside0.mk (below_then HB.out HB.out.size hb)) | (have HL_ := Aside0.mk ((HL.out.alloc1 _).below hb); have HB_ := Aside0.mk (below_then (below_alloc HB.out _) (below_alloc HB.out _).size hb)) | (have HL_ := Aside0.mk ((HL.out.alloc3 _ _ _).below hb); have HB_ := Aside0.mk (below_then (below_alloc (below_alloc (below_alloc HB.out _) _) _) (below_alloc (below_alloc (below_alloc HB.out _) _) _).size hb))); clear HL HB hb; have HL := HL_; have HB := HB_; clear HL_ HB_) | (go_at_call 43; (with_reducible refine (words_any _ _ _ _).mono ?_); rintro e_ w_ ⟨rfl, hb⟩; have HL_ := Aside0.mk (Blks.cons (HL.out.below (below_then (below_alloc (Below.refl _ _) _) (below_alloc (Below.refl _ _) _).size hb)) (blk_below (alloc_at _ _) hb)); have HB_ := Aside0.mk (below_then HB.out HB.out.size (below_then (below_alloc (Below.refl _ _) _) (below_alloc (Below.refl _ _) _).size hb)); clear HL HB hb; have HL := HL_; have HB := HB_; clear HL_ HB_))
  rename_i y10 y9 y8 y7 y6 y5 y4 y3 y2 y1 y0 K_ hK_
  have HL4 := Aside0.mk (HL.out.alloc1 (.cells #[.bool false, .slice (some ⟨y0.heap.size, 0, none⟩) 3 3, .string ⟨#[]⟩] 32 (0, 0)))
  have HB4 := Aside0.mk (below_alloc HB.out (.cells #[.bool false, .slice (some ⟨y0.heap.size, 0, none⟩) 3 3, .string ⟨#[]⟩] 32 (0, 0)))
  generalize w_.alloc (.cells #[.bool false, .slice (some ⟨y0.heap.size, 0, none⟩) 3 3, .string ⟨#[]⟩] 32 (0, 0)) = W4 at HL4 HB4 ⊢
  generalize y9.heap.size = a1 at HL4 ⊢
  generalize y6.heap.size = a2 at HL4 ⊢
  generalize y4.heap.size = a3 at HL4 ⊢
  generalize y0.heap.size = a4 at HL4 ⊢
  generalize y3.heap.size + 1 + 1 = b3 at HL4 ⊢
  generalize y3.heap.size + 1 = b2 at HL4 ⊢
  generalize y3.heap.size = b1 at HL4 ⊢
  generalize w_.heap.size = b4 at HL4 ⊢
  clear HL HB y10 y9 y8 y7 y6 y5 y4 y3 y2 y1 y0 w_
  have S_ : ∀ {W : World} {L : List (Nat × Obj)}, Blks W L → (∀ p ∈ [(b4, BX a4 3), (b3, BX a3 1), (b2, BX a2 2), (b1, BX a1 2)], p ∈ L) → Blks W [(b4, BX a4 3), (b3, BX a3 1), (b2, BX a2 2), (b1, BX a1 2)] := fun h hs p hp => h p (hs p hp)
  refine start_ (n := 12) (S := fun w' => Blks w' [(b4, BX a4 3), (b3, BX a3 1), (b2, BX a2 2), (b1, BX a1 2)]) (ds := []) #[false, false, false, false, false, false, false, false, false, false, false, false] (by kernel_rfl) rfl rfl (Blks.drew (S_ HL4.out (by simp [BX]))) (fun hHeld => ?_)
  have HL5 := Aside0.mk (show Blks W4.drew _ from HL4.out)
  have HB5 := Aside0.mk (below_drew1 HB4.out)
  clear HL4 HB4
  generalize W4.drew = W5 at HL5 HB5 hHeld ⊢
  refine take_ (i := 0) (N := some 31) (v := ?_) (a' := ?_) #[true, false, false, false, false, false, false, false, false, false, false, false] rfl rfl (by kernel_rfl) (fun _ _ _ h => h) (Or.inl ⟨by rfl, ?_⟩) hHeld ?_ ?_
  rotate_left
  · intro w' hS
    have hb_ := hS.at (g := b1) (o := BX a1 2) (by simp)
    have c0 : w'.cell? ⟨b1, 0, none⟩ = some (.bool false) := (blk_cell hb_ 0).trans rfl
    have c1 : w'.cell? ⟨b1, 1, none⟩ = some (.slice (some ⟨a1, 0, none⟩) 2 2) := (blk_cell hb_ 1).trans rfl
    have c2 : w'.cell? ⟨b1, 2, none⟩ = some (.string ⟨#[]⟩) := (blk_cell hb_ 2).trans rfl
    go_simp
    with_reducible rfl
  rotate_left
  · simp only [Act.put, List.setIfInBounds_toArray, List.set_cons_zero, List.set_cons_succ, i64_w, i32_w]
    rfl
  refine take_ (i := 1) (N := some 32) (v := ?_) (a' := ?_) #[true, true, false, false, false, false, false, false, false, false, false, false] rfl rfl (by kernel_rfl) (fun _ _ _ h => h) (Or.inl ⟨by rfl, ?_⟩) hHeld ?_ ?_
  rotate_left
  · intro w' hS
    have hb_ := hS.at (g := b4) (o := BX a4 3) (by simp)
    have c0 : w'.cell? ⟨b4, 0, none⟩ = some (.bool false) := (blk_cell hb_ 0).trans rfl
    have c1 : w'.cell? ⟨b4, 1, none⟩ = some (.slice (some ⟨a4, 0, none⟩) 3 3) := (blk_cell hb_ 1).trans rfl
    have c2 : w'.cell? ⟨b4, 2, none⟩ = some (.string ⟨#[]⟩) := (blk_cell hb_ 2).trans rfl
    go_simp
    with_reducible rfl
  rotate_left
  · simp only [Act.put, List.setIfInBounds_toArray, List.set_cons_zero, List.set_cons_succ, i64_w, i32_w]
    rfl
  refine take_ (i := 2) (N := some 33) (v := ?_) (a' := ?_) #[true, true, true, false, false, false, false, false, false, false, false, false] rfl rfl (by kernel_rfl) (fun _ _ _ h => h) (Or.inl ⟨by rfl, ?_⟩) hHeld ?_ ?_
  rotate_left
  · intro w' hS
    have hb_ := hS.at (g := b3) (o := BX a3 1) (by simp)
    have c0 : w'.cell? ⟨b3, 0, none⟩ = some (.bool false) := (blk_cell hb_ 0).trans rfl
    have c1 : w'.cell? ⟨b3, 1, none⟩ = some (.slice (some ⟨a3, 0, none⟩) 1 1) := (blk_cell hb_ 1).trans rfl
    have c2 : w'.cell? ⟨b3, 2, none⟩ = some (.string ⟨#[]⟩) := (blk_cell hb_ 2).trans rfl
    go_simp
    with_reducible rfl
  rotate_left
  · simp only [Act.put, List.setIfInBounds_toArray, List.set_cons_zero, List.set_cons_succ, i64_w, i32_w]
    rfl
  refine take_ (i := 6) (N := some 37) (v := ?_) (a' := ?_) #[true, true, true, false, false, false, true, false, false, false, false, false] rfl rfl (by kernel_rfl) (fun _ _ _ h => h) (Or.inl ⟨by rfl, ?_⟩) hHeld ?_ ?_
  rotate_left
  · intro w' hS
    have hb_ := hS.at (g := b2) (o := BX a2 2) (by simp)
    have c0 : w'.cell? ⟨b2, 0, none⟩ = some (.bool false) := (blk_cell hb_ 0).trans rfl
    have c1 : w'.cell? ⟨b2, 1, none⟩ = some (.slice (some ⟨a2, 0, none⟩) 2 2) := (blk_cell hb_ 1).trans rfl
    have c2 : w'.cell? ⟨b2, 2, none⟩ = some (.string ⟨#[]⟩) := (blk_cell hb_ 2).trans rfl
    go_simp
    with_reducible rfl
  rotate_left
  · simp only [Act.put, List.setIfInBounds_toArray, List.set_cons_zero, List.set_cons_succ, i64_w, i32_w]
    rfl
  refine yo 3 (some 34) (fun K hK => ?_)
  refine goes_ Try.func44 (by kernel_rfl) rfl #[.int .u8 79, .int .i64 5] (by rfl) rfl rfl (by (try simp only [List.map_toArray, List.map_cons, List.map_nil]); first | done | rfl) ?_
  refine (word_any 79 5 5000 (by kernel_rfl) _).mono ?_
  rintro e_ W6 ⟨rfl, hb_⟩
  refine ⟨_, rfl, ?_⟩
  clear hHeld
  have HL6 := Aside0.mk (HL5.out.below hb_)
  have HB6 := Aside0.mk (below_then HB5.out HB5.out.size hb_)
  clear hb_ HL5 HB5
  refine hK.out _ _ (S_ HL6.out (by simp [BX])) (fun hHeld => ?_)
  clear hK K
  refine yn 34 ?_
  refine yo 4 (some 35) (fun K hK => ?_)
  refine lit_step (v := .slice (some ⟨W6.heap.size, 0, none⟩) 1 1) (w' := W6.alloc (.cells #[.int .u8 79, .int .i64 5000] 78 (0, 0))) (by rfl) rfl (by first | (go_simp; done) | (go_simp; rfl)) ?_
  clear hHeld
  have HL7 := Aside0.mk (HL6.out.alloc1 (.cells #[.int .u8 79, .int .i64 5000] 78 (0, 0)))
  have HB7 := Aside0.mk (below_alloc HB6.out (.cells #[.int .u8 79, .int .i64 5000] 78 (0, 0)))
  generalize W6.alloc (.cells #[.int .u8 79, .int .i64 5000] 78 (0, 0)) = W7 at HL7 HB7 ⊢
  generalize W6.heap.size = a5 at HL7 ⊢
  clear HL6 HB6 W6
  refine hK.out _ _ (S_ HL7.out (by simp [BX])) (fun hHeld => ?_)
  clear hK K
  refine yn 35 ?_
  refine yo 5 (some 36) (fun K hK => ?_)
  refine goes_ Try.func43 (by kernel_rfl) rfl #[.slice (some ⟨a5, 0, none⟩) 1 1] (by rfl) rfl rfl (by (try simp only [List.map_toArray, List.map_cons, List.map_nil]); first | done | rfl) ?_
  refine (words_any _ _ _ _).mono ?_
  rintro e_ W8 ⟨rfl, hb_⟩
  refine ⟨_, rfl, ?_⟩
  clear hHeld
  have HL8 := Aside0.mk (HL7.out.below hb_)
  have HB8 := Aside0.mk (below_then HB7.out HB7.out.size hb_)
  clear hb_ HL7 HB7
  refine hK.out _ _ (S_ HL8.out (by simp [BX])) (fun hHeld => ?_)
  clear hK K
  refine yn 36 ?_
  refine yo 7 (some 38) (fun K hK => ?_)
  refine goes_ Try.func44 (by kernel_rfl) rfl #[.int .u8 77, .int .i64 99] (by rfl) rfl rfl (by (try simp only [List.map_toArray, List.map_cons, List.map_nil]); first | done | rfl) ?_
  refine (word_any 77 99 99000 (by kernel_rfl) _).mono ?_
  rintro e_ W9 ⟨rfl, hb_⟩
  refine ⟨_, rfl, ?_⟩
  clear hHeld
  have HL9 := Aside0.mk (HL8.out.below hb_)
  have HB9 := Aside0.mk (below_then HB8.out HB8.out.size hb_)
  clear hb_ HL8 HB8
  refine hK.out _ _ (S_ HL9.out (by simp [BX])) (fun hHeld => ?_)
  clear hK K
  refine yn 38 ?_
  refine yo 8 (some 39) (fun K hK => ?_)
  refine lit_step (v := .slice (some ⟨W9.heap.size, 0, none⟩) 1 1) (w' := W9.alloc (.cells #[.int .u8 77, .int .i64 99000] 78 (0, 0))) (by rfl) rfl (by first | (go_simp; done) | (go_simp; rfl)) ?_
  clear hHeld
  have HL10 := Aside0.mk (HL9.out.alloc1 (.cells #[.int .u8 77, .int .i64 99000] 78 (0, 0)))
  have HB10 := Aside0.mk (below_alloc HB9.out (.cells #[.int .u8 77, .int .i64 99000] 78 (0, 0)))
  generalize W9.alloc (.cells #[.int .u8 77, .int .i64 99000] 78 (0, 0)) = W10 at HL10 HB10 ⊢
  generalize W9.heap.size = a6 at HL10 ⊢
  clear HL9 HB9 W9
  refine hK.out _ _ (S_ HL10.out (by simp [BX])) (fun hHeld => ?_)
  clear hK K
  refine yn 39 ?_
  refine yo 9 (some 40) (fun K hK => ?_)
  refine goes_ Try.func43 (by kernel_rfl) rfl #[.slice (some ⟨a6, 0, none⟩) 1 1] (by rfl) rfl rfl (by (try simp only [List.map_toArray, List.map_cons, List.map_nil]); first | done | rfl) ?_
  refine (words_any _ _ _ _).mono ?_
  rintro e_ W11 ⟨rfl, hb_⟩
  refine ⟨_, rfl, ?_⟩
  clear hHeld
  have HL11 := Aside0.mk (HL10.out.below hb_)
  have HB11 := Aside0.mk (below_then HB10.out HB10.out.size hb_)
  clear hb_ HL10 HB10
  refine hK.out _ _ (S_ HL11.out (by simp [BX])) (fun hHeld => ?_)
  clear hK K
  refine yn 40 ?_
  refine yo 10 (some 41) (fun K hK => ?_)
  refine lit_step (v := .slice (some ⟨W11.heap.size, 0, none⟩) 6 6) (w' := W11.alloc (.cells #[.bool false, .slice (some ⟨a1, 0, none⟩) 2 2, .string ⟨#[]⟩, .bool false, .slice (some ⟨a4, 0, none⟩) 3 3, .string ⟨#[]⟩, .bool false, .slice (some ⟨a3, 0, none⟩) 1 1, .string ⟨#[]⟩, .bool false, .slice (some ⟨a5, 0, none⟩) 1 1, .string ⟨#[]⟩, .bool false, .slice (some ⟨a2, 0, none⟩) 2 2, .string ⟨#[]⟩, .bool false, .slice (some ⟨a6, 0, none⟩) 1 1, .string ⟨#[]⟩] 32 (0, 0))) (by rfl) rfl (by first | (go_simp; done) | (go_simp; rfl)) ?_
  clear hHeld
  have HL12 := Aside0.mk (HL11.out.alloc1 (.cells #[.bool false, .slice (some ⟨a1, 0, none⟩) 2 2, .string ⟨#[]⟩, .bool false, .slice (some ⟨a4, 0, none⟩) 3 3, .string ⟨#[]⟩, .bool false, .slice (some ⟨a3, 0, none⟩) 1 1, .string ⟨#[]⟩, .bool false, .slice (some ⟨a5, 0, none⟩) 1 1, .string ⟨#[]⟩, .bool false, .slice (some ⟨a2, 0, none⟩) 2 2, .string ⟨#[]⟩, .bool false, .slice (some ⟨a6, 0, none⟩) 1 1, .string ⟨#[]⟩] 32 (0, 0)))
  have HB12 := Aside0.mk (below_alloc HB11.out (.cells #[.bool false, .slice (some ⟨a1, 0, none⟩) 2 2, .string ⟨#[]⟩, .bool false, .slice (some ⟨a4, 0, none⟩) 3 3, .string ⟨#[]⟩, .bool false, .slice (some ⟨a3, 0, none⟩) 1 1, .string ⟨#[]⟩, .bool false, .slice (some ⟨a5, 0, none⟩) 1 1, .string ⟨#[]⟩, .bool false, .slice (some ⟨a2, 0, none⟩) 2 2, .string ⟨#[]⟩, .bool false, .slice (some ⟨a6, 0, none⟩) 1 1, .string ⟨#[]⟩] 32 (0, 0)))
  generalize W11.alloc (.cells #[.bool false, .slice (some ⟨a1, 0, none⟩) 2 2, .string ⟨#[]⟩, .bool false, .slice (some ⟨a4, 0, none⟩) 3 3, .string ⟨#[]⟩, .bool false, .slice (some ⟨a3, 0, none⟩) 1 1, .string ⟨#[]⟩, .bool false, .slice (some ⟨a5, 0, none⟩) 1 1, .string ⟨#[]⟩, .bool false, .slice (some ⟨a2, 0, none⟩) 2 2, .string ⟨#[]⟩, .bool false, .slice (some ⟨a6, 0, none⟩) 1 1, .string ⟨#[]⟩] 32 (0, 0)) = W12 at HL12 HB12 ⊢
  generalize W11.heap.size = al at HL12 ⊢
  clear HL11 HB11 W11
  refine hK.out _ _ (S_ HL12.out (by simp [BX])) (fun hHeld => ?_)
  clear hK K
  refine yn 41 ?_
  refine yp 11 5 ?_
  refine done_ (by kernel_rfl) ?_
  clear hHeld
  have Kal := Aside0.mk HL12.out.hd
  have Ka6 := Aside0.mk HL12.out.tl.hd
  have Ka5 := Aside0.mk HL12.out.tl.tl.hd
  have Kb4 := Aside0.mk HL12.out.tl.tl.tl.hd
  have Ka4 := Aside0.mk HL12.out.tl.tl.tl.tl.hd
  have Kb3 := Aside0.mk HL12.out.tl.tl.tl.tl.tl.hd
  have Kb2 := Aside0.mk HL12.out.tl.tl.tl.tl.tl.tl.hd
  have Kb1 := Aside0.mk HL12.out.tl.tl.tl.tl.tl.tl.tl.hd
  have Ka3 := Aside0.mk HL12.out.tl.tl.tl.tl.tl.tl.tl.tl.hd
  have Ka2 := Aside0.mk HL12.out.tl.tl.tl.tl.tl.tl.tl.tl.tl.hd
  have Ka1 := Aside0.mk HL12.out.tl.tl.tl.tl.tl.tl.tl.tl.tl.tl.hd
  have Ca1 := Aside0.mk (show 2 ≤ 2 ∧ Kd.C k78 W12 (some ⟨a1, 0, none⟩) 2 (rapid_).f1 from ⟨Nat.le_refl _, C_words [aw 71 0, aw 88 1000] Ka1.out (by decide)⟩)
  have Ca2 := Aside0.mk (show 2 ≤ 2 ∧ Kd.C k78 W12 (some ⟨a2, 0, none⟩) 2 (feed_).f1 from ⟨Nat.le_refl _, C_words [aw 71 1000, aw 88 2000] Ka2.out (by decide)⟩)
  have Ca3 := Aside0.mk (show 1 ≤ 1 ∧ Kd.C k78 W12 (some ⟨a3, 0, none⟩) 1 (end_).f1 from ⟨Nat.le_refl _, C_words [aw 77 30000] Ka3.out (by decide)⟩)
  have Ca4 := Aside0.mk (show 3 ≤ 3 ∧ Kd.C k78 W12 (some ⟨a4, 0, none⟩) 3 (call_).f1 from ⟨Nat.le_refl _, C_words [aw 77 98000, aw 80 5000, aw 76 2000] Ka4.out (by decide)⟩)
  have Ca5 := Aside0.mk (show 1 ≤ 1 ∧ Kd.C k78 W12 (some ⟨a5, 0, none⟩) 1 (o5_).f1 from ⟨Nat.le_refl _, C_words [aw 79 5000] Ka5.out (by decide)⟩)
  have Ca6 := Aside0.mk (show 1 ≤ 1 ∧ Kd.C k78 W12 (some ⟨a6, 0, none⟩) 1 (ret_).f1 from ⟨Nat.le_refl _, C_words [aw 77 99000] Ka6.out (by decide)⟩)
  have HVl := Aside0.mk (show Kd.V k32 32 W12 W12.heap.size (fun k_ => k_ < W12.heap.size) (.slice (some ⟨al, 0, none⟩) 6 6) [rapid_, call_, end_, o5_, feed_, ret_] from Kd.V_mk (Nat.le_refl 6) (Kd.C_F k32_heap (C_blocks [(rapid_, some ⟨a1, 0, none⟩, 2), (call_, some ⟨a4, 0, none⟩, 3), (end_, some ⟨a3, 0, none⟩, 1), (o5_, some ⟨a5, 0, none⟩, 1), (feed_, some ⟨a2, 0, none⟩, 2), (ret_, some ⟨a6, 0, none⟩, 1)] Kal.out (by simp) (fun x hx => by simp only [List.mem_cons, List.not_mem_nil, or_false] at hx; rcases hx with rfl | rfl | rfl | rfl | rfl | rfl; exact ⟨Ca1.out.1, Kd.C_below Ca1.out.2 (Below.refl _ _)⟩; exact ⟨Ca4.out.1, Kd.C_below Ca4.out.2 (Below.refl _ _)⟩; exact ⟨Ca3.out.1, Kd.C_below Ca3.out.2 (Below.refl _ _)⟩; exact ⟨Ca5.out.1, Kd.C_below Ca5.out.2 (Below.refl _ _)⟩; exact ⟨Ca2.out.1, Kd.C_below Ca2.out.2 (Below.refl _ _)⟩; exact ⟨Ca6.out.1, Kd.C_below Ca6.out.2 (Below.refl _ _)⟩))))
  have SPL := Aside0.mk (show Calls Try.prog 45 #[.slice (some ⟨al, 0, none⟩) 6 6] W12 _ from subprogram_Split.calls 60 (fun k_ => k_ < W12.heap.size) (some ⟨al, 0, none⟩) 6 [rapid_, call_, end_, o5_, feed_, ret_] [rapid_, call_, end_] [⟨5, [feed_]⟩] 0 W12 HVl.out split_ex)
  have HB12' := Aside0.mk (Below.refl W12.heap.size W12)
  go_wp2_with (first | (go_at_call 45; refine SPL.out.mono ?_; rintro e_ w13 ⟨v0, v1, rfl, hn0, hn1, hb⟩; obtain ⟨A0, c0, rfl⟩ := Kd.N_slice hn0; obtain ⟨g8, c8, e8, ge8, lt8, cells8, hg8⟩ := Kd.N_form hn1 (by decide); obtain rfl := e8; have HN0 := Aside0.mk hn0; have HN1 := Aside0.mk hn1; have GE8 := Aside0.mk ge8; have C8LE := Aside0.mk (Kd.N_reads' hn1).2.1; have BK8 := Aside0.mk hg8; have HB13 := Aside0.mk hb; clear hn0 hn1 ge8 lt8 hg8 hb) | (go_at_call 28; refine (show Calls Try.prog 28 #[.agg #[.slice A0 3 c0, .slice (some ⟨g8, 0, none⟩) 1 c8]] _ _ from subprogram_Expand.calls 60 A0 c0 [rapid_, call_, end_] (some ⟨g8, 0, none⟩) c8 [⟨5, [feed_]⟩] [rapid_, feed_, feed_, end_] 0 _ (Kd.C_alloc (Kd.N_reads' HN0.out).2.2 _) (Kd.N_reads' HN0.out).2.1 (Kd.C_alloc (Kd.N_reads' HN1.out).2.2 _) (Kd.N_reads' HN1.out).2.1 expand_ex).mono ?_; rintro e_ w14 ⟨v2, rfl, hs2, hb⟩; obtain ⟨A2, c2, rfl⟩ := Kd.R_slice (Kd.S_R hs2); have HS2 := Aside0.mk (Kd.R_reads' (Kd.S_R hs2)); have BK6 := Aside0.mk (blk_below (alloc_at w13 _) hb); have HB6 := Aside0.mk (below_then (below_alloc (Below.refl _ _) _) (below_alloc (Below.refl _ _) _).size hb); have HB14 := Aside0.mk (below_then HB13.out HB13.out.size HB6.out); have HN0' := Aside0.mk (Kd.N_below HN0.out HB6.out); have HN1' := Aside0.mk (Kd.N_below HN1.out HB6.out); have BK8' := Aside0.mk (blk_below BK8.out HB6.out); clear hs2 hb HN0 HN1 BK8 HB6; have xb10 : w14.cell? ⟨b1, 0, none⟩ = some (.bool false) := (blk_cell (blk_below Kb1.out HB14.out) 0).trans rfl; have xb11 : w14.cell? ⟨b1, 1, none⟩ = some (.slice (some ⟨a1, 0, none⟩) 2 2) := (blk_cell (blk_below Kb1.out HB14.out) 1).trans rfl; have xb12 : w14.cell? ⟨b1, 2, none⟩ = some (.string ⟨#[]⟩) := (blk_cell (blk_below Kb1.out HB14.out) 2).trans rfl; have xb20 : w14.cell? ⟨b2, 0, none⟩ = some (.bool false) := (blk_cell (blk_below Kb2.out HB14.out) 0).trans rfl; have xb21 : w14.cell? ⟨b2, 1, none⟩ = some (.slice (some ⟨a2, 0, none⟩) 2 2) := (blk_cell (blk_below Kb2.out HB14.out) 1).trans rfl; have xb22 : w14.cell? ⟨b2, 2, none⟩ = some (.string ⟨#[]⟩) := (blk_cell (blk_below Kb2.out HB14.out) 2).trans rfl; have xb30 : w14.cell? ⟨b3, 0, none⟩ = some (.bool false) := (blk_cell (blk_below Kb3.out HB14.out) 0).trans rfl; have xb31 : w14.cell? ⟨b3, 1, none⟩ = some (.slice (some ⟨a3, 0, none⟩) 1 1) := (blk_cell (blk_below Kb3.out HB14.out) 1).trans rfl; have xb32 : w14.cell? ⟨b3, 2, none⟩ = some (.string ⟨#[]⟩) := (blk_cell (blk_below Kb3.out HB14.out) 2).trans rfl; have hz6_0 : w14.cell? ⟨w13.heap.size, 0, none⟩ = some (.slice A0 3 c0) := (blk_cell BK6.out 0).trans rfl; have hz6_1 : w14.cell? ⟨w13.heap.size, 1, none⟩ = some (.slice (some ⟨g8, 0, none⟩) 1 c8) := (blk_cell BK6.out 1).trans rfl; have SAMEC := Aside0.mk (show Calls Try.prog 19 #[.slice A2 4 c2, .slice (some ⟨w14.heap.size, 0, none⟩) 4 4] (w14.alloc (.cells #[.bool false, .slice (some ⟨a1, 0, none⟩) 2 2, .string ⟨#[]⟩, .bool false, .slice (some ⟨a2, 0, none⟩) 2 2, .string ⟨#[]⟩, .bool false, .slice (some ⟨a2, 0, none⟩) 2 2, .string ⟨#[]⟩, .bool false, .slice (some ⟨a3, 0, none⟩) 1 1, .string ⟨#[]⟩] 32 (0, 0))) _ from swarfref41_Same.calls 60 A2 c2 [rapid_, feed_, feed_, end_] (some ⟨w14.heap.size, 0, none⟩) 4 [rapid_, feed_, feed_, end_] true _ (Kd.C_alloc HS2.out.2.2 _) HS2.out.2.1 (C_blocks [(rapid_, some ⟨a1, 0, none⟩, 2), (feed_, some ⟨a2, 0, none⟩, 2), (feed_, some ⟨a2, 0, none⟩, 2), (end_, some ⟨a3, 0, none⟩, 1)] (show (w14.alloc (.cells #[.bool false, .slice (some ⟨a1, 0, none⟩) 2 2, .string ⟨#[]⟩, .bool false, .slice (some ⟨a2, 0, none⟩) 2 2, .string ⟨#[]⟩, .bool false, .slice (some ⟨a2, 0, none⟩) 2 2, .string ⟨#[]⟩, .bool false, .slice (some ⟨a3, 0, none⟩) 1 1, .string ⟨#[]⟩] 32 (0, 0))).heap[w14.heap.size]? = some (.cells (encB [(rapid_, some ⟨a1, 0, none⟩, 2), (feed_, some ⟨a2, 0, none⟩, 2), (feed_, some ⟨a2, 0, none⟩, 2), (end_, some ⟨a3, 0, none⟩, 1)]).toArray 32 (0, 0)) from alloc_at w14 _) (by simp) (fun x hx => by simp only [List.mem_cons, List.not_mem_nil, or_false] at hx; rcases hx with rfl | rfl | rfl | rfl; exact ⟨Ca1.out.1, Kd.C_below Ca1.out.2 (below_alloc HB14.out _)⟩; exact ⟨Ca2.out.1, Kd.C_below Ca2.out.2 (below_alloc HB14.out _)⟩; exact ⟨Ca2.out.1, Kd.C_below Ca2.out.2 (below_alloc HB14.out _)⟩; exact ⟨Ca3.out.1, Kd.C_below Ca3.out.2 (below_alloc HB14.out _)⟩)) (Nat.le_refl 4) same_ex)) | (go_at_call 19; refine SAMEC.out.mono ?_; rintro e_ w15 ⟨rfl, hb⟩; have HB7 := Aside0.mk (below_then (below_alloc (Below.refl _ _) _) (below_alloc (Below.refl _ _) _).size hb); have HB15 := Aside0.mk (below_then HB14.out HB14.out.size HB7.out); have BK6' := Aside0.mk (blk_below BK6.out HB7.out); have HN0'' := Aside0.mk (Kd.N_below HN0'.out HB7.out); have HN1'' := Aside0.mk (Kd.N_below HN1'.out HB7.out); have BK8'' := Aside0.mk (blk_below BK8'.out HB7.out); clear hb BK6 HN0' HN1' BK8' HB7 SAMEC))
  generalize w13.heap.size = b6 at BK6' ⊢
  clear HL12 HB12' SPL HVl HS2
  refine start_ (n := 10) (S := fun w' => w'.cell? ⟨b6, 1, none⟩ = some (.slice (some ⟨g8, 0, none⟩) 1 c8)) (ds := []) #[false, false, false, false, false, false, false, false, false, false] (by kernel_rfl) rfl rfl ((blk_cell (show w15.drew.heap[b6]? = _ from BK6'.out) 1).trans rfl) (fun hHeld => ?_)
  have hb_ := below_drew1 (Below.refl w15.heap.size w15)
  have HB_16 := Aside0.mk (below_then HB15.out HB15.out.size hb_)
  have BKP_16 := Aside0.mk (blk_below BK6'.out hb_)
  have HN0_16 := Aside0.mk (Kd.N_below HN0''.out hb_)
  have HN1_16 := Aside0.mk (Kd.N_below HN1''.out hb_)
  have BK8_16 := Aside0.mk (blk_below BK8''.out hb_)
  clear HB15 BK6' HN0'' HN1'' BK8''
  clear hb_
  generalize w15.drew = W16 at * 
  refine yp 0 74 ?_
  refine take_ (i := 1) (N := some 75) (v := ?_) (a' := ?_) #[true, true, false, false, false, false, false, false, false, false] rfl rfl (by kernel_rfl) (fun _ _ _ h => h) (Or.inl ⟨by rfl, ?_⟩) hHeld ?_ ?_
  rotate_left
  · intro w' hS
    go_simp
    with_reducible rfl
  rotate_left
  · simp only [Act.put, List.setIfInBounds_toArray, List.set_cons_zero, List.set_cons_succ, i64_w, i32_w]
    rfl
  refine yo 2 (some 76) (fun K hK => ?_)
  refine goes_ Try.func44 (by kernel_rfl) rfl #[.int .u8 77, .int .i64 98] (by rfl) rfl rfl (by (try simp only [List.map_toArray, List.map_cons, List.map_nil]); first | done | rfl) ?_
  refine (word_any 77 98 98000 (by kernel_rfl) _).mono ?_
  rintro e_ W17 ⟨rfl, hb_⟩
  refine ⟨_, rfl, ?_⟩
  clear hHeld
  have HB_17 := Aside0.mk (below_then HB_16.out HB_16.out.size hb_)
  have BKP_17 := Aside0.mk (blk_below BKP_16.out hb_)
  have HN0_17 := Aside0.mk (Kd.N_below HN0_16.out hb_)
  have HN1_17 := Aside0.mk (Kd.N_below HN1_16.out hb_)
  have BK8_17 := Aside0.mk (blk_below BK8_16.out hb_)
  clear HB_16 BKP_16 HN0_16 HN1_16 BK8_16
  clear hb_
  refine hK.out _ _ ((blk_cell BKP_17.out 1).trans rfl) (fun hHeld => ?_)
  clear hK K
  refine yn 76 ?_
  refine yo 3 (some 77) (fun K hK => ?_)
  refine goes_ Try.func44 (by kernel_rfl) rfl #[.int .u8 80, .int .i64 5] (by rfl) rfl rfl (by (try simp only [List.map_toArray, List.map_cons, List.map_nil]); first | done | rfl) ?_
  refine (word_any 80 5 5000 (by kernel_rfl) _).mono ?_
  rintro e_ W18 ⟨rfl, hb_⟩
  refine ⟨_, rfl, ?_⟩
  clear hHeld
  have HB_18 := Aside0.mk (below_then HB_17.out HB_17.out.size hb_)
  have BKP_18 := Aside0.mk (blk_below BKP_17.out hb_)
  have HN0_18 := Aside0.mk (Kd.N_below HN0_17.out hb_)
  have HN1_18 := Aside0.mk (Kd.N_below HN1_17.out hb_)
  have BK8_18 := Aside0.mk (blk_below BK8_17.out hb_)
  clear HB_17 BKP_17 HN0_17 HN1_17 BK8_17
  clear hb_
  refine hK.out _ _ ((blk_cell BKP_18.out 1).trans rfl) (fun hHeld => ?_)
  clear hK K
  refine yn 77 ?_
  refine yo 4 (some 78) (fun K hK => ?_)
  refine lit_step (v := .slice (some ⟨W18.heap.size, 0, none⟩) 2 2) (w' := W18.alloc (.cells #[.int .u8 77, .int .i64 98000, .int .u8 80, .int .i64 5000] 78 (0, 0))) (by rfl) rfl (by first | (go_simp; done) | (go_simp; rfl)) ?_
  clear hHeld
  have hb_ := below_alloc (Below.refl W18.heap.size W18) (.cells #[.int .u8 77, .int .i64 98000, .int .u8 80, .int .i64 5000] 78 (0, 0))
  have Ka7_19 := Aside0.mk (alloc_at W18 (.cells #[.int .u8 77, .int .i64 98000, .int .u8 80, .int .i64 5000] 78 (0, 0)))
  have HB_19 := Aside0.mk (below_then HB_18.out HB_18.out.size hb_)
  have BKP_19 := Aside0.mk (blk_below BKP_18.out hb_)
  have HN0_19 := Aside0.mk (Kd.N_below HN0_18.out hb_)
  have HN1_19 := Aside0.mk (Kd.N_below HN1_18.out hb_)
  have BK8_19 := Aside0.mk (blk_below BK8_18.out hb_)
  clear HB_18 BKP_18 HN0_18 HN1_18 BK8_18
  clear hb_
  generalize W18.alloc (.cells #[.int .u8 77, .int .i64 98000, .int .u8 80, .int .i64 5000] 78 (0, 0)) = W19 at * 
  generalize W18.heap.size = a7 at * 
  refine hK.out _ _ ((blk_cell BKP_19.out 1).trans rfl) (fun hHeld => ?_)
  clear hK K
  refine yn 78 ?_
  refine yo 5 (some 79) (fun K hK => ?_)
  refine goes_ Try.func43 (by kernel_rfl) rfl #[.slice (some ⟨a7, 0, none⟩) 2 2] (by rfl) rfl rfl (by (try simp only [List.map_toArray, List.map_cons, List.map_nil]); first | done | rfl) ?_
  refine (words_any _ _ _ _).mono ?_
  rintro e_ W20 ⟨rfl, hb_⟩
  refine ⟨_, rfl, ?_⟩
  clear hHeld
  have HB_20 := Aside0.mk (below_then HB_19.out HB_19.out.size hb_)
  have BKP_20 := Aside0.mk (blk_below BKP_19.out hb_)
  have HN0_20 := Aside0.mk (Kd.N_below HN0_19.out hb_)
  have HN1_20 := Aside0.mk (Kd.N_below HN1_19.out hb_)
  have BK8_20 := Aside0.mk (blk_below BK8_19.out hb_)
  have Ka7_20 := Aside0.mk (blk_below Ka7_19.out hb_)
  clear HB_19 BKP_19 HN0_19 HN1_19 BK8_19 Ka7_19
  clear hb_
  refine hK.out _ _ ((blk_cell BKP_20.out 1).trans rfl) (fun hHeld => ?_)
  clear hK K
  refine yn 79 ?_
  refine yo 6 (some 80) (fun K hK => ?_)
  refine lit_step (v := .slice (some ⟨W20.heap.size, 0, none⟩) 1 1) (w' := W20.alloc (.cells #[.bool false, .slice (some ⟨a7, 0, none⟩) 2 2, .string ⟨#[]⟩] 32 (0, 0))) (by rfl) rfl (by first | (go_simp; done) | (go_simp; rfl)) ?_
  clear hHeld
  have hb_ := below_alloc (Below.refl W20.heap.size W20) (.cells #[.bool false, .slice (some ⟨a7, 0, none⟩) 2 2, .string ⟨#[]⟩] 32 (0, 0))
  have Ka8_21 := Aside0.mk (alloc_at W20 (.cells #[.bool false, .slice (some ⟨a7, 0, none⟩) 2 2, .string ⟨#[]⟩] 32 (0, 0)))
  have HB_21 := Aside0.mk (below_then HB_20.out HB_20.out.size hb_)
  have BKP_21 := Aside0.mk (blk_below BKP_20.out hb_)
  have HN0_21 := Aside0.mk (Kd.N_below HN0_20.out hb_)
  have HN1_21 := Aside0.mk (Kd.N_below HN1_20.out hb_)
  have BK8_21 := Aside0.mk (blk_below BK8_20.out hb_)
  have Ka7_21 := Aside0.mk (blk_below Ka7_20.out hb_)
  clear HB_20 BKP_20 HN0_20 HN1_20 BK8_20 Ka7_20
  clear hb_
  generalize W20.alloc (.cells #[.bool false, .slice (some ⟨a7, 0, none⟩) 2 2, .string ⟨#[]⟩] 32 (0, 0)) = W21 at * 
  generalize W20.heap.size = a8 at * 
  refine hK.out _ _ ((blk_cell BKP_21.out 1).trans rfl) (fun hHeld => ?_)
  clear hK K
  refine yn 80 ?_
  refine yp 7 81 ?_
  refine yp 8 82 ?_
  obtain ⟨ad8, A8, c8', e8, hx8_, hy8_, hl8, hk8⟩ := at_T81 (Kd.N_reads' HN1_21.out).2.2 0 (by decide) (by decide)
  injection e8 with e8
  subst e8
  have hx8 : W21.cell? ⟨g8, 0, none⟩ = some (.int .i64 5) := hx8_
  have hy8 : W21.cell? ⟨g8, 1, none⟩ = some (.slice A8 1 c8') := hy8_
  clear hx8_ hy8_
  have hf8 := blk_frozen BK8_21.out 1
  refine yo 9 (none) (fun K hK => ?_)
  refine store_step_ (w' := W21.setCell ⟨g8, 1, none⟩ (.slice (some ⟨a8, 0, none⟩) 1 1)) (by rfl) rfl (by first | (go_simp; done) | (go_simp; rfl)) ?_
  clear hHeld
  have HBs := Aside0.mk (show Below W12.heap.size W12 (W21.setCell ⟨g8, 1, none⟩ (.slice (some ⟨a8, 0, none⟩) 1 1)) from below_set HB_21.out GE8.out)
  have BKPs := Aside0.mk (blk_far (p := ⟨g8, 1, none⟩) BKP_21.out (fun e_ => by subst e_; have h_ := BKP_21.out.symm.trans BK8_21.out; injection h_ with h_; injection h_ with _ h2_ _; exact absurd h2_ (by decide)) (.slice (some ⟨a8, 0, none⟩) 1 1))
  have Ka7s := Aside0.mk (blk_far (p := ⟨g8, 1, none⟩) Ka7_21.out (fun e_ => by subst e_; have h_ := Ka7_21.out.symm.trans BK8_21.out; injection h_ with h_; injection h_ with _ h2_ _; exact absurd h2_ (by decide)) (.slice (some ⟨a8, 0, none⟩) 1 1))
  have Ka8s := Aside0.mk (blk_far (p := ⟨g8, 1, none⟩) Ka8_21.out (fun e_ => by subst e_; have h_ := Ka8_21.out.symm.trans BK8_21.out; injection h_ with h_; injection h_ with _ h2_ _; exact absurd h2_ (by decide)) (.slice (some ⟨a8, 0, none⟩) 1 1))
  have HN0s := Aside0.mk (Kd.N_far (p := ⟨g8, 1, none⟩) HN0_21.out (fun k_ hk_ e_ => hk_.2 (by rw [e_]; rfl)) (.slice (some ⟨a8, 0, none⟩) 1 1))
  have hs0 : (W21.setCell ⟨g8, 1, none⟩ (.slice (some ⟨a8, 0, none⟩) 1 1)).cell? ⟨g8, 0, none⟩ = some (.int .i64 5) := by
    have h1 := (blk_cell BK8_21.out 0).symm.trans hx8
    refine (blk_cell (blk_put BK8_21.out 1 _ rfl) 0).trans ?_
    simpa using h1
  have hs1 : (W21.setCell ⟨g8, 1, none⟩ (.slice (some ⟨a8, 0, none⟩) 1 1)).cell? ⟨g8, 1, none⟩ = some (.slice (some ⟨a8, 0, none⟩) 1 1) := by
    have h1 := (blk_cell BK8_21.out 1).symm.trans hy8
    refine (blk_cell (blk_put BK8_21.out 1 _ rfl) 1).trans ?_
    have h2 := (Array.getElem?_eq_some_iff.1 h1).1
    simp [h2]
  generalize W21.setCell ⟨g8, 1, none⟩ (.slice (some ⟨a8, 0, none⟩) 1 1) = W22 at *
  have CS := Aside0.mk (C_sub1 (l := [call5_]) hs0 hs1 (Nat.le_refl 1) (C_blocks [(call5_, some ⟨a7, 0, none⟩, 2)] Ka8s.out (by simp) (fun x hx => by simp only [List.mem_cons, List.not_mem_nil, or_false] at hx; rcases hx with rfl; exact ⟨Nat.le_refl 2, C_words [aw 77 98000, aw 80 5000] Ka7s.out (by decide)⟩)))
  clear hx8 hy8 hl8 hk8 hf8 hs0 hs1 HB_21 BKP_21 HN0_21 HN1_21 BK8_21 Ka7_21 Ka8_21
  refine hK.out _ _ ((blk_cell BKPs.out 1).trans rfl) (fun hHeld => ?_)
  clear hK K
  refine norm_ (a' := ?_) ?_ ?_
  rotate_left
  · show Act.put _ none _ = _
    rfl
  refine done_ (by kernel_rfl) ?_
  clear hHeld
  have hz6_0 : W22.cell? ⟨b6, 0, none⟩ = some (.slice A0 3 c0) := (blk_cell BKPs.out 0).trans rfl
  have hz6_1 : W22.cell? ⟨b6, 1, none⟩ = some (.slice (some ⟨g8, 0, none⟩) 1 c8) := (blk_cell BKPs.out 1).trans rfl
  go_wp2_with (fail)
  clear hz6_0 hz6_1
  refine (show Calls Try.prog 28 #[.agg #[.slice A0 3 c0, .slice (some ⟨g8, 0, none⟩) 1 c8]] W22 _ from subprogram_Expand.calls 60 A0 c0 [rapid_, call_, end_] (some ⟨g8, 0, none⟩) c8 [⟨5, [call5_]⟩] [] 12 W22 (Kd.N_reads' HN0s.out).2.2 (Kd.N_reads' HN0s.out).2.1 CS.out C8LE.out expand_ex2).mono ?_
  rintro e_ W23 ⟨v3, rfl, hs3, hb_⟩
  obtain ⟨A3, c3, rfl⟩ := Kd.R_slice (Kd.S_R hs3)
  have HB23 := Aside0.mk (below_then HBs.out HBs.out.size hb_)
  clear hs3 hb_ HN0s CS HBs BKPs Ka7s Ka8s
  have yb10 : W23.cell? ⟨b1, 0, none⟩ = some (.bool false) := (blk_cell (blk_below Kb1.out HB23.out) 0).trans rfl
  have yb11 : W23.cell? ⟨b1, 1, none⟩ = some (.slice (some ⟨a1, 0, none⟩) 2 2) := (blk_cell (blk_below Kb1.out HB23.out) 1).trans rfl
  have yb12 : W23.cell? ⟨b1, 2, none⟩ = some (.string ⟨#[]⟩) := (blk_cell (blk_below Kb1.out HB23.out) 2).trans rfl
  have yb20 : W23.cell? ⟨b2, 0, none⟩ = some (.bool false) := (blk_cell (blk_below Kb2.out HB23.out) 0).trans rfl
  have yb21 : W23.cell? ⟨b2, 1, none⟩ = some (.slice (some ⟨a2, 0, none⟩) 2 2) := (blk_cell (blk_below Kb2.out HB23.out) 1).trans rfl
  have yb22 : W23.cell? ⟨b2, 2, none⟩ = some (.string ⟨#[]⟩) := (blk_cell (blk_below Kb2.out HB23.out) 2).trans rfl
  have yb30 : W23.cell? ⟨b3, 0, none⟩ = some (.bool false) := (blk_cell (blk_below Kb3.out HB23.out) 0).trans rfl
  have yb31 : W23.cell? ⟨b3, 1, none⟩ = some (.slice (some ⟨a3, 0, none⟩) 1 1) := (blk_cell (blk_below Kb3.out HB23.out) 1).trans rfl
  have yb32 : W23.cell? ⟨b3, 2, none⟩ = some (.string ⟨#[]⟩) := (blk_cell (blk_below Kb3.out HB23.out) 2).trans rfl
  have yb40 : W23.cell? ⟨b4, 0, none⟩ = some (.bool false) := (blk_cell (blk_below Kb4.out HB23.out) 0).trans rfl
  have yb41 : W23.cell? ⟨b4, 1, none⟩ = some (.slice (some ⟨a4, 0, none⟩) 3 3) := (blk_cell (blk_below Kb4.out HB23.out) 1).trans rfl
  have yb42 : W23.cell? ⟨b4, 2, none⟩ = some (.string ⟨#[]⟩) := (blk_cell (blk_below Kb4.out HB23.out) 2).trans rfl
  go_wp2_with (fail)
  clear yb10 yb11 yb12 yb20 yb21 yb22 yb30 yb31 yb32 yb40 yb41 yb42
  refine (show Calls Try.prog 32 #[.slice (some ⟨W23.heap.size, 0, none⟩) 6 6, .int .i64 7, .int .i64 2] (W23.alloc (.cells #[.bool false, .slice (some ⟨a1, 0, none⟩) 2 2, .string ⟨#[]⟩, .bool false, .slice (some ⟨a2, 0, none⟩) 2 2, .string ⟨#[]⟩, .bool false, .slice (some ⟨a4, 0, none⟩) 3 3, .string ⟨#[]⟩, .bool false, .slice (some ⟨a1, 0, none⟩) 2 2, .string ⟨#[]⟩, .bool false, .slice (some ⟨a2, 0, none⟩) 2 2, .string ⟨#[]⟩, .bool false, .slice (some ⟨a3, 0, none⟩) 1 1, .string ⟨#[]⟩] 32 (0, 0))) _ from subprogram_Fold.calls 60 (fun k_ => k_ < (W23.alloc (.cells #[.bool false, .slice (some ⟨a1, 0, none⟩) 2 2, .string ⟨#[]⟩, .bool false, .slice (some ⟨a2, 0, none⟩) 2 2, .string ⟨#[]⟩, .bool false, .slice (some ⟨a4, 0, none⟩) 3 3, .string ⟨#[]⟩, .bool false, .slice (some ⟨a1, 0, none⟩) 2 2, .string ⟨#[]⟩, .bool false, .slice (some ⟨a2, 0, none⟩) 2 2, .string ⟨#[]⟩, .bool false, .slice (some ⟨a3, 0, none⟩) 1 1, .string ⟨#[]⟩] 32 (0, 0))).heap.size) (some ⟨W23.heap.size, 0, none⟩) 6 [rapid_, feed_, call_, rapid_, feed_, end_] 7 2 [again_, call_, again_, end_] [⟨7, [rapid_, feed_]⟩] 0 (W23.alloc (.cells #[.bool false, .slice (some ⟨a1, 0, none⟩) 2 2, .string ⟨#[]⟩, .bool false, .slice (some ⟨a2, 0, none⟩) 2 2, .string ⟨#[]⟩, .bool false, .slice (some ⟨a4, 0, none⟩) 3 3, .string ⟨#[]⟩, .bool false, .slice (some ⟨a1, 0, none⟩) 2 2, .string ⟨#[]⟩, .bool false, .slice (some ⟨a2, 0, none⟩) 2 2, .string ⟨#[]⟩, .bool false, .slice (some ⟨a3, 0, none⟩) 1 1, .string ⟨#[]⟩] 32 (0, 0))) (Kd.V_mk (Nat.le_refl 6) (Kd.C_F k32_heap (C_blocks [(rapid_, some ⟨a1, 0, none⟩, 2), (feed_, some ⟨a2, 0, none⟩, 2), (call_, some ⟨a4, 0, none⟩, 3), (rapid_, some ⟨a1, 0, none⟩, 2), (feed_, some ⟨a2, 0, none⟩, 2), (end_, some ⟨a3, 0, none⟩, 1)] (show (W23.alloc (.cells #[.bool false, .slice (some ⟨a1, 0, none⟩) 2 2, .string ⟨#[]⟩, .bool false, .slice (some ⟨a2, 0, none⟩) 2 2, .string ⟨#[]⟩, .bool false, .slice (some ⟨a4, 0, none⟩) 3 3, .string ⟨#[]⟩, .bool false, .slice (some ⟨a1, 0, none⟩) 2 2, .string ⟨#[]⟩, .bool false, .slice (some ⟨a2, 0, none⟩) 2 2, .string ⟨#[]⟩, .bool false, .slice (some ⟨a3, 0, none⟩) 1 1, .string ⟨#[]⟩] 32 (0, 0))).heap[W23.heap.size]? = some (.cells (encB [(rapid_, some ⟨a1, 0, none⟩, 2), (feed_, some ⟨a2, 0, none⟩, 2), (call_, some ⟨a4, 0, none⟩, 3), (rapid_, some ⟨a1, 0, none⟩, 2), (feed_, some ⟨a2, 0, none⟩, 2), (end_, some ⟨a3, 0, none⟩, 1)]).toArray 32 (0, 0)) from alloc_at W23 _) (by simp) (fun x hx => by simp only [List.mem_cons, List.not_mem_nil, or_false] at hx; rcases hx with rfl | rfl | rfl | rfl | rfl | rfl; exact ⟨Ca1.out.1, Kd.C_below Ca1.out.2 (below_alloc HB23.out _)⟩; exact ⟨Ca2.out.1, Kd.C_below Ca2.out.2 (below_alloc HB23.out _)⟩; exact ⟨Ca4.out.1, Kd.C_below Ca4.out.2 (below_alloc HB23.out _)⟩; exact ⟨Ca1.out.1, Kd.C_below Ca1.out.2 (below_alloc HB23.out _)⟩; exact ⟨Ca2.out.1, Kd.C_below Ca2.out.2 (below_alloc HB23.out _)⟩; exact ⟨Ca3.out.1, Kd.C_below Ca3.out.2 (below_alloc HB23.out _)⟩)))) fold_ex).mono ?_
  rintro e_ W24 ⟨v4, v5, rfl, hn4, hn5, hb_⟩
  obtain ⟨A4, c4, rfl⟩ := Kd.N_slice hn4
  obtain ⟨g5, c5, e5_, _, _, _, _⟩ := Kd.N_form hn5 (by decide)
  obtain rfl := e5_
  have HN4 := Aside0.mk hn4
  have HN5 := Aside0.mk hn5
  have HB24 := Aside0.mk (below_then (below_alloc HB23.out _) (below_alloc HB23.out _).size hb_)
  clear hn4 hn5 hb_ HB23
  go_wp2_with (fail)
  have HBx := HB24
  clear HB24
  refine (word_any 77 98 98000 (by kernel_rfl) _).mono ?_
  rintro e_ W25 ⟨rfl, hb_⟩
  have B12 := Aside0.mk (blk_below (alloc_at W24 _) hb_)
  have hb2_ := below_then (below_alloc (Below.refl W24.heap.size W24) _) (below_alloc (Below.refl W24.heap.size W24) _).size hb_
  have HBx' := Aside0.mk (below_then HBx.out HBx.out.size hb2_)
  have HN4' := Aside0.mk (Kd.N_below HN4.out hb2_)
  have HN5' := Aside0.mk (Kd.N_below HN5.out hb2_)
  clear HBx HN4 HN5
  have HBx := HBx'
  have HN4 := HN4'
  have HN5 := HN5'
  clear HBx' HN4' HN5'
  clear hb_ hb2_
  generalize W24.heap.size = b12 at *
  go_wp2_with (fail)
  refine (word_any 80 7 7000 (by kernel_rfl) _).mono ?_
  rintro e_ W26 ⟨rfl, hb_⟩
  have hb2_ := hb_
  have HBx' := Aside0.mk (below_then HBx.out HBx.out.size hb2_)
  have HN4' := Aside0.mk (Kd.N_below HN4.out hb2_)
  have HN5' := Aside0.mk (Kd.N_below HN5.out hb2_)
  have B12' := Aside0.mk (blk_below B12.out hb2_)
  clear HBx HN4 HN5 B12
  have HBx := HBx'
  have HN4 := HN4'
  have HN5 := HN5'
  have B12 := B12'
  clear HBx' HN4' HN5' B12'
  clear hb_ hb2_
  go_wp2_with (fail)
  refine (words_any _ _ _ _).mono ?_
  rintro e_ W27 ⟨rfl, hb_⟩
  have B9 := Aside0.mk (blk_below (alloc_at W26 _) hb_)
  have hb2_ := below_then (below_alloc (Below.refl W26.heap.size W26) _) (below_alloc (Below.refl W26.heap.size W26) _).size hb_
  have HBx' := Aside0.mk (below_then HBx.out HBx.out.size hb2_)
  have HN4' := Aside0.mk (Kd.N_below HN4.out hb2_)
  have HN5' := Aside0.mk (Kd.N_below HN5.out hb2_)
  have B12' := Aside0.mk (blk_below B12.out hb2_)
  clear HBx HN4 HN5 B12
  have HBx := HBx'
  have HN4 := HN4'
  have HN5 := HN5'
  have B12 := B12'
  clear HBx' HN4' HN5' B12'
  clear hb_ hb2_
  generalize W26.heap.size = a9 at *
  have hw0 : (W27.alloc (.cells #[.bool false, .slice (some ⟨a9, 0, none⟩) 2 2, .string ⟨#[]⟩] 32 (0, 0))).cell? ⟨b12, 0, none⟩ = some (.slice A4 4 c4) := (blk_cell (blk_alloc B12.out _) 0).trans rfl
  have hw1 : (W27.alloc (.cells #[.bool false, .slice (some ⟨a9, 0, none⟩) 2 2, .string ⟨#[]⟩] 32 (0, 0))).cell? ⟨b12, 1, none⟩ = some (.slice (some ⟨g5, 0, none⟩) 1 c5) := (blk_cell (blk_alloc B12.out _) 1).trans rfl
  obtain ⟨ad5, A9, c9, e5, hx5_, hy5_, hl5, hk5⟩ := at_T81 (Kd.C_alloc (Kd.N_reads' HN5.out).2.2 (.cells #[.bool false, .slice (some ⟨a9, 0, none⟩) 2 2, .string ⟨#[]⟩] 32 (0, 0))) 0 (by decide) (by decide)
  injection e5 with e5
  subst e5
  have hx5 : (W27.alloc (.cells #[.bool false, .slice (some ⟨a9, 0, none⟩) 2 2, .string ⟨#[]⟩] 32 (0, 0))).cell? ⟨g5, 0, none⟩ = some (.int .i64 7) := hx5_
  clear hx5_ hy5_ hl5 hk5
  have zb30 : (W27.alloc (.cells #[.bool false, .slice (some ⟨a9, 0, none⟩) 2 2, .string ⟨#[]⟩] 32 (0, 0))).cell? ⟨b3, 0, none⟩ = some (.bool false) := (blk_cell (blk_below Kb3.out (below_alloc HBx.out _)) 0).trans rfl
  have zb31 : (W27.alloc (.cells #[.bool false, .slice (some ⟨a9, 0, none⟩) 2 2, .string ⟨#[]⟩] 32 (0, 0))).cell? ⟨b3, 1, none⟩ = some (.slice (some ⟨a3, 0, none⟩) 1 1) := (blk_cell (blk_below Kb3.out (below_alloc HBx.out _)) 1).trans rfl
  have zb32 : (W27.alloc (.cells #[.bool false, .slice (some ⟨a9, 0, none⟩) 2 2, .string ⟨#[]⟩] 32 (0, 0))).cell? ⟨b3, 2, none⟩ = some (.string ⟨#[]⟩) := (blk_cell (blk_below Kb3.out (below_alloc HBx.out _)) 2).trans rfl
  have zb40 : (W27.alloc (.cells #[.bool false, .slice (some ⟨a9, 0, none⟩) 2 2, .string ⟨#[]⟩] 32 (0, 0))).cell? ⟨b4, 0, none⟩ = some (.bool false) := (blk_cell (blk_below Kb4.out (below_alloc HBx.out _)) 0).trans rfl
  have zb41 : (W27.alloc (.cells #[.bool false, .slice (some ⟨a9, 0, none⟩) 2 2, .string ⟨#[]⟩] 32 (0, 0))).cell? ⟨b4, 1, none⟩ = some (.slice (some ⟨a4, 0, none⟩) 3 3) := (blk_cell (blk_below Kb4.out (below_alloc HBx.out _)) 1).trans rfl
  have zb42 : (W27.alloc (.cells #[.bool false, .slice (some ⟨a9, 0, none⟩) 2 2, .string ⟨#[]⟩] 32 (0, 0))).cell? ⟨b4, 2, none⟩ = some (.string ⟨#[]⟩) := (blk_cell (blk_below Kb4.out (below_alloc HBx.out _)) 2).trans rfl
  go_wp2_with (fail)
  clear hw0 hw1 hx5 zb30 zb31 zb32 zb40 zb41 zb42
  have Ca9 := Aside0.mk (show 2 ≤ 2 ∧ Kd.C k78 W27 (some ⟨a9, 0, none⟩) 2 again_.f1 from ⟨Nat.le_refl _, C_words [aw 77 98000, aw 80 7000] B9.out (by decide)⟩)
  refine (show Calls Try.prog 19 #[.slice A4 4 c4, .slice (some ⟨W27.heap.size + 1, 0, none⟩) 4 4] ((W27.alloc (.cells #[.bool false, .slice (some ⟨a9, 0, none⟩) 2 2, .string ⟨#[]⟩] 32 (0, 0))).alloc (.cells #[.bool false, .slice (some ⟨a9, 0, none⟩) 2 2, .string ⟨#[]⟩, .bool false, .slice (some ⟨a4, 0, none⟩) 3 3, .string ⟨#[]⟩, .bool false, .slice (some ⟨a9, 0, none⟩) 2 2, .string ⟨#[]⟩, .bool false, .slice (some ⟨a3, 0, none⟩) 1 1, .string ⟨#[]⟩] 32 (0, 0))) _ from swarfref41_Same.calls 60 A4 c4 [again_, call_, again_, end_] (some ⟨W27.heap.size + 1, 0, none⟩) 4 [again_, call_, again_, end_] true _ (Kd.C_alloc (Kd.C_alloc (Kd.N_reads' HN4.out).2.2 _) _) (Kd.N_reads' HN4.out).2.1 (C_blocks [(again_, some ⟨a9, 0, none⟩, 2), (call_, some ⟨a4, 0, none⟩, 3), (again_, some ⟨a9, 0, none⟩, 2), (end_, some ⟨a3, 0, none⟩, 1)] (show ((W27.alloc (.cells #[.bool false, .slice (some ⟨a9, 0, none⟩) 2 2, .string ⟨#[]⟩] 32 (0, 0))).alloc (.cells #[.bool false, .slice (some ⟨a9, 0, none⟩) 2 2, .string ⟨#[]⟩, .bool false, .slice (some ⟨a4, 0, none⟩) 3 3, .string ⟨#[]⟩, .bool false, .slice (some ⟨a9, 0, none⟩) 2 2, .string ⟨#[]⟩, .bool false, .slice (some ⟨a3, 0, none⟩) 1 1, .string ⟨#[]⟩] 32 (0, 0))).heap[W27.heap.size + 1]? = some (.cells (encB [(again_, some ⟨a9, 0, none⟩, 2), (call_, some ⟨a4, 0, none⟩, 3), (again_, some ⟨a9, 0, none⟩, 2), (end_, some ⟨a3, 0, none⟩, 1)]).toArray 32 (0, 0)) from by rw [← size_alloc W27 (.cells #[.bool false, .slice (some ⟨a9, 0, none⟩) 2 2, .string ⟨#[]⟩] 32 (0, 0))]; exact alloc_at _ _) (by simp) (fun x hx => by simp only [List.mem_cons, List.not_mem_nil, or_false] at hx; rcases hx with rfl | rfl | rfl | rfl; exact ⟨Ca9.out.1, Kd.C_below Ca9.out.2 (below_alloc (below_alloc (Below.refl _ _) _) _)⟩; exact ⟨Ca4.out.1, Kd.C_below Ca4.out.2 (below_alloc (below_alloc HBx.out _) _)⟩; exact ⟨Ca9.out.1, Kd.C_below Ca9.out.2 (below_alloc (below_alloc (Below.refl _ _) _) _)⟩; exact ⟨Ca3.out.1, Kd.C_below Ca3.out.2 (below_alloc (below_alloc HBx.out _) _)⟩)) (Nat.le_refl 4) same_ex2).mono ?_
  rintro e_ W29 ⟨rfl, hb_⟩
  have hb2_ := below_then (below_alloc (below_alloc (Below.refl W27.heap.size W27) _) _) (below_alloc (below_alloc (Below.refl W27.heap.size W27) _) _).size hb_
  have HBy := Aside0.mk (below_then HBx.out HBx.out.size hb2_)
  have HN5' := Aside0.mk (Kd.N_below HN5.out hb2_)
  have B12' := Aside0.mk (blk_below B12.out hb2_)
  clear hb_ hb2_ HBx HN5 B12 HN4 B9 Ca9
  have HN5 := HN5'
  have B12 := B12'
  clear HN5' B12'
  have hw0 : W29.cell? ⟨b12, 0, none⟩ = some (.slice A4 4 c4) := (blk_cell B12.out 0).trans rfl
  have hw1 : W29.cell? ⟨b12, 1, none⟩ = some (.slice (some ⟨g5, 0, none⟩) 1 c5) := (blk_cell B12.out 1).trans rfl
  obtain ⟨ad5, A9, c9, e5, hx5_, hy5_, hl5, hk5⟩ := at_T81 (Kd.N_reads' HN5.out).2.2 0 (by decide) (by decide)
  injection e5 with e5
  subst e5
  have hx5 : W29.cell? ⟨g5, 0, none⟩ = some (.int .i64 7) := hx5_
  clear hx5_ hy5_ hl5 hk5
  go_wp2_with (fail)
  go_ret
  exact ⟨rfl, below_then HB12.out HB12.out.size HBy.out⟩
def swarflaw43_awake.f : Option (Bool) := some true
theorem swarflaw43_awake.calls (r : Bool) (w : World) (h : swarflaw43_awake.f = some r) : Calls Try.prog 23 #[] w fun e w' => e = .returned (.bool r) ∧ Below w.heap.size w w' := by
  obtain rfl := Option.some.inj h
  exact awake43_calls w
end Go.Proofs.Ytehkhbnhmehobaa.P
