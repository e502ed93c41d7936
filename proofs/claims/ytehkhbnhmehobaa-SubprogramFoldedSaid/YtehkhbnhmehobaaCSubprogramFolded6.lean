/- The law swarflaw43.SubprogramFolded of the given program returns true for every input, and its arguments read behind the call as they read before.
   Conditions: none beyond the given statement Rows.SubprogramFoldedSaid. -/
import Derived.Test.YtehkhbnhmehobaaRows
import Derived.WalkKit
import Derived.ProofKit
import Derived.OpenShut
import Derived.ShutString
import Derived.ChangeOld
import Derived.Below
import Derived.SizedLaws
import Derived.Carry
import Derived.Test.YtehkhbnhmehobaaCSubprogramFolded1
import Derived.Test.YtehkhbnhmehobaaCSubprogramFolded2
import Derived.Test.YtehkhbnhmehobaaCSubprogramFolded3
import Derived.Test.YtehkhbnhmehobaaCSubprogramFolded4
import Derived.Test.YtehkhbnhmehobaaCSubprogramFolded5
namespace Go.Proofs.Ytehkhbnhmehobaa.P
open Go.RowKit Go.Proofs.YtehkhbnhmehobaaW.PrintWords Go.Proofs.YtehkhbnhmehobaaW.PrintLast Go.Proofs.YtehkhbnhmehobaaW.PrintMore
set_option linter.unusedVariables false
set_option linter.unusedSimpArgs false
set_option maxHeartbeats 16000000 in
set_option maxRecDepth 100000 in
theorem awake43_calls (w : World) : Calls Try.prog 23 #[] w fun e w' => e = .returned (.bool true) ∧ Below w.heap.size w w' := by
  have hu32 := Try.underlying32
  have hu54 := Try.underlying54
  have hu81 := Try.underlying81
  have hu78 := Try.underlying78
  have HL := Aside0.mk (Blks.nil w)
  have HB := Aside0.mk (Below.refl w.heap.size w)
  go_enter Try.func23, Try.ntmps23
  go_wp2_with (first | (go_at_call 44; (with_reducible refine (word_any 71 0 0 (by kernel_rfl) _).mono ?_); rintro e_ w_ ⟨rfl, hb⟩; (first | (have HL_ := Aside0.mk (HL.out.below hb); have HB_ := Aside0.mk (below_then HB.out HB.out.size hb)) | (have HL_ := Aside0.mk ((HL.out.alloc1 _).below hb); have HB_ := Aside0.mk (below_then (below_alloc HB.out _) (below_alloc HB.out _).size hb)) | (have HL_ := Aside0.mk ((HL.out.alloc3 _ _ _).below hb); have HB_ := Aside0.mk (below_then (below_alloc (below_alloc (below_alloc HB.out _) _) _) (below_alloc (below_alloc (below_alloc HB.out _) _) _).size hb))); clear HL HB hb; have HL := HL_; have HB := HB_; clear HL_ HB_) | (go_at_call 44; (with_reducible refine (word_any 88 1 1000 (by kernel_rfl) _).mono ?_); rintro e_ w_ ⟨rfl, hb⟩; (first | (have HL_ := Aside0.mk (HL.out.below hb); have HB_ := Aside0.mk (below_then HB.out HB.out.size hb)) | (have HL_ := Aside0.mk ((HL.out.alloc1 _).below hb); have HB_ := Aside0.mk (below_then (below_alloc HB.out _) (below_alloc HB.out _).size hb)) | (have HL_ := Aside0.mk ((HL.out.alloc3 _ _ _).below hb); have HB_ := Aside0.mk (below_then (below_alloc (below_alloc (below_alloc HB.out _) _) _) (below_alloc (below_alloc (below_alloc HB.out _) _) _).size hb))); clear HL HB hb; have HL := HL_; have HB := HB_; clear HL_ HB_) | (go_at_call 44; (with_reducible refine (word_any 71 1 1000 (by kernel_rfl) _).mono ?_); rintro e_ w_ ⟨rfl, hb⟩; (first | (have HL_ := Aside0.mk (HL.out.below hb); have HB_ := Aside0.mk (below_then HB.out HB.out.size hb)) | (have HL_ := Aside0.mk ((HL.out.alloc1 _).below hb); have HB_ := Aside0.mk (below_then (below_alloc HB.out _) (below_alloc HB.out _).size hb)) | (have HL_ := Aside0.mk ((HL.out.alloc3 _ _ _).below hb); have HB_ := Aside0.mk (below_then (below_alloc (below_alloc (below_alloc HB.out _) _) _) (below_alloc (below_alloc (below_alloc HB.out _) _) _).size hb))); clear HL HB hb; have HL := HL_; have HB := HB_; clear HL_ HB_) | (go_at_call 44; (with_reducible refine (word_any 88 2 2000 (by kernel_rfl) _).mono ?_); rintro e_ w_ ⟨rfl, hb⟩; (first | (have HL_ := Aside0.mk (HL.out.below hb); have HB_ := Aside0.mk (below_then HB.out HB.out.size hb)) | (have HL_ := Aside0.mk ((HL.out.alloc1 _).below hb); have HB_ := Aside0.mk (below_then (below_alloc HB.out _) (below_alloc HB.out _).size hb)) | (have HL_ := Aside0.mk ((HL.out.alloc3 _ _ _).below hb); have HB_ := Aside0.mk (below_then (below_alloc (below_alloc (below_alloc HB.out _) _) _) (below_alloc (below_alloc (below_alloc HB.out _) _) _).size hb))); clear HL HB hb; have HL := HL_; have HB := HB_; clear HL_ HB_) | (go_at_call 44; (with_reducible refine (word_any 77 30 30000 (by kernel_rfl) _).mono ?_); rintro e_ w_ ⟨rfl, hb⟩; (first | (have HL_ := Aside0.mk (HL.out.below hb); have HB_ := Aside0.mk (below_then HB.out HB.out.size hb)) | (have HL_ := Aside0.mk ((HL.out.alloc1 _).below hb); have HB_ := Aside0.mk (below_then (below_alloc HB.out _) (below_alloc HB.out _).size hb)) | (have HL_ := Aside0.mk ((HL.out.alloc3 _ _ _).below hb); have HB_ := Aside0.mk (below_then (below_alloc (below_alloc (below_alloc HB.out _) _) _) (below_alloc (below_alloc (below_alloc HB.out _) _) _).size hb))); clear HL HB hb; have HL := HL_; have HB := HB_; clear HL_ HB_) | (go_at_call 44; (with_reducible refine (word_any 77 98 98000 (by kernel_rfl) _).mono ?_); rintro e_ w_ ⟨rfl, hb⟩; (first | (have HL_ := Aside0.mk (HL.out.below hb); have HB_ := Aside0.mk (below_then HB.out HB.out.size hb)) | (have HL_ := Aside0.mk ((HL.out.alloc1 _).below hb); have HB_ := Aside0.mk (below_then (below_alloc HB.out _) (below_alloc HB.out _).size hb)) | (have HL_ := Aside0.mk ((HL.out.alloc3 _ _ _).below hb); have HB_ := Aside0.mk (below_then (below_alloc (below_alloc (below_alloc HB.out _) _) _) (below_alloc (below_alloc (below_alloc HB.out _) _) _).size hb))); clear HL HB hb; have HL := HL_; have HB := HB_; clear HL_ HB_) | (go_at_call 44; (with_reducible refine (word_any 80 5 5000 (by kernel_rfl) _).mono ?_); rintro e_ w_ ⟨rfl, hb⟩; (first | (have HL_ := Aside0.mk (HL.out.below hb); have HB_ := Aside0.mk (below_then HB.out HB.out.size hb)) | (have HL_ := Aside0.mk ((HL.out.alloc1 _).below hb); have HB_ := Aside0.mk (below_then (below_alloc HB.out _) (below_alloc HB.out _).size hb)) | (have HL_ := Aside0.mk ((HL.out.alloc3 _ _ _).below hb); have HB_ := Aside0.mk (below_then (below_alloc (below_alloc (below_alloc HB.out _) _) _) (below_alloc (below_alloc (below_alloc HB.out _) _) _).size hb))); clear HL HB hb; have HL := HL_; have HB := HB_; clear HL_ HB_) | (go_at_call 44; (with_reducible refine (word_any 76 2 2000 (by kernel_rfl) _).mono ?_); rintro e_ w_ ⟨rfl, hb⟩; (first | (have HL_ := Aside0.mk (HL.out.below hb); have HB_ := Aside0.mk (below_then HB.out HB.out.size hb)) | (have HL_ := Aside0.mk ((HL.out.alloc1 _).below hb); have HB_ := Aside0.mk (below_then (below_alloc HB.out _) (below_alloc HB.out _).size hb)) | (have HL_ := Aside0.mk ((HL.out.alloc3 _ _ _).below hb); have HB_ := Aside0.mk (below_then (below_alloc (below_alloc (below_alloc HB.out _) _) _) (below_alloc (below_alloc (below_alloc HB.out _) _) _).size hb))); clear HL HB hb; have HL := HL_; have HB := HB_; clear HL_ HB_) | (go_at_call 44; (with_reducible refine (word_any 79 5 5000 (by kernel_rfl) _).mono ?_); rintro e_ w_ ⟨rfl, hb⟩; (first | (have HL_ := Aside0.mk (HL.out.below hb); have HB_ := Aside0.mk (below_then HB.out HB.out.size hb)) | (have HL_ := Aside0.mk ((HL.out.alloc1 _).below hb); have HB_ := Aside0.mk (below_then (below_alloc HB.out _) (below_alloc HB.out _).size hb)) | (have HL_ := Aside0.mk ((HL.out.alloc3 _ _ _).below hb); have HB_ := Aside0.mk (below_then (below_alloc (below_alloc (below_alloc HB.out _) _) _) (below_alloc (below_alloc (below_alloc HB.out _) _) _).size hb))); clear HL HB hb; have HL := HL_; have HB := HB_; clear HL_ HB_) | (go_at_call 44; (with_reducible refine (word_any 77 99 99000 (by kernel_rfl) _).mono ?_); rintro e_ w_ ⟨rfl, hb⟩; (first | (have HL_ := Aside0.mk (HL.out.below hb); have HB_ := Aside0.mk (below_then HB.out HB.out.size hb)) | (have HL_ := Aside0.mk ((HL.out.alloc1 _).below hb); have HB_ := Aside0.mk (below_then (below_alloc HB.out _) (below_alloc HB.out _).size hb)) | (have HL_ := Aside0.mk ((HL.out.alloc3 _ _ _).below hb); have HB_ := Aside0.mk (below_then (below_alloc (below_alloc (below_alloc HB.out _) _) _) (below_alloc (below_alloc (below_alloc HB.out _) _) _).size hb))); clear HL HB hb; have HL := HL_; have HB := HB_; clear HL_ HB_) | (go_at_call 44; (with_reducible refine (word_any 80 7 7000 (by kernel_rfl) _).mono ?_); rintro e_ w_ ⟨rfl, hb⟩; (first | (have HL_ := Aside0.mk (HL.out.below hb); have HB_ := Aside0.mk (below_then HB.out HB.out.size hb)) | (have HL_ := Aside0.mk ((HL.out.alloc1 _).below hb); have HB_ := Aside0.mk (below_then (below_alloc HB.out _) (below_alloc HB.out _).size hb)) | (have HL_ := Aside0.mk ((HL.out.alloc3 _ _ _).below hb); have HB_ := Aside0.mk (below_then (below_alloc (below_alloc (below_alloc HB.out _) _) _) (below_alloc (below_alloc (below_alloc HB.out _) _) _).size hb))); clear HL HB hb; have HL := HL_; have HB := HB_; clear HL_ HB_) | (go_at_call 43; (with_reducible refine (words_any _ _ _ _).mono ?_); rintro e_ w_ ⟨rfl, hb⟩; have HL_ := Aside0.mk (Blks.cons (HL.out.below (below_then (below_alloc (Below.refl _ _) _) (below_alloc (Below.refl _ _) _).size hb)) (blk_below (alloc_at _ _) hb)); have HB_ := Aside0.mk (below_then HB.out HB.out.size (below_then (below_alloc (Below.refl _ _) _) (below_alloc (Below.refl _ _) _).size hb)); clear HL HB hb; have HL := HL_; have HB := HB_; clear HL_ HB_))
  rename_i y10 y9 y8 y7 y6 y5 y4 y3 y2 y1 y0 K_ hK_
  have HL4 := Aside0.mk (HL.out.alloc1 (.cells #[.bool false, .slice (some ⟨y0.heap.size, 0, none⟩) 3 3, .string ⟨#[]⟩] 32 (0, 0)))
  have HB4 := Aside0.mk (below_alloc HB.out (.cells #[.bool false, .slice (some ⟨y0.heap.size, 0, none⟩) 3 3, .string ⟨#[]⟩] 32 (0, 0)))
  generalize w_.alloc (.cells #[.bool false, .slice (some ⟨y0.heap.size, 0, none⟩) 3 3, .string ⟨#[]⟩] 32 (0, 0)) = W4 at HL4 HB4 ⊢
  generalize y9.heap.size = a1 at HL4 ⊢
  generalize y6.heap.size = a2 at HL4 ⊢
  generalize y4.heap.size = a3 at HL4 ⊢
  generalize y0.heap.size = a4 at HL4 ⊢
  generalize y3.heap.size + 1 + 1 = b3 at HL4 ⊢
  generalize y3.heap.size + 1 = b2 at HL4 ⊢
  generalize y3.heap.size = b1 at HL4 ⊢
  generalize w_.heap.size = b4 at HL4 ⊢
  clear HL HB y10 y9 y8 y7 y6 y5 y4 y3 y2 y1 y0 w_
  have S_ : ∀ {W : World} {L : List (Nat × Obj)}, Blks W L → (∀ p ∈ [(b4, BX a4 3), (b3, BX a3 1), (b2, BX a2 2), (b1, BX a1 2)], p ∈ L) → Blks W [(b4, BX a4 3), (b3, BX a3 1), (b2, BX a2 2), (b1, BX a1 2)] := fun h hs p hp => h p (hs p hp)
  refine start_ (n := 12) (S := fun w' => Blks w' [(b4, BX a4 3), (b3, BX a3 1), (b2, BX a2 2), (b1, BX a1 2)]) (ds := []) #[false, false, false, false, false, false, false, false, false, false, false, false] (by kernel_rfl) rfl rfl (Blks.drew (S_ HL4.out (by simp [BX]))) (fun hHeld => ?_)
  have HL5 := Aside0.mk (show Blks W4.drew _ from HL4.out)
  have HB5 := Aside0.mk (below_drew1 HB4.out)
  clear HL4 HB4
  generalize W4.drew = W5 at HL5 HB5 hHeld ⊢
  refine take_ (i := 0) (N := some 31) (v := ?_) (a' := ?_) #[true, false, false, false, false, false, false, false, false, false, false, false] rfl rfl (by kernel_rfl) (fun _ _ _ h => h) (Or.inl ⟨by rfl, ?_⟩) hHeld ?_ ?_
  rotate_left
  · intro w' hS
    have hb_ := hS.at (g := b1) (o := BX a1 2) (by simp)
    have c0 : w'.cell? ⟨b1, 0, none⟩ = some (.bool false) := (blk_cell hb_ 0).trans rfl
    have c1 : w'.cell? ⟨b1, 1, none⟩ = some (.slice (some ⟨a1, 0, none⟩) 2 2) := (blk_cell hb_ 1).trans rfl
    have c2 : w'.cell? ⟨b1, 2, none⟩ = some (.string ⟨#[]⟩) := (blk_cell hb_ 2).trans rfl
    go_simp
    with_reducible rfl
  rotate_left
  · simp only [Act.put, List.setIfInBounds_toArray, List.set_cons_zero, List.set_cons_succ, i64_w, i32_w]
    rfl
  refine take_ (i := 1) (N := some 32) (v := ?_) (a' := ?_) #[true, true, false, false, false, false, false, false, false, false, false, false] rfl rfl (by kernel_rfl) (fun _ _ _ h => h) (Or.inl ⟨by rfl, ?_⟩) hHeld ?_ ?_
  rotate_left
  · intro w' hS
    have hb_ := hS.at (g := b4) (o := BX a4 3) (by simp)
    have c0 : w'.cell? ⟨b4, 0, none⟩ = some (.bool false) := (blk_cell hb_ 0).trans rfl
    have c1 : w'.cell? ⟨b4, 1, none⟩ = some (.slice (some ⟨a4, 0, none⟩) 3 3) := (blk_cell hb_ 1).trans rfl
    have c2 : w'.cell? ⟨b4, 2, none⟩ = some (.string ⟨#[]⟩) := (blk_cell hb_ 2).trans rfl
    go_simp
    with_reducible rfl
  rotate_left
  · simp only [Act.put, List.setIfInBounds_toArray, List.set_cons_zero, List.set_cons_succ, i64_w, i32_w]
    rfl
  refine take_ (i := 2) (N := some 33) (v := ?_) (a' := ?_) #[true, true, true, false, false, false, false, false, false, false, false, false] rfl rfl (by kernel_rfl) (fun _ _ _ h => h) (Or.inl ⟨by rfl, ?_⟩) hHeld ?_ ?_
  rotate_left
  · intro w' hS
    have hb_ := hS.at (g := b3) (o := BX a3 1) (by simp)
    have c0 : w'.cell? ⟨b3, 0, none⟩ = some (.bool false) := (blk_cell hb_ 0).trans rfl
    have c1 : w'.cell? ⟨b3, 1, none⟩ = some (.slice (some ⟨a3, 0, none⟩) 1 1) := (blk_cell hb_ 1).trans rfl
    have c2 : w'.cell? ⟨b3, 2, none⟩ = some (.string ⟨#[]⟩) := (blk_cell hb_ 2).trans rfl
    go_simp
    with_reducible rfl
  rotate_left
  · simp only [Act.put, List.setIfInBounds_toArray, List.set_cons_zero, List.set_cons_succ, i64_w, i32_w]
    rfl
  refine take_ (i := 6) (N := some 37) (v := ?_) (a' := ?_) #[true, true, true, false, false, false, true, false, false, false, false, false] rfl rfl (by kernel_rfl) (fun _ _ _ h => h) (Or.inl ⟨by rfl, ?_⟩) hHeld ?_ ?_
  rotate_left
  · intro w' hS
    have hb_ := hS.at (g := b2) (o := BX a2 2) (by simp)
    have c0 : w'.cell? ⟨b2, 0, none⟩ = some (.bool false) := (blk_cell hb_ 0).trans rfl
    have c1 : w'.cell? ⟨b2, 1, none⟩ = some (.slice (some ⟨a2, 0, none⟩) 2 2) := (blk_cell hb_ 1).trans rfl
    have c2 : w'.cell? ⟨b2, 2, none⟩ = some (.string ⟨#[]⟩) := (blk_cell hb_ 2).trans rfl
    go_simp
    with_reducible rfl
  rotate_left
  · simp only [Act.put, List.setIfInBounds_toArray, List.set_cons_zero, List.set_cons_succ, i64_w, i32_w]
    rfl
  refine yo 3 (some 34) (fun K hK => ?_)
  refine goes_ Try.func44 (by kernel_rfl) rfl #[.int .u8 79, .int .i64 5] (by rfl) rfl rfl (by (try simp only [List.map_toArray, List.map_cons, List.map_nil]); first | done | rfl) ?_
  refine (word_any 79 5 5000 (by kernel_rfl) _).mono ?_
  rintro e_ W6 ⟨rfl, hb_⟩
  refine ⟨_, rfl, ?_⟩
  clear hHeld
  have HL6 := Aside0.mk (HL5.out.below hb_)
  have HB6 := Aside0.mk (below_then HB5.out HB5.out.size hb_)
  clear hb_ HL5 HB5
  refine hK.out _ _ (S_ HL6.out (by simp [BX])) (fun hHeld => ?_)
  clear hK K
  refine yn 34 ?_
  refine yo 4 (some 35) (fun K hK => ?_)
  refine lit_step (v := .slice (some ⟨W6.heap.size, 0, none⟩) 1 1) (w' := W6.alloc (.cells #[.int .u8 79, .int .i64 5000] 78 (0, 0))) (by rfl) rfl (by first | (go_simp; done) | (go_simp; rfl)) ?_
  clear hHeld
  have HL7 := Aside0.mk (HL6.out.alloc1 (.cells #[.int .u8 79, .int .i64 5000] 78 (0, 0)))
  have HB7 := Aside0.mk (below_alloc HB6.out (.cells #[.int .u8 79, .int .i64 5000] 78 (0, 0)))
  generalize W6.alloc (.cells #[.int .u8 79, .int .i64 5000] 78 (0, 0)) = W7 at HL7 HB7 ⊢
  generalize W6.heap.size = a5 at HL7 ⊢
  clear HL6 HB6 W6
  refine hK.out _ _ (S_ HL7.out (by simp [BX])) (fun hHeld => ?_)
  clear hK K
  refine yn 35 ?_
  refine yo 5 (some 36) (fun K hK => ?_)
  refine goes_ Try.func43 (by kernel_rfl) rfl #[.slice (some ⟨a5, 0, none⟩) 1 1] (by rfl) rfl rfl (by (try simp only [List.map_toArray, List.map_cons, List.map_nil]); first | done | rfl) ?_
  refine (words_any _ _ _ _).mono ?_
  rintro e_ W8 ⟨rfl, hb_⟩
  refine ⟨_, rfl, ?_⟩
  clear hHeld
  have HL8 := Aside0.mk (HL7.out.below hb_)
  have HB8 := Aside0.mk (below_then HB7.out HB7.out.size hb_)
  clear hb_ HL7 HB7
  refine hK.out _ _ (S_ HL8.out (by simp [BX])) (fun hHeld => ?_)
  clear hK K
  refine yn 36 ?_
  refine yo 7 (some 38) (fun K hK => ?_)
  refine goes_ Try.func44 (by kernel_rfl) rfl #[.int .u8 77, .int .i64 99] (by rfl) rfl rfl (by (try simp only [List.map_toArray, List.map_cons, List.map_nil]); first | done | rfl) ?_
  refine (word_any 77 99 99000 (by kernel_rfl) _).mono ?_
  rintro e_ W9 ⟨rfl, hb_⟩
  refine ⟨_, rfl, ?_⟩
  clear hHeld
  have HL9 := Aside0.mk (HL8.out.below hb_)
  have HB9 := Aside0.mk (below_then HB8.out HB8.out.size hb_)
  clear hb_ HL8 HB8
  refine hK.out _ _ (S_ HL9.out (by simp [BX])) (fun hHeld => ?_)
  clear hK K
  refine yn 38 ?_
  refine yo 8 (some 39) (fun K hK => ?_)
  refine lit_step (v := .slice (some ⟨W9.heap.size, 0, none⟩) 1 1) (w' := W9.alloc (.cells #[.int .u8 77, .int .i64 99000] 78 (0, 0))) (by rfl) rfl (by first | (go_simp; done) | (go_simp; rfl)) ?_
  clear hHeld
  have HL10 := Aside0.mk (HL9.out.alloc1 (.cells #[.int .u8 77, .int .i64 99000] 78 (0, 0)))
  have HB10 := Aside0.mk (below_alloc HB9.out (.cells #[.int .u8 77, .int .i64 99000] 78 (0, 0)))
  generalize W9.alloc (.cells #[.int .u8 77, .int .i64 99000] 78 (0, 0)) = W10 at HL10 HB10 ⊢
  generalize W9.heap.size = a6 at HL10 ⊢
  clear HL9 HB9 W9
  refine hK.out _ _ (S_ HL10.out (by simp [BX])) (fun hHeld => ?_)
  clear hK K
  refine yn 39 ?_
  refine yo 9 (some 40) (fun K hK => ?_)
  refine goes_ Try.func43 (by kernel_rfl) rfl #[.slice (some ⟨a6, 0, none⟩) 1 1] (by rfl) rfl rfl (by (try simp only [List.map_toArray, List.map_cons, List.map_nil]); first | done | rfl) ?_
  refine (words_any _ _ _ _).mono ?_
  rintro e_ W11 ⟨rfl, hb_⟩
  refine ⟨_, rfl, ?_⟩
  clear hHeld
  have HL11 := Aside0.mk (HL10.out.below hb_)
  have HB11 := Aside0.mk (below_then HB10.out HB10.out.size hb_)
  clear hb_ HL10 HB10
  refine hK.out _ _ (S_ HL11.out (by simp [BX])) (fun hHeld => ?_)
  clear hK K
  refine yn 40 ?_
  refine yo 10 (some 41) (fun K hK => ?_)
  refine lit_step (v := .slice (some ⟨W11.heap.size, 0, none⟩) 6 6) (w' := W11.alloc (.cells #[.bool false, .slice (some ⟨a1, 0, none⟩) 2 2, .string ⟨#[]⟩, .bool false, .slice (some ⟨a4, 0, none⟩) 3 3, .string ⟨#[]⟩, .bool false, .slice (some ⟨a3, 0, none⟩) 1 1, .string ⟨#[]⟩, .bool false, .slice (some ⟨a5, 0, none⟩) 1 1, .string ⟨#[]⟩, .bool false, .slice (some ⟨a2, 0, none⟩) 2 2, .string ⟨#[]⟩, .bool false, .slice (some ⟨a6, 0, none⟩) 1 1, .string ⟨#[]⟩] 32 (0, 0))) (by rfl) rfl (by first | (go_simp; done) | (go_simp; rfl)) ?_
  clear hHeld
  have HL12 := Aside0.mk (HL11.out.alloc1 (.cells #[.bool false, .slice (some ⟨a1, 0, none⟩) 2 2, .string ⟨#[]⟩, .bool false, .slice (some ⟨a4, 0, none⟩) 3 3, .string ⟨#[]⟩, .bool false, .slice (some ⟨a3, 0, none⟩) 1 1, .string ⟨#[]⟩, .bool false, .slice (some ⟨a5, 0, none⟩) 1 1, .string ⟨#[]⟩, .bool false, .slice (some ⟨a2, 0, none⟩) 2 2, .string ⟨#[]⟩, .bool false, .slice (some ⟨a6, 0, none⟩) 1 1, .string ⟨#[]⟩] 32 (0, 0)))
  have HB12 := Aside0.mk (below_alloc HB11.out (.cells #[.bool false, .slice (some ⟨a1, 0, none⟩) 2 2, .string ⟨#[]⟩, .bool false, .slice (some ⟨a4, 0, none⟩) 3 3, .string ⟨#[]⟩, .bool false, .slice (some ⟨a3, 0, none⟩) 1 1, .string ⟨#[]⟩, .bool false, .slice (some ⟨a5, 0, none⟩) 1 1, .string ⟨#[]⟩, .bool false, .slice (some ⟨a2, 0, none⟩) 2 2, .string ⟨#[]⟩, .bool false, .slice (some ⟨a6, 0, none⟩) 1 1, .string ⟨#[]⟩] 32 (0, 0)))
  generalize W11.alloc (.cells #[.bool false, .slice (some ⟨a1, 0, none⟩) 2 2, .string ⟨#[]⟩, .bool false, .slice (some ⟨a4, 0, none⟩) 3 3, .string ⟨#[]⟩, .bool false, .slice (some ⟨a3, 0, none⟩) 1 1, .string ⟨#[]⟩, .bool false, .slice (some ⟨a5, 0, none⟩) 1 1, .string ⟨#[]⟩, .bool false, .slice (some ⟨a2, 0, none⟩) 2 2, .string ⟨#[]⟩, .bool false, .slice (some ⟨a6, 0, none⟩) 1 1, .string ⟨#[]⟩] 32 (0, 0)) = W12 at HL12 HB12 ⊢
  generalize W11.heap.size = al at HL12 ⊢
  clear HL11 HB11 W11
  refine hK.out _ _ (S_ HL12.out (by simp [BX])) (fun hHeld => ?_)
  clear hK K
  refine yn 41 ?_
  refine yp 11 5 ?_
  refine done_ (by kernel_rfl) ?_
  clear hHeld
  have Kal := Aside0.mk HL12.out.hd
  have Ka6 := Aside0.mk HL12.out.tl.hd
  have Ka5 := Aside0.mk HL12.out.tl.tl.hd
  have Kb4 := Aside0.mk HL12.out.tl.tl.tl.hd
  have Ka4 := Aside0.mk HL12.out.tl.tl.tl.tl.hd
  have Kb3 := Aside0.mk HL12.out.tl.tl.tl.tl.tl.hd
  have Kb2 := Aside0.mk HL12.out.tl.tl.tl.tl.tl.tl.hd
  have Kb1 := Aside0.mk HL12.out.tl.tl.tl.tl.tl.tl.tl.hd
  have Ka3 := Aside0.mk HL12.out.tl.tl.tl.tl.tl.tl.tl.tl.hd
  have Ka2 := Aside0.mk HL12.out.tl.tl.tl.tl.tl.tl.tl.tl.tl.hd
  have Ka1 := Aside0.mk HL12.out.tl.tl.tl.tl.tl.tl.tl.tl.tl.tl.hd
  have Ca1 := Aside0.mk (show 2 ≤ 2 ∧ Kd.C k78 W12 (some ⟨a1, 0, none⟩) 2 (rapid_).f1 from ⟨Nat.le_refl _, C_words [aw 71 0, aw 88 1000] Ka1.out (by decide)⟩)
  have Ca2 := Aside0.mk (show 2 ≤ 2 ∧ Kd.C k78 W12 (some ⟨a2, 0, none⟩) 2 (feed_).f1 from ⟨Nat.le_refl _, C_words [aw 71 1000, aw 88 2000] Ka2.out (by decide)⟩)
  have Ca3 := Aside0.mk (show 1 ≤ 1 ∧ Kd.C k78 W12 (some ⟨a3, 0, none⟩) 1 (end_).f1 from ⟨Nat.le_refl _, C_words [aw 77 30000] Ka3.out (by decide)⟩)
  have Ca4 := Aside0.mk (show 3 ≤ 3 ∧ Kd.C k78 W12 (some ⟨a4, 0, none⟩) 3 (call_).f1 from ⟨Nat.le_refl _, C_words [aw 77 98000, aw 80 5000, aw 76 2000] Ka4.out (by decide)⟩)
  have Ca5 := Aside0.mk (show 1 ≤ 1 ∧ Kd.C k78 W12 (some ⟨a5, 0, none⟩) 1 (o5_).f1 from ⟨Nat.le_refl _, C_words [aw 79 5000] Ka5.out (by decide)⟩)
  have Ca6 := Aside0.mk (show 1 ≤ 1 ∧ Kd.C k78 W12 (some ⟨a6, 0, none⟩) 1 (ret_).f1 from ⟨Nat.le_refl _, C_words [aw 77 99000] Ka6.out (by decide)⟩)
  have HVl := Aside0.mk (show Kd.V k32 32 W12 W12.heap.size (fun k_ => k_ < W12.heap.size) (.slice (some ⟨al, 0, none⟩) 6 6) [rapid_, call_, end_, o5_, feed_, ret_] from Kd.V_mk (Nat.le_refl 6) (Kd.C_F k32_heap (C_blocks [(rapid_, some ⟨a1, 0, none⟩, 2), (call_, some ⟨a4, 0, none⟩, 3), (end_, some ⟨a3, 0, none⟩, 1), (o5_, some ⟨a5, 0, none⟩, 1), (feed_, some ⟨a2, 0, none⟩, 2), (ret_, some ⟨a6, 0, none⟩, 1)] Kal.out (by simp) (fun x hx => by simp only [List.mem_cons, List.not_mem_nil, or_false] at hx; rcases hx with rfl | rfl | rfl | rfl | rfl | rfl; exact ⟨Ca1.out.1, Kd.C_below Ca1.out.2 (Below.refl _ _)⟩; exact ⟨Ca4.out.1, Kd.C_below Ca4.out.2 (Below.refl _ _)⟩; exact ⟨Ca3.out.1, Kd.C_below Ca3.out.2 (Below.refl _ _)⟩; exact ⟨Ca5.out.1, Kd.C_below Ca5.out.2 (Below.refl _ _)⟩; exact ⟨Ca2.out.1, Kd.C_below Ca2.out.2 (Below.refl _ _)⟩; exact ⟨Ca6.out.1, Kd.C_below Ca6.out.2 (Below.refl _ _)⟩))))
  have SPL := Aside0.mk (show Calls Try.prog 45 #[.slice (some ⟨al, 0, none⟩) 6 6] W12 _ from subprogram_Split.calls 60 (fun k_ => k_ < W12.heap.size) (some ⟨al, 0, none⟩) 6 [rapid_, call_, end_, o5_, feed_, ret_] [rapid_, call_, end_] [⟨5, [feed_]⟩] 0 W12 HVl.out split_ex)
  have HB12' := Aside0.mk (Below.refl W12.heap.size W12)
  go_wp2_with (first | (go_at_call 45; refine SPL.out.mono ?_; rintro e_ w13 ⟨v0, v1, rfl, hn0, hn1, hb⟩; obtain ⟨A0, c0, rfl⟩ := Kd.N_slice hn0; obtain ⟨g8, c8, e8, ge8, lt8, cells8, hg8⟩ := Kd.N_form hn1 (by decide); obtain rfl := e8; have HN0 := Aside0.mk hn0; have HN1 := Aside0.mk hn1; have GE8 := Aside0.mk ge8; have C8LE := Aside0.mk (Kd.N_reads' hn1).2.1; have BK8 := Aside0.mk hg8; have HB13 := Aside0.mk hb; clear hn0 hn1 ge8 lt8 hg8 hb) | (go_at_call 28; refine (show Calls Try.prog 28 #[.agg #[.slice A0 3 c0, .slice (some ⟨g8, 0, none⟩) 1 c8]] _ _ from subprogram_Expand.calls 60 A0 c0 [rapid_, call_, end_] (some ⟨g8, 0, none⟩) c8 [⟨5, [feed_]⟩] [rapid_, feed_, feed_, end_] 0 _ (Kd.C_alloc (Kd.N_reads' HN0.out).2.2 _) (Kd.N_reads' HN0.out).2.1 (Kd.C_alloc (Kd.N_reads' HN1.out).2.2 _) (Kd.N_reads' HN1.out).2.1 expand_ex).mono ?_; rintro e_ w14 ⟨v2, rfl, hs2, hb⟩; obtain ⟨A2, c2, rfl⟩ := Kd.R_slice (Kd.S_R hs2); have HS2 := Aside0.mk (Kd.R_reads' (Kd.S_R hs2)); have BK6 := Aside0.mk (blk_below (alloc_at w13 _) hb); have HB6 := Aside0.mk (below_then (below_alloc (Below.refl _ _) _) (below_alloc (Below.refl _ _) _).size hb); have HB14 := Aside0.mk (below_then HB13.out HB13.out.size HB6.out); have HN0' := Aside0.mk (Kd.N_below HN0.out HB6.out); have HN1' := Aside0.mk (Kd.N_below HN1.out HB6.out); have BK8' := Aside0.mk (blk_below BK8.out HB6.out); clear hs2 hb HN0 HN1 BK8 HB6; have xb10 : w14.cell? ⟨b1, 0, none⟩ = some (.bool false) := (blk_cell (blk_below Kb1.out HB14.out) 0).trans rfl; have xb11 : w14.cell? ⟨b1, 1, none⟩ = some (.slice (some ⟨a1, 0, none⟩) 2 2) := (blk_cell (blk_below Kb1.out HB14.out) 1).trans rfl; have xb12 : w14.cell? ⟨b1, 2, none⟩ = some (.string ⟨#[]⟩) := (blk_cell (blk_below Kb1.out HB14.out) 2).trans rfl; have xb20 : w14.cell? ⟨b2, 0, none⟩ = some (.bool false) := (blk_cell (blk_below Kb2.out HB14.out) 0).trans rfl; have xb21 : w14.cell? ⟨b2, 1, none⟩ = some (.slice (some ⟨a2, 0, none⟩) 2 2) := (blk_cell (blk_below Kb2.out HB14.out) 1).trans rfl; have xb22 : w14.cell? ⟨b2, 2, none⟩ = some (.string ⟨#[]⟩) := (blk_cell (blk_below Kb2.out HB14.out) 2).trans rfl; have xb30 : w14.cell? ⟨b3, 0, none⟩ = some (.bool false) := (blk_cell (blk_below Kb3.out HB14.out) 0).trans rfl; have xb31 : w14.cell? ⟨b3, 1, none⟩ = some (.slice (some ⟨a3, 0, none⟩) 1 1) := (blk_cell (blk_below Kb3.out HB14.out) 1).trans rfl; have xb32 : w14.cell? ⟨b3, 2, none⟩ = some (.string ⟨#[]⟩) := (blk_cell (blk_below Kb3.out HB14.out) 2).trans rfl; have hz6_0 : w14.cell? ⟨w13.heap.size, 0, none⟩ = some (.slice A0 3 c0) := (blk_cell BK6.out 0).trans rfl; have hz6_1 : w14.cell? ⟨w13.heap.size, 1, none⟩ = some (.slice (some ⟨g8, 0, none⟩) 1 c8) := (blk_cell BK6.out 1).trans rfl; have SAMEC := Aside0.mk (show Calls Try.prog 19 #[.slice A2 4 c2, .slice (some ⟨w14.heap.size, 0, none⟩) 4 4] (w14.alloc (.cells #[.bool false, .slice (some ⟨a1, 0, none⟩) 2 2, .string ⟨#[]⟩, .bool false, .slice (some ⟨a2, 0, none⟩) 2 2, .string ⟨#[]⟩, .bool false, .slice (some ⟨a2, 0, none⟩) 2 2, .string ⟨#[]⟩, .bool false, .slice (some ⟨a3, 0, none⟩) 1 1, .string ⟨#[]⟩] 32 (0, 0))) _ from swarfref41_Same.calls 60 A2 c2 [rapid_, feed_, feed_, end_] (some ⟨w14.heap.size, 0, none⟩) 4 [rapid_, feed_, feed_, end_] true _ (Kd.C_alloc HS2.out.2.2 _) HS2.out.2.1 (C_blocks [(rapid_, some ⟨a1, 0, none⟩, 2), (feed_, some ⟨a2, 0, none⟩, 2), (feed_, some ⟨a2, 0, none⟩, 2), (end_, some ⟨a3, 0, none⟩, 1)] (show (w14.alloc (.cells #[.bool false, .slice (some ⟨a1, 0, none⟩) 2 2, .string ⟨#[]⟩, .bool false, .slice (some ⟨a2, 0, none⟩) 2 2, .string ⟨#[]⟩, .bool false, .slice (some ⟨a2, 0, none⟩) 2 2, .string ⟨#[]⟩, .bool false, .slice (some ⟨a3, 0, none⟩) 1 1, .string ⟨#[]⟩] 32 (0, 0))).heap[w14.heap.size]? = some (.cells (encB [(rapid_, some ⟨a1, 0, none⟩, 2), (feed_, some ⟨a2, 0, none⟩, 2), (feed_, some ⟨a2, 0, none⟩, 2), (end_, some ⟨a3, 0, none⟩, 1)]).toArray 32 (0, 0)) from alloc_at w14 _) (by simp) (fun x hx => by simp only [List.mem_cons, List.not_mem_nil, or_false] at hx; rcases hx with rfl | rfl | rfl | rfl; exact ⟨Ca1.out.1, Kd.C_below Ca1.out.2 (below_alloc HB14.out _)⟩; exact ⟨Ca2.out.1, Kd.C_below Ca2.out.2 (below_alloc HB14.out _)⟩; exact ⟨Ca2.out.1, Kd.C_below Ca2.out.2 (below_alloc HB14.out _)⟩; exact ⟨Ca3.out.1, Kd.C_below Ca3.out.2 (below_alloc HB14.out _)⟩)) (Nat.le_refl 4) same_ex)) | (go_at_call 19; refine SAMEC.out.mono ?_; rintro e_ w15 ⟨rfl, hb⟩; have HB7 := Aside0.mk (below_then (below_alloc (Below.refl _ _) _) (below_alloc (Below.refl _ _) _).size hb); have HB15 := Aside0.mk (below_then HB14.out HB14.out.size HB7.out); have BK6' := Aside0.mk (blk_below BK6.out HB7.out); have HN0'' := Aside0.mk (Kd.N_below HN0'.out HB7.out); have HN1'' := Aside0.mk (Kd.N_below HN1'.out HB7.out); have BK8'' := Aside0.mk (blk_below BK8'.out HB7.out); clear hb BK6 HN0' HN1' BK8' HB7 SAMEC))
  generalize w13.heap.size = b6 at BK6' ⊢
  clear HL12 HB12' SPL HVl HS2
  refine start_ (n := 10) (S := fun w' => w'.cell? ⟨b6, 1, none⟩ = some (.slice (some ⟨g8, 0, none⟩) 1 c8)) (ds := []) #[false, false, false, false, false, false, false, false, false, false] (by kernel_rfl) rfl rfl ((blk_cell (show w15.drew.heap[b6]? = _ from BK6'.out) 1).trans rfl) (fun hHeld => ?_)
  have hb_ := below_drew1 (Below.refl w15.heap.size w15)
  have HB_16 := Aside0.mk (below_then HB15.out HB15.out.size hb_)
  have BKP_16 := Aside0.mk (blk_below BK6'.out hb_)
  have HN0_16 := Aside0.mk (Kd.N_below HN0''.out hb_)
  have HN1_16 := Aside0.mk (Kd.N_below HN1''.out hb_)
  have BK8_16 := Aside0.mk (blk_below BK8''.out hb_)
  clear HB15 BK6' HN0'' HN1'' BK8''
  clear hb_
  generalize w15.drew = W16 at * 
  refine yp 0 74 ?_
  refine take_ (i := 1) (N := some 75) (v := ?_) (a' := ?_) #[true, true, false, false, false, false, false, false, false, false] rfl rfl (by kernel_rfl) (fun _ _ _ h => h) (Or.inl ⟨by rfl, ?_⟩) hHeld ?_ ?_
  rotate_left
  · intro w' hS
    go_simp
    with_reducible rfl
  rotate_left
  · simp only [Act.put, List.setIfInBounds_toArray, List.set_cons_zero, List.set_cons_succ, i64_w, i32_w]
    rfl
  refine yo 2 (some 76) (fun K hK => ?_)
  refine goes_ Try.func44 (by kernel_rfl) rfl #[.int .u8 77, .int .i64 98] (by rfl) rfl rfl (by (try simp only [List.map_toArray, List.map_cons, List.map_nil]); first | done | rfl) ?_
  refine (word_any 77 98 98000 (by kernel_rfl) _).mono ?_
  rintro e_ W17 ⟨rfl, hb_⟩
  refine ⟨_, rfl, ?_⟩
  clear hHeld
  have HB_17 := Aside0.mk (below_then HB_16.out HB_16.out.size hb_)
  have BKP_17 := Aside0.mk (blk_below BKP_16.out hb_)
  have HN0_17 := Aside0.mk (Kd.N_below HN0_16.out hb_)
  have HN1_17 := Aside0.mk (Kd.N_below HN1_16.out hb_)
  have BK8_17 := Aside0.mk (blk_below BK8_16.out hb_)
  clear HB_16 BKP_16 HN0_16 HN1_16 BK8_16
  clear hb_
  refine hK.out _ _ ((blk_cell BKP_17.out 1).trans rfl) (fun hHeld => ?_)
  clear hK K
  refine yn 76 ?_
  refine yo 3 (some 77) (fun K hK => ?_)
  refine goes_ Try.func44 (by kernel_rfl) rfl #[.int .u8 80, .int .i64 5] (by rfl) rfl rfl (by (try simp only [List.map_toArray, List.map_cons, List.map_nil]); first | done | rfl) ?_
  refine (word_any 80 5 5000 (by kernel_rfl) _).mono ?_
  rintro e_ W18 ⟨rfl, hb_⟩
  refine ⟨_, rfl, ?_⟩
  clear hHeld
  have HB_18 := Aside0.mk (below_then HB_17.out HB_17.out.size hb_)
  have BKP_18 := Aside0.mk (blk_below BKP_17.out hb_)
  have HN0_18 := Aside0.mk (Kd.N_below HN0_17.out hb_)
  have HN1_18 := Aside0.mk (Kd.N_below HN1_17.out hb_)
  have BK8_18 := Aside0.mk (blk_below BK8_17.out hb_)
  clear HB_17 BKP_17 HN0_17 HN1_17 BK8_17
  clear hb_
  refine hK.out _ _ ((blk_cell BKP_18.out 1).trans rfl) (fun hHeld => ?_)
  clear hK K
  refine yn 77 ?_
  refine yo 4 (some 78) (fun K hK => ?_)
  refine lit_step (v := .slice (some ⟨W18.heap.size, 0, none⟩) 2 2) (w' := W18.alloc (.cells #[.int .u8 77, .int .i64 98000, .int .u8 80, .int .i64 5000] 78 (0, 0))) (by rfl) rfl (by first | (go_simp; done) | (go_simp; rfl)) ?_
  clear hHeld
  have hb_ := below_alloc (Below.refl W18.heap.size W18) (.cells #[.int .u8 77, .int .i64 98000, .int .u8 80, .int .i64 5000] 78 (0, 0))
  have Ka7_19 := Aside0.mk (alloc_at W18 (.cells #[.int .u8 77, .int .i64 98000, .int .u8 80, .int .i64 5000] 78 (0, 0)))
  have HB_19 := Aside0.mk (below_then HB_18.out HB_18.out.size hb_)
  have BKP_19 := Aside0.mk (blk_below BKP_18.out hb_)
  have HN0_19 := Aside0.mk (Kd.N_below HN0_18.out hb_)
  have HN1_19 := Aside0.mk (Kd.N_below HN1_18.out hb_)
  have BK8_19 := Aside0.mk (blk_below BK8_18.out hb_)
  clear HB_18 BKP_18 HN0_18 HN1_18 BK8_18
  clear hb_
  generalize W18.alloc (.cells #[.int .u8 77, .int .i64 98000, .int .u8 80, .int .i64 5000] 78 (0, 0)) = W19 at * 
  generalize W18.heap.size = a7 at * 
  refine hK.out _ _ ((blk_cell BKP_19.out 1).trans rfl) (fun hHeld => ?_)
  clear hK K
  refine yn 78 ?_
  refine yo 5 (some 79) (fun K hK => ?_)
  refine goes_ Try.func43 (by kernel_rfl) rfl #[.slice (some ⟨a7, 0, none⟩) 2 2] (by rfl) rfl rfl (by (try simp only [List.map_toArray, List.map_cons, List.map_nil]); first | done | rfl) ?_
  refine (words_any _ _ _ _).mono ?_
  rintro e_ W20 ⟨rfl, hb_⟩
  refine ⟨_, rfl, ?_⟩
  clear hHeld
  have HB_20 := Aside0.mk (below_then HB_19.out HB_19.out.size hb_)
  have BKP_20 := Aside0.mk (blk_below BKP_19.out hb_)
  have HN0_20 := Aside0.mk (Kd.N_below HN0_19.out hb_)
  have HN1_20 := Aside0.mk (Kd.N_below HN1_19.out hb_)
  have BK8_20 := Aside0.mk (blk_below BK8_19.out hb_)
  have Ka7_20 := Aside0.mk (blk_below Ka7_19.out hb_)
  clear HB_19 BKP_19 HN0_19 HN1_19 BK8_19 Ka7_19
  clear hb_
  refine hK.out _ _ ((blk_cell BKP_20.out 1).trans rfl) (fun hHeld => ?_)
  clear hK K
  refine yn 79 ?_
  refine yo 6 (some 80) (fun K hK => ?_)
  refine lit_step (v := .slice (some ⟨W20.heap.size, 0, none⟩) 1 1) (w' := W20.alloc (.cells #[.bool false, .slice (some ⟨a7, 0, none⟩) 2 2, .string ⟨#[]⟩] 32 (0, 0))) (by rfl) rfl (by first | (go_simp; done) | (go_simp; rfl)) ?_
  clear hHeld
  have hb_ := below_alloc (Below.refl W20.heap.size W20) (.cells #[.bool false, .slice (some ⟨a7, 0, none⟩) 2 2, .string ⟨#[]⟩] 32 (0, 0))
  have Ka8_21 := Aside0.mk (alloc_at W20 (.cells #[.bool false, .slice (some ⟨a7, 0, none⟩) 2 2, .string ⟨#[]⟩] 32 (0, 0)))
  have HB_21 := Aside0.mk (below_then HB_20.out HB_20.out.size hb_)
  have BKP_21 := Aside0.mk (blk_below BKP_20.out hb_)
  have HN0_21 := Aside0.mk (Kd.N_below HN0_20.out hb_)
  have HN1_21 := Aside0.mk (Kd.N_below HN1_20.out hb_)
  have BK8_21 := Aside0.mk (blk_below BK8_20.out hb_)
  have Ka7_21 := Aside0.mk (blk_below Ka7_20.out hb_)
  clear HB_20 BKP_20 HN0_20 HN1_20 BK8_20 Ka7_20
  clear hb_
  generalize W20.alloc (.cells #[.bool false, .slice (some ⟨a7, 0, none⟩) 2 2, .string ⟨#[]⟩] 32 (0, 0)) = W21 at * 
  generalize W20.heap.size = a8 at * 
  refine hK.out _ _ ((blk_cell BKP_21.out 1).trans rfl) (fun hHeld => ?_)
  clear hK K
  refine yn 80 ?_
  refine yp 7 81 ?_
  refine yp 8 82 ?_
  obtain ⟨ad8, A8, c8', e8, hx8_, hy8_, hl8, hk8⟩ := at_T81 (Kd.N_reads' HN1_21.out).2.2 0 (by decide) (by decide)
  injection e8 with e8
  subst e8
  have hx8 : W21.cell? ⟨g8, 0, none⟩ = some (.int .i64 5) := hx8_
  have hy8 : W21.cell? ⟨g8, 1, none⟩ = some (.slice A8 1 c8') := hy8_
  clear hx8_ hy8_
  have hf8 := blk_frozen BK8_21.out 1
  refine yo 9 (none) (fun K hK => ?_)
  refine store_step_ (w' := W21.setCell ⟨g8, 1, none⟩ (.slice (some ⟨a8, 0, none⟩) 1 1)) (by rfl) rfl (by first | (go_simp; done) | (go_simp; rfl)) ?_
  clear hHeld
  have HBs := Aside0.mk (show Below W12.heap.size W12 (W21.setCell ⟨g8, 1, none⟩ (.slice (some ⟨a8, 0, none⟩) 1 1)) from below_set HB_21.out GE8.out)
  have BKPs := Aside0.mk (blk_far (p := ⟨g8, 1, none⟩) BKP_21.out (fun e_ => by subst e_; have h_ := BKP_21.out.symm.trans BK8_21.out; injection h_ with h_; injection h_ with _ h2_ _; exact absurd h2_ (by decide)) (.slice (some ⟨a8, 0, none⟩) 1 1))
  have Ka7s := Aside0.mk (blk_far (p := ⟨g8, 1, none⟩) Ka7_21.out (fun e_ => by subst e_; have h_ := Ka7_21.out.symm.trans BK8_21.out; injection h_ with h_; injection h_ with _ h2_ _; exact absurd h2_ (by decide)) (.slice (some ⟨a8, 0, none⟩) 1 1))
  have Ka8s := Aside0.mk (blk_far (p := ⟨g8, 1, none⟩) Ka8_21.out (fun e_ => by subst e_; have h_ := Ka8_21.out.symm.trans BK8_21.out; injection h_ with h_; injection h_ with _ h2_ _; exact absurd h2_ (by decide)) (.slice (some ⟨a8, 0, none⟩) 1 1))
  have HN0s := Aside0.mk (Kd.N_far (p := ⟨g8, 1, none⟩) HN0_21.out (fun k_ hk_ e_ => hk_.2 (by rw [e_]; rfl)) (.slice (some ⟨a8, 0, none⟩) 1 1))
  have hs0 : (W21.setCell ⟨g8, 1, none⟩ (.slice (some ⟨a8, 0, none⟩) 1 1)).cell? ⟨g8, 0, none⟩ = some (.int .i64 5) := by
    have h1 := (blk_cell BK8_21.out 0).symm.trans hx8
    refine (blk_cell (blk_put BK8_21.out 1 _ rfl) 0).trans ?_
    simpa using h1
  have hs1 : (W21.setCell ⟨g8, 1, none⟩ (.slice (some ⟨a8, 0, none⟩) 1 1)).cell? ⟨g8, 1, none⟩ = some (.slice (some ⟨a8, 0, none⟩) 1 1) := by
    have h1 := (blk_cell BK8_21.out 1).symm.trans hy8
    refine (blk_cell (blk_put BK8_21.out 1 _ rfl) 1).trans ?_
    have h2 := (Array.getElem?_eq_some_iff.1 h1).1
    simp [h2]
  generalize W21.setCell ⟨g8, 1, none⟩ (.slice (some ⟨a8, 0, none⟩) 1 1) = W22 at *
  have CS := Aside0.mk (C_sub1 (l := [call5_]) hs0 hs1 (Nat.le_refl 1) (C_blocks [(call5_, some ⟨a7, 0, none⟩, 2)] Ka8s.out (by simp) (fun x hx => by simp only [List.mem_cons, List.not_mem_nil, or_false] at hx; rcases hx with rfl; exact ⟨Nat.le_refl 2, C_words [aw 77 98000, aw 80 5000] Ka7s.out (by decide)⟩)))
  clear hx8 hy8 hl8 hk8 hf8 hs0 hs1 HB_21 BKP_21 HN0_21 HN1_21 BK8_21 Ka7_21 Ka8_21
  refine hK.out _ _ ((blk_cell BKPs.out 1).trans rfl) (fun hHeld => ?_)
  clear hK K
  refine norm_ (a' := ?_) ?_ ?_
  rotate_left
  · show Act.put _ none _ = _
    rfl
  refine done_ (by kernel_rfl) ?_
  clear hHeld
  have hz6_0 : W22.cell? ⟨b6, 0, none⟩ = some (.slice A0 3 c0) := (blk_cell BKPs.out 0).trans rfl
  have hz6_1 : W22.cell? ⟨b6, 1, none⟩ = some (.slice (some ⟨g8, 0, none⟩) 1 c8) := (blk_cell BKPs.out 1).trans rfl
  go_wp2_with (fail)
  clear hz6_0 hz6_1
  refine (show Calls Try.prog 28 #[.agg #[.slice A0 3 c0, .slice (some ⟨g8, 0, none⟩) 1 c8]] W22 _ from subprogram_Expand.calls 60 A0 c0 [rapid_, call_, end_] (some ⟨g8, 0, none⟩) c8 [⟨5, [call5_]⟩] [] 12 W22 (Kd.N_reads' HN0s.out).2.2 (Kd.N_reads' HN0s.out).2.1 CS.out C8LE.out expand_ex2).mono ?_
  rintro e_ W23 ⟨v3, rfl, hs3, hb_⟩
  obtain ⟨A3, c3, rfl⟩ := Kd.R_slice (Kd.S_R hs3)
  have HB23 := Aside0.mk (below_then HBs.out HBs.out.size hb_)
  clear hs3 hb_ HN0s CS HBs BKPs Ka7s Ka8s
  have yb10 : W23.cell? ⟨b1, 0, none⟩ = some (.bool false) := (blk_cell (blk_below Kb1.out HB23.out) 0).trans rfl
  have yb11 : W23.cell? ⟨b1, 1, none⟩ = some (.slice (some ⟨a1, 0, none⟩) 2 2) := (blk_cell (blk_below Kb1.out HB23.out) 1).trans rfl
  have yb12 : W23.cell? ⟨b1, 2, none⟩ = some (.string ⟨#[]⟩) := (blk_cell (blk_below Kb1.out HB23.out) 2).trans rfl
  have yb20 : W23.cell? ⟨b2, 0, none⟩ = some (.bool false) := (blk_cell (blk_below Kb2.out HB23.out) 0).trans rfl
  have yb21 : W23.cell? ⟨b2, 1, none⟩ = some (.slice (some ⟨a2, 0, none⟩) 2 2) := (blk_cell (blk_below Kb2.out HB23.out) 1).trans rfl
  have yb22 : W23.cell? ⟨b2, 2, none⟩ = some (.string ⟨#[]⟩) := (blk_cell (blk_below Kb2.out HB23.out) 2).trans rfl
  have yb30 : W23.cell? ⟨b3, 0, none⟩ = some (.bool false) := (blk_cell (blk_below Kb3.out HB23.out) 0).trans rfl
  have yb31 : W23.cell? ⟨b3, 1, none⟩ = some (.slice (some ⟨a3, 0, none⟩) 1 1) := (blk_cell (blk_below Kb3.out HB23.out) 1).trans rfl
  have yb32 : W23.cell? ⟨b3, 2, none⟩ = some (.string ⟨#[]⟩) := (blk_cell (blk_below Kb3.out HB23.out) 2).trans rfl
  have yb40 : W23.cell? ⟨b4, 0, none⟩ = some (.bool false) := (blk_cell (blk_below Kb4.out HB23.out) 0).trans rfl
  have yb41 : W23.cell? ⟨b4, 1, none⟩ = some (.slice (some ⟨a4, 0, none⟩) 3 3) := (blk_cell (blk_below Kb4.out HB23.out) 1).trans rfl
  have yb42 : W23.cell? ⟨b4, 2, none⟩ = some (.string ⟨#[]⟩) := (blk_cell (blk_below Kb4.out HB23.out) 2).trans rfl
  go_wp2_with (fail)
  clear yb10 yb11 yb12 yb20 yb21 yb22 yb30 yb31 yb32 yb40 yb41 yb42
  refine (show Calls Try.prog 32 #[.slice (some ⟨W23.heap.size, 0, none⟩) 6 6, .int .i64 7, .int .i64 2] (W23.alloc (.cells #[.bool false, .slice (some ⟨a1, 0, none⟩) 2 2, .string ⟨#[]⟩, .bool false, .slice (some ⟨a2, 0, none⟩) 2 2, .string ⟨#[]⟩, .bool false, .slice (some ⟨a4, 0, none⟩) 3 3, .string ⟨#[]⟩, .bool false, .slice (some ⟨a1, 0, none⟩) 2 2, .string ⟨#[]⟩, .bool false, .slice (some ⟨a2, 0, none⟩) 2 2, .string ⟨#[]⟩, .bool false, .slice (some ⟨a3, 0, none⟩) 1 1, .string ⟨#[]⟩] 32 (0, 0))) _ from subprogram_Fold.calls 60 (fun k_ => k_ < (W23.alloc (.cells #[.bool false, .slice (some ⟨a1, 0, none⟩) 2 2, .string ⟨#[]⟩, .bool false, .slice (some ⟨a2, 0, none⟩) 2 2, .string ⟨#[]⟩, .bool false, .slice (some ⟨a4, 0, none⟩) 3 3, .string ⟨#[]⟩, .bool false, .slice (some ⟨a1, 0, none⟩) 2 2, .string ⟨#[]⟩, .bool false, .slice (some ⟨a2, 0, none⟩) 2 2, .string ⟨#[]⟩, .bool false, .slice (some ⟨a3, 0, none⟩) 1 1, .string ⟨#[]⟩] 32 (0, 0))).heap.size) (some ⟨W23.heap.size, 0, none⟩) 6 [rapid_, feed_, call_, rapid_, feed_, end_] 7 2 [again_, call_, again_, end_] [⟨7, [rapid_, feed_]⟩] 0 (W23.alloc (.cells #[.bool false, .slice (some ⟨a1, 0, none⟩) 2 2, .string ⟨#[]⟩, .bool false, .slice (some ⟨a2, 0, none⟩) 2 2, .string ⟨#[]⟩, .bool false, .slice (some ⟨a4, 0, none⟩) 3 3, .string ⟨#[]⟩, .bool false, .slice (some ⟨a1, 0, none⟩) 2 2, .string ⟨#[]⟩, .bool false, .slice (some ⟨a2, 0, none⟩) 2 2, .string ⟨#[]⟩, .bool false, .slice (some ⟨a3, 0, none⟩) 1 1, .string ⟨#[]⟩] 32 (0, 0))) (Kd.V_mk (Nat.le_refl 6) (Kd.C_F k32_heap (C_blocks [(rapid_, some ⟨a1, 0, none⟩, 2), (feed_, some ⟨a2, 0, none⟩, 2), (call_, some ⟨a4, 0, none⟩, 3), (rapid_, some ⟨a1, 0, none⟩, 2), (feed_, some ⟨a2, 0, none⟩, 2), (end_, some ⟨a3, 0, none⟩, 1)] (show (W23.alloc (.cells #[.bool false, .slice (some ⟨a1, 0, none⟩) 2 2, .string ⟨#[]⟩, .bool false, .slice (some ⟨a2, 0, none⟩) 2 2, .string ⟨#[]⟩, .bool false, .slice (some ⟨a4, 0, none⟩) 3 3, .string ⟨#[]⟩, .bool false, .slice (some ⟨a1, 0, none⟩) 2 2, .string ⟨#[]⟩, .bool false, .slice (some ⟨a2, 0, none⟩) 2 2, .string ⟨#[]⟩, .bool false, .slice (some ⟨a3, 0, none⟩) 1 1, .string ⟨#[]⟩] 32 (0, 0))).heap[W23.heap.size]? = some (.cells (encB [(rapid_, some ⟨a1, 0, none⟩, 2), (feed_, some ⟨a2, 0, none⟩, 2), (call_, some ⟨a4, 0, none⟩, 3), (rapid_, some ⟨a1, 0, none⟩, 2), (feed_, some ⟨a2, 0, none⟩, 2), (end_, some ⟨a3, 0, none⟩, 1)]).toArray 32 (0, 0)) from alloc_at W23 _) (by simp) (fun x hx => by simp only [List.mem_cons, List.not_mem_nil, or_false] at hx; rcases hx with rfl | rfl | rfl | rfl | rfl | rfl; exact ⟨Ca1.out.1, Kd.C_below Ca1.out.2 (below_alloc HB23.out _)⟩; exact ⟨Ca2.out.1, Kd.C_below Ca2.out.2 (below_alloc HB23.out _)⟩; exact ⟨Ca4.out.1, Kd.C_below Ca4.out.2 (below_alloc HB23.out _)⟩; exact ⟨Ca1.out.1, Kd.C_below Ca1.out.2 (below_alloc HB23.out _)⟩; exact ⟨Ca2.out.1, Kd.C_below Ca2.out.2 (below_alloc HB23.out _)⟩; exact ⟨Ca3.out.1, Kd.C_below Ca3.out.2 (below_alloc HB23.out _)⟩)))) fold_ex).mono ?_
  rintro e_ W24 ⟨v4, v5, rfl, hn4, hn5, hb_⟩
  obtain ⟨A4, c4, rfl⟩ := Kd.N_slice hn4
  obtain ⟨g5, c5, e5_, _, _, _, _⟩ := Kd.N_form hn5 (by decide)
  obtain rfl := e5_
  have HN4 := Aside0.mk hn4
  have HN5 := Aside0.mk hn5
  have HB24 := Aside0.mk (below_then (below_alloc HB23.out _) (below_alloc HB23.out _).size hb_)
  clear hn4 hn5 hb_ HB23
  go_wp2_with (fail)
  have HBx := HB24
  clear HB24
  refine (word_any 77 98 98000 (by kernel_rfl) _).mono ?_
  rintro e_ W25 ⟨rfl, hb_⟩
  have B12 := Aside0.mk (blk_below (alloc_at W24 _) hb_)
  have hb2_ := below_then (below_alloc (Below.refl W24.heap.size W24) _) (below_alloc (Below.refl W24.heap.size W24) _).size hb_
  have HBx' := Aside0.mk (below_then HBx.out HBx.out.size hb2_)
  have HN4' := Aside0.mk (Kd.N_below HN4.out hb2_)
  have HN5' := Aside0.mk (Kd.N_below HN5.out hb2_)
  clear HBx HN4 HN5
  have HBx := HBx'
  have HN4 := HN4'
  have HN5 := HN5'
  clear HBx' HN4' HN5'
  clear hb_ hb2_
  generalize W24.heap.size = b12 at *
  go_wp2_with (fail)
  refine (word_any 80 7 7000 (by kernel_rfl) _).mono ?_
  rintro e_ W26 ⟨rfl, hb_⟩
  have hb2_ := hb_
  have HBx' := Aside0.mk (below_then HBx.out HBx.out.size hb2_)
  have HN4' := Aside0.mk (Kd.N_below HN4.out hb2_)
  have HN5' := Aside0.mk (Kd.N_below HN5.out hb2_)
  have B12' := Aside0.mk (blk_below B12.out hb2_)
  clear HBx HN4 HN5 B12
  have HBx := HBx'
  have HN4 := HN4'
  have HN5 := HN5'
  have B12 := B12'
  clear HBx' HN4' HN5' B12'
  clear hb_ hb2_
  go_wp2_with (fail)
  refine (words_any _ _ _ _).mono ?_
  rintro e_ W27 ⟨rfl, hb_⟩
  have B9 := Aside0.mk (blk_below (alloc_at W26 _) hb_)
  have hb2_ := below_then (below_alloc (Below.refl W26.heap.size W26) _) (below_alloc (Below.refl W26.heap.size W26) _).size hb_
  have HBx' := Aside0.mk (below_then HBx.out HBx.out.size hb2_)
  have HN4' := Aside0.mk (Kd.N_below HN4.out hb2_)
  have HN5' := Aside0.mk (Kd.N_below HN5.out hb2_)
  have B12' := Aside0.mk (blk_below B12.out hb2_)
  clear HBx HN4 HN5 B12
  have HBx := HBx'
  have HN4 := HN4'
  have HN5 := HN5'
  have B12 := B12'
  clear HBx' HN4' HN5' B12'
  clear hb_ hb2_
  generalize W26.heap.size = a9 at *
  have hw0 : (W27.alloc (.cells #[.bool false, .slice (some ⟨a9, 0, none⟩) 2 2, .string ⟨#[]⟩] 32 (0, 0))).cell? ⟨b12, 0, none⟩ = some (.slice A4 4 c4) := (blk_cell (blk_alloc B12.out _) 0).trans rfl
  have hw1 : (W27.alloc (.cells #[.bool false, .slice (some ⟨a9, 0, none⟩) 2 2, .string ⟨#[]⟩] 32 (0, 0))).cell? ⟨b12, 1, none⟩ = some (.slice (some ⟨g5, 0, none⟩) 1 c5) := (blk_cell (blk_alloc B12.out _) 1).trans rfl
  obtain ⟨ad5, A9, c9, e5, hx5_, hy5_, hl5, hk5⟩ := at_T81 (Kd.C_alloc (Kd.N_reads' HN5.out).2.2 (.cells #[.bool false, .slice (some ⟨a9, 0, none⟩) 2 2, .string ⟨#[]⟩] 32 (0, 0))) 0 (by decide) (by decide)
  injection e5 with e5
  subst e5
  have hx5 : (W27.alloc (.cells #[.bool false, .slice (some ⟨a9, 0, none⟩) 2 2, .string ⟨#[]⟩] 32 (0, 0))).cell? ⟨g5, 0, none⟩ = some (.int .i64 7) := hx5_
  clear hx5_ hy5_ hl5 hk5
  have zb30 : (W27.alloc (.cells #[.bool false, .slice (some ⟨a9, 0, none⟩) 2 2, .string ⟨#[]⟩] 32 (0, 0))).cell? ⟨b3, 0, none⟩ = some (.bool false) := (blk_cell (blk_below Kb3.out (below_alloc HBx.out _)) 0).trans rfl
  have zb31 : (W27.alloc (.cells #[.bool false, .slice (some ⟨a9, 0, none⟩) 2 2, .string ⟨#[]⟩] 32 (0, 0))).cell? ⟨b3, 1, none⟩ = some (.slice (some ⟨a3, 0, none⟩) 1 1) := (blk_cell (blk_below Kb3.out (below_alloc HBx.out _)) 1).trans rfl
  have zb32 : (W27.alloc (.cells #[.bool false, .slice (some ⟨a9, 0, none⟩) 2 2, .string ⟨#[]⟩] 32 (0, 0))).cell? ⟨b3, 2, none⟩ = some (.string ⟨#[]⟩) := (blk_cell (blk_below Kb3.out (below_alloc HBx.out _)) 2).trans rfl
  have zb40 : (W27.alloc (.cells #[.bool false, .slice (some ⟨a9, 0, none⟩) 2 2, .string ⟨#[]⟩] 32 (0, 0))).cell? ⟨b4, 0, none⟩ = some (.bool false) := (blk_cell (blk_below Kb4.out (below_alloc HBx.out _)) 0).trans rfl
  have zb41 : (W27.alloc (.cells #[.bool false, .slice (some ⟨a9, 0, none⟩) 2 2, .string ⟨#[]⟩] 32 (0, 0))).cell? ⟨b4, 1, none⟩ = some (.slice (some ⟨a4, 0, none⟩) 3 3) := (blk_cell (blk_below Kb4.out (below_alloc HBx.out _)) 1).trans rfl
  have zb42 : (W27.alloc (.cells #[.bool false, .slice (some ⟨a9, 0, none⟩) 2 2, .string ⟨#[]⟩] 32 (0, 0))).cell? ⟨b4, 2, none⟩ = some (.string ⟨#[]⟩) := (blk_cell (blk_below Kb4.out (below_alloc HBx.out _)) 2).trans rfl
  go_wp2_with (fail)
  clear hw0 hw1 hx5 zb30 zb31 zb32 zb40 zb41 zb42
  have Ca9 := Aside0.mk (show 2 ≤ 2 ∧ Kd.C k78 W27 (some ⟨a9, 0, none⟩) 2 again_.f1 from ⟨Nat.le_refl _, C_words [aw 77 98000, aw 80 7000] B9.out (by decide)⟩)
  refine (show Calls Try.prog 19 #[.slice A4 4 c4, .slice (some ⟨W27.heap.size + 1, 0, none⟩) 4 4] ((W27.alloc (.cells #[.bool false, .slice (some ⟨a9, 0, none⟩) 2 2, .string ⟨#[]⟩] 32 (0, 0))).alloc (.cells #[.bool false, .slice (some ⟨a9, 0, none⟩) 2 2, .string ⟨#[]⟩, .bool false, .slice (some ⟨a4, 0, none⟩) 3 3, .string ⟨#[]⟩, .bool false, .slice (some ⟨a9, 0, none⟩) 2 2, .string ⟨#[]⟩, .bool false, .slice (some ⟨a3, 0, none⟩) 1 1, .string ⟨#[]⟩] 32 (0, 0))) _ from swarfref41_Same.calls 60 A4 c4 [again_, call_, again_, end_] (some ⟨W27.heap.size + 1, 0, none⟩) 4 [again_, call_, again_, end_] true _ (Kd.C_alloc (Kd.C_alloc (Kd.N_reads' HN4.out).2.2 _) _) (Kd.N_reads' HN4.out).2.1 (C_blocks [(again_, some ⟨a9, 0, none⟩, 2), (call_, some ⟨a4, 0, none⟩, 3), (again_, some ⟨a9, 0, none⟩, 2), (end_, some ⟨a3, 0, none⟩, 1)] (show ((W27.alloc (.cells #[.bool false, .slice (some ⟨a9, 0, none⟩) 2 2, .string ⟨#[]⟩] 32 (0, 0))).alloc (.cells #[.bool false, .slice (some ⟨a9, 0, none⟩) 2 2, .string ⟨#[]⟩, .bool false, .slice (some ⟨a4, 0, none⟩) 3 3, .string ⟨#[]⟩, .bool false, .slice (some ⟨a9, 0, none⟩) 2 2, .string ⟨#[]⟩, .bool false, .slice (some ⟨a3, 0, none⟩) 1 1, .string ⟨#[]⟩] 32 (0, 0))).heap[W27.heap.size + 1]? = some (.cells (encB [(again_, some ⟨a9, 0, none⟩, 2), (call_, some ⟨a4, 0, none⟩, 3), (again_, some ⟨a9, 0, none⟩, 2), (end_, some ⟨a3, 0, none⟩, 1)]).toArray 32 (0, 0)) from by rw [← size_alloc W27 (.cells #[.bool false, .slice (some ⟨a9, 0, none⟩) 2 2, .string ⟨#[]⟩] 32 (0, 0))]; exact alloc_at _ _) (by simp) (fun x hx => by simp only [List.mem_cons, List.not_mem_nil, or_false] at hx; rcases hx with rfl | rfl | rfl | rfl; exact ⟨Ca9.out.1, Kd.C_below Ca9.out.2 (below_alloc (below_alloc (Below.refl _ _) _) _)⟩; exact ⟨Ca4.out.1, Kd.C_below Ca4.out.2 (below_alloc (below_alloc HBx.out _) _)⟩; exact ⟨Ca9.out.1, Kd.C_below Ca9.out.2 (below_alloc (below_alloc (Below.refl _ _) _) _)⟩; exact ⟨Ca3.out.1, Kd.C_below Ca3.out.2 (below_alloc (below_alloc HBx.out _) _)⟩)) (Nat.le_refl 4) same_ex2).mono ?_
  rintro e_ W29 ⟨rfl, hb_⟩
  have hb2_ := below_then (below_alloc (below_alloc (Below.refl W27.heap.size W27) _) _) (below_alloc (below_alloc (Below.refl W27.heap.size W27) _) _).size hb_
  have HBy := Aside0.mk (below_then HBx.out HBx.out.size hb2_)
  have HN5' := Aside0.mk (Kd.N_below HN5.out hb2_)
  have B12' := Aside0.mk (blk_below B12.out hb2_)
  clear hb_ hb2_ HBx HN5 B12 HN4 B9 Ca9
  have HN5 := HN5'
  have B12 := B12'
  clear HN5' B12'
  have hw0 : W29.cell? ⟨b12, 0, none⟩ = some (.slice A4 4 c4) := (blk_cell B12.out 0).trans rfl
  have hw1 : W29.cell? ⟨b12, 1, none⟩ = some (.slice (some ⟨g5, 0, none⟩) 1 c5) := (blk_cell B12.out 1).trans rfl
  obtain ⟨ad5, A9, c9, e5, hx5_, hy5_, hl5, hk5⟩ := at_T81 (Kd.N_reads' HN5.out).2.2 0 (by decide) (by decide)
  injection e5 with e5
  subst e5
  have hx5 : W29.cell? ⟨g5, 0, none⟩ = some (.int .i64 7) := hx5_
  clear hx5_ hy5_ hl5 hk5
  go_wp2_with (fail)
  go_ret
  exact ⟨rfl, below_then HB12.out HB12.out.size HBy.out⟩
def swarflaw43_awake.f : Option (Bool) := some true
theorem swarflaw43_awake.calls (r : Bool) (w : World) (h : swarflaw43_awake.f = some r) : Calls Try.prog 23 #[] w fun e w' => e = .returned (.bool r) ∧ Below w.heap.size w w' := by
  obtain rfl := Option.some.inj h
  exact awake43_calls w
end Go.Proofs.Ytehkhbnhmehobaa.P
namespace Go.Proofs.Ytehkhbnhmehobaa.P
open Go.RowKit Go.Proofs.YtehkhbnhmehobaaW.PrintWords Go.Proofs.YtehkhbnhmehobaaW.PrintLast Go.Proofs.YtehkhbnhmehobaaW.PrintMore
attribute [local go_sem] max2_int min2_int max_two min_two max_three min_three max_four min_four
set_option linter.unusedVariables false
set_option linter.unusedSimpArgs false
def swarflaw43_called.f (k : Nat) (a0_0 : Bool) (l0_1 : List (S78)) (a0_2 : ByteArray) : Option (Bool) := (swarfref43_Call.f k a0_0 l0_1 a0_2).bind fun bt761 => (some bt761.2.2.1)
set_option maxHeartbeats 8000000 in
set_option maxRecDepth 100000 in
theorem swarflaw43_called.calls (k : Nat) (a0_0 : Bool) (A0_1 : Option Addr) (c0_1 : Nat) (l0_1 : List (S78)) (a0_2 : ByteArray) (r : Bool) (w : World) (hr0_1 : Kd.C k78 w A0_1 l0_1.length l0_1) (hc0_1 : l0_1.length ≤ c0_1) (h : swarflaw43_called.f k a0_0 l0_1 a0_2 = some r) :
  Calls Try.prog 39 #[.agg #[.bool a0_0, .slice A0_1 l0_1.length c0_1, .string a0_2]] w fun e w' => e = .returned (.bool r) ∧ Below w.heap.size w w' := by
 have hu32 := Try.underlying32
 have HR0_1 := Aside0.mk hr0_1
 have HC0_1 := Aside0.mk hc0_1
 clear hr0_1 hc0_1
 have HB := Aside0.mk (Below.refl w.heap.size w)
 have H : ((swarfref43_Call.f k a0_0 l0_1 a0_2).bind fun bt761 => (some bt761.2.2.1)) = some r := h
 clear h
 replace H := Option.bind_eq_some_iff.mp H
 obtain ⟨⟨t761, t762, t763, t764⟩, A20, H⟩ := H
 have A2 := Aside0.mk A20
 clear A20
 obtain rfl := Option.some.inj H
 go_enter Try.func39, Try.ntmps39
 go_wp2_with (first | ((with_reducible refine gate_dst (N := 1) rfl ?_); refine yX 1 #[.bool a0_0, .slice A0_1 l0_1.length c0_1, .string a0_2] 32 ?_; intro gb760 hg w3 hbox hb; have BK760 := Aside0.mk (hbox); have GE760 := Aside0.mk ((yG hg : w.heap.size ≤ gb760)); replace HB := Aside0.mk (below_step yB hb); clear hb hbox hg; have hcz4_0 := yZ0 BK760.out; have hcz4_1 := yZ1 BK760.out; have hcz4_2 := yZ2 BK760.out; have hfz4_0 := blk_frozen BK760.out 0; have hfz4_1 := blk_frozen BK760.out 1; have hfz4_2 := blk_frozen BK760.out 2) | ((with_reducible refine gate_callee (f := 26) rfl ?_); refine goesL_ (some 9) rfl rfl Try.func26 (by kernel_rfl) rfl #[.agg #[.bool a0_0, .slice A0_1 l0_1.length c0_1, .string a0_2]] rfl yQ ?_; (with_reducible refine (swarfref43_Call.calls k a0_0 _ _ l0_1 a0_2 t761 t762 t763 t764 _ ?side1 ?side2 A2.out).mono ?_); (case side1 => exact yC HR0_1.out); (case side2 => exact HC0_1.out); rintro e w5 ⟨rfl, hb⟩; refine ⟨_, rfl, ?_⟩; replace BK760 := Aside0.mk (blk_below (g := gb760) yK hb); replace HB := Aside0.mk (below_step yB hb); (try clear hb)))
 go_ret
 exact ⟨yE, yB⟩
end Go.Proofs.Ytehkhbnhmehobaa.P
namespace Go.Proofs.Ytehkhbnhmehobaa.P
open Go.RowKit Go.Proofs.YtehkhbnhmehobaaW.PrintWords Go.Proofs.YtehkhbnhmehobaaW.PrintLast Go.Proofs.YtehkhbnhmehobaaW.PrintMore
set_option linter.unusedVariables false
def ContainsFunc_called.f (k : Nat) (l0 : List S32) : Option Bool := (idxF (fun x => swarflaw43_called.f k x.f0 x.f1 x.f2) l0 0).map (fun i => decide (i ≥ 0))
theorem ContainsFunc_called.calls (k : Nat) (A0 : Option Addr) (c0 : Nat) (l0 : List S32) (r : Bool) (w : World) (hr0 : Kd.C k32 w A0 l0.length l0) (hc0 : l0.length ≤ c0) (h : ContainsFunc_called.f k l0 = some r) :
    Calls Try.prog 38 #[.slice A0 l0.length c0, .func (.func 39) #[] #[]] w fun e w' => e = .returned (.bool r) ∧ Below w.heap.size w w' :=
  ContainsFunc_any 39 _ Try.func39 (by kernel_rfl) rfl #[] (fun x => swarflaw43_called.f k x.f0 x.f1 x.f2) w ⟨fun x A1 c1 b W _ hk hc hb => swarflaw43_called.calls k x.f0 A1 c1 x.f1 x.f2 b W hk hc hb⟩ A0 c0 l0 r hr0 hc0 h
end Go.Proofs.Ytehkhbnhmehobaa.P
namespace Go.Proofs.Ytehkhbnhmehobaa.P
open Go.RowKit Go.Proofs.YtehkhbnhmehobaaW.PrintWords Go.Proofs.YtehkhbnhmehobaaW.PrintLast Go.Proofs.YtehkhbnhmehobaaW.PrintMore
attribute [local go_sem] max2_int min2_int max_two min_two max_three min_three max_four min_four
set_option linter.unusedVariables false
set_option linter.unusedSimpArgs false
mutual
def swarflaw43_SubprogramFolded.j0 : Nat → List (S32) → Int → Int → Bool → Option (Bool)
 | 0, _, _, _, _ => none
 | k + 1, x0, x1, x2, x20 => if x20 = true then ((swarflaw43_awake.f).bind fun t767 => (some t767)) else ((swarfref43_Check.f k x0 ([] : List (S58))).bind fun bt769 => (if bt769.2 = 0 then (if bt769.1 = (x0.length : Int) then ((ContainsFunc_called.f k x0).bind fun t771 => (swarflaw43_SubprogramFolded.j1 k x0 x1 x2 t771)) else (swarflaw43_SubprogramFolded.j1 k x0 x1 x2 true)) else (swarflaw43_SubprogramFolded.j1 k x0 x1 x2 true)))
def swarflaw43_SubprogramFolded.j1 : Nat → List (S32) → Int → Int → Bool → Option (Bool)
 | 0, _, _, _, _ => none
 | k + 1, x0, x1, x2, x40 => if x40 = true then (some true) else ((Clone_Block.f x0).bind fun t772 => ((subprogram_Fold.f k t772 (wrap64 (1 + (wrap64 (x1)))) (wrap64 (1 + (wrap64 (Int.tmod x2 8))))).bind fun bt775 => ((subprogram_Expand.f k bt775.1 bt775.2.1).bind fun bt783 => (if bt775.2.2 = 0 then (if bt783.2 = 0 then ((swarfref41_Same.f k bt783.1 x0).bind fun t787 => (if t787 = true then (some (decide ((bt775.1.length : Int) ≤ (x0.length : Int)))) else (none))) else (none)) else (none)))))
end
def swarflaw43_SubprogramFolded.f (k : Nat) (l0 : List (S32)) (a1 : Int) (a2 : Int) : Option (Bool) := (swarflaw43_awake.f).bind fun t765 => (if t765 = true then ((swarflaw43_valid.f k l0 40).bind fun t766 => (swarflaw43_SubprogramFolded.j0 k l0 a1 a2 (!t766))) else (swarflaw43_SubprogramFolded.j0 k l0 a1 a2 true))
set_option maxHeartbeats 8000000 in
set_option maxRecDepth 100000 in
theorem swarflaw43_SubprogramFolded.calls (k : Nat) (A0 : Option Addr) (c0 : Nat) (l0 : List (S32)) (a1 : Int) (a2 : Int) (r : Bool) (w : World) (hr0 : Kd.C k32 w A0 l0.length l0) (hc0 : l0.length ≤ c0) (h : swarflaw43_SubprogramFolded.f k l0 a1 a2 = some r) :
  Calls Try.prog 8 #[.slice A0 l0.length c0, .int .u8 a1, .int .u8 a2] w fun e w' => e = .returned (.bool r) ∧ Below w.heap.size w w' := by
 have hu48 := Try.underlying48
 have hu54 := Try.underlying54
 have HR0 := Aside0.mk hr0
 have HC0 := Aside0.mk hc0
 clear hr0 hc0
 have HB := Aside0.mk (Below.refl w.heap.size w)
 have H : ((swarflaw43_awake.f).bind fun t765 => (if t765 = true then ((swarflaw43_valid.f k l0 40).bind fun t766 => (swarflaw43_SubprogramFolded.j0 k l0 a1 a2 (!t766))) else (swarflaw43_SubprogramFolded.j0 k l0 a1 a2 true))) = some r := h
 clear h
 have HC4 := Aside0.mk H
 clear H
 go_enter Try.func8, Try.ntmps8
 go_upto_region 1 with (fail)
 go_cut [20] (fun v20 wc => ∃ (kq : Nat) (x20_3 : Bool), v20 = .bool x20_3 ∧ Aside0 (swarflaw43_SubprogramFolded.j0 kq l0 a1 a2 x20_3 = some r) ∧ Aside0 (kq ≤ k) ∧ Aside0 (Below w.heap.size w wc))
 case first =>
  have H := HC4.out
  clear HC4
  replace H := Option.bind_eq_some_iff.mp H
  obtain ⟨t765, A50, H⟩ := H
  have A5 := Aside0.mk A50
  clear A50
  by_cases c6 : t765 = true
  ·subst c6
   rw [if_pos rfl] at H
   replace H := Option.bind_eq_some_iff.mp H
   obtain ⟨t766, A70, H⟩ := H
   have A7 := Aside0.mk A70
   clear A70
   have H' := Aside0.mk H
   clear H
   go_wp2_with (first | ((with_reducible refine gate_callee (f := 23) rfl ?_); refine goesL_ (some 14) rfl rfl Try.func23 (by kernel_rfl) rfl #[] rfl yQ ?_; (with_reducible refine (swarflaw43_awake.calls  true _ A5.out).mono ?_); rintro e w8 ⟨rfl, hb⟩; refine ⟨_, rfl, ?_⟩; replace HB := Aside0.mk (below_step yB hb); (try clear hb)) | (go_at_call 24; (with_reducible refine (swarflaw43_valid.calls k _ _ l0 40 t766 _ ?side1 ?side2 A7.out).mono ?_); (case side1 => exact yC HR0.out); (case side2 => exact HC0.out); rintro e w9 ⟨rfl, hb⟩; replace HB := Aside0.mk (below_step yB hb); (try clear hb)))
   go_meet
   case rel => exact ⟨_, (!t766), yS, H', ⟨by first | omega | exact Nat.le_refl _⟩, ⟨yB⟩⟩
  replace c6 := Bool.eq_false_iff.mpr c6
  subst c6
  replace H : (swarflaw43_SubprogramFolded.j0 k l0 a1 a2 true) = some r := by rw [if_neg (show ¬ (false = true) by decide)] at H; exact H
  have H' := Aside0.mk H
  clear H
  go_wp2_with (first | ((with_reducible refine gate_callee (f := 23) rfl ?_); refine goesL_ (some 14) rfl rfl Try.func23 (by kernel_rfl) rfl #[] rfl yQ ?_; (with_reducible refine (swarflaw43_awake.calls  false _ A5.out).mono ?_); rintro e w10 ⟨rfl, hb⟩; refine ⟨_, rfl, ?_⟩; replace HB := Aside0.mk (below_step yB hb); (try clear hb)))
  go_meet
  case rel => exact ⟨_, (true), yS, H', ⟨by first | omega | exact Nat.le_refl _⟩, ⟨yB⟩⟩
 case rest =>
  clear HC4
  try clear c2
  try clear p2
  try clear c6
  try clear c8
  obtain ⟨kq, x20_3, rfl, HA, HJ3, HB⟩ := hcut
  cases kq with
  | zero => exact absurd HA.out (by simp [swarflaw43_SubprogramFolded.j0])
  | succ kj3 =>
   have H := HA.out
   clear HA
   simp only [swarflaw43_SubprogramFolded.j0] at H
   by_cases c11 : x20_3 = true
   ·subst c11
    rw [if_pos rfl] at H
    replace H := Option.bind_eq_some_iff.mp H
    obtain ⟨t767, A120, H⟩ := H
    have A12 := Aside0.mk A120
    clear A120
    obtain rfl := Option.some.inj H
    go_wp2_with (first | ((with_reducible refine gate_callee (f := 23) rfl ?_); refine goesL_ (some 21) rfl rfl Try.func23 (by kernel_rfl) rfl #[] rfl yQ ?_; (with_reducible refine (swarflaw43_awake.calls  t767 _ A12.out).mono ?_); rintro e w13 ⟨rfl, hb⟩; refine ⟨_, rfl, ?_⟩; replace HB := Aside0.mk (below_step yB hb); (try clear hb)))
    go_ret
    exact ⟨yE, yB⟩
   replace c11 := Bool.eq_false_iff.mpr c11
   subst c11
   replace H : ((swarfref43_Check.f kj3 l0 ([] : List (S58))).bind fun bt769 => (if bt769.2 = 0 then (if bt769.1 = (l0.length : Int) then ((ContainsFunc_called.f kj3 l0).bind fun t771 => (swarflaw43_SubprogramFolded.j1 kj3 l0 a1 a2 t771)) else (swarflaw43_SubprogramFolded.j1 kj3 l0 a1 a2 true)) else (swarflaw43_SubprogramFolded.j1 kj3 l0 a1 a2 true))) = some r := by rw [if_neg (show ¬ (false = true) by decide)] at H; exact H
   replace H := Option.bind_eq_some_iff.mp H
   obtain ⟨⟨t769, t770⟩, A140, H⟩ := H
   have A14 := Aside0.mk A140
   clear A140
   have HC15 := Aside0.mk H
   clear H
   go_upto_region 5 with (first | ((with_reducible refine gate_dst (N := 7) rfl ?_); (try (refine gate_guard (by rfl) ?_; dsimp only)); refine yX 7 #[.slice none 0 0, .slice none 0 0] 48 ?_; intro gb768 hg w16 hbox hb; have BK768 := Aside0.mk (hbox); have GW768 := Aside0.mk ((yG hg : w.heap.size ≤ gb768)); have GE768 := Aside0.mk ((yG hg : w.heap.size ≤ gb768)); replace HB := Aside0.mk (below_step yB hb); clear hb hbox hg; have hcz17_0 := yZ0 BK768.out; have hcz17_1 := yZ1 BK768.out; have hfz17_0 := blk_frozen BK768.out 0; have hfz17_1 := blk_frozen BK768.out 1) | ((with_reducible refine gate_callee (f := 37) rfl ?_); refine goesL_ (some 26) rfl rfl Try.func37 (by kernel_rfl) rfl #[.agg #[.slice A0 l0.length c0, .slice none 0 0]] rfl yQ ?_; (refine (swarfref43_Check.calls kj3 _ _ l0 _ _ ([] : List (S58)) t769 t770 _ ?side1 ?side2 ?side3 ?side4 A14.out).mono ?_); (case side1 => exact Kd.C_below HR0.out yB); (case side2 => exact HC0.out); (case side3 => exact Kd.C_nil _ _); (case side4 => exact Nat.le_refl _); rintro e w18 ⟨rfl, hb⟩; refine ⟨_, rfl, ?_⟩; replace BK768 := Aside0.mk (blk_below (g := gb768) (o := .cells #[.slice A0 l0.length c0, .slice none 0 0] 48 (0, 0)) (by refine yH ?_; refine blk_put (cs := #[.slice A0 l0.length c0, .slice none 0 0]) ?_ 1 _ rfl; refine yH ?_; refine blk_put (cs := #[.slice none 0 0, .slice none 0 0]) ?_ 0 _ rfl; refine yH ?_; exact BK768.out) hb); replace HB := Aside0.mk (below_step yB hb); (try clear hb)))
   (try simp only [Act.put, List.setIfInBounds_toArray, List.set_cons_zero, List.set_cons_succ])
   go_cut [40] (fun v40 wc => ∃ (kq : Nat) (x40_14 : Bool), v40 = .bool x40_14 ∧ Aside0 (swarflaw43_SubprogramFolded.j1 kq l0 a1 a2 x40_14 = some r) ∧ Aside0 (kq ≤ kj3) ∧ Aside0 (wc.heap[gb768]? = some (.cells #[(.slice A0 l0.length c0), (.slice none 0 0)] 48 (0, 0))) ∧ Aside0 (Below w.heap.size w wc))
   case first =>
    have H := HC15.out
    clear HC15
    by_cases c19 : t770 = 0
    ·rw [if_pos c19] at H
     have c19b0 : (t770 == 0) = true := beq_iff_eq.mpr c19
     have c19b1 : (t770 != 0) = false := bne_eq_false_iff_eq.mpr c19
     clear c19
     (first | rw [c19b0] | (simp only [i64_w, i32_w]; rw [c19b0]) | skip)
     by_cases c20 : t769 = (l0.length : Int)
     ·rw [if_pos c20] at H
      have c20b0 : (t769 == (l0.length : Int)) = true := beq_iff_eq.mpr c20
      have c20b1 : (t769 != (l0.length : Int)) = false := bne_eq_false_iff_eq.mpr c20
      clear c20
      replace H := Option.bind_eq_some_iff.mp H
      obtain ⟨t771, A210, H⟩ := H
      have A21 := Aside0.mk A210
      clear A210
      have H' := Aside0.mk H
      clear H
      go_wp2_with (first | (go_at_call 38; (with_reducible refine (ContainsFunc_called.calls kj3 _ _ l0  t771 _ ?side1 ?side2 A21.out).mono ?_); (case side1 => exact yC HR0.out); (case side2 => exact HC0.out); rintro e w22 ⟨rfl, hb⟩; replace BK768 := Aside0.mk (blk_below (g := gb768) yK hb); replace HB := Aside0.mk (below_step yB hb); (try clear hb)))
      go_meet
      case rel => exact ⟨_, (t771), yS, H', ⟨by have := HJ3.out; first | omega | exact Nat.le_refl _⟩, ⟨by refine yH ?_; exact BK768.out⟩, ⟨yB⟩⟩
     rw [if_neg c20] at H
     have c20b0 : (t769 == (l0.length : Int)) = false := beq_eq_false_iff_ne.mpr c20
     have c20b1 : (t769 != (l0.length : Int)) = true := bne_iff_ne.mpr c20
     have H' := Aside0.mk H
     clear H
     go_wp2
     go_meet
     case rel => exact ⟨_, (true), yS, H', ⟨by have := HJ3.out; first | omega | exact Nat.le_refl _⟩, ⟨by refine yH ?_; exact BK768.out⟩, ⟨yB⟩⟩
    rw [if_neg c19] at H
    have c19b0 : (t770 == 0) = false := beq_eq_false_iff_ne.mpr c19
    have c19b1 : (t770 != 0) = true := bne_iff_ne.mpr c19
    (first | rw [c19b0] | (simp only [i64_w, i32_w]; rw [c19b0]) | skip)
    have H' := Aside0.mk H
    clear H
    go_wp2
    go_meet
    case rel => exact ⟨_, (true), yS, H', ⟨by have := HJ3.out; first | omega | exact Nat.le_refl _⟩, ⟨by refine yH ?_; exact BK768.out⟩, ⟨yB⟩⟩
   case rest =>
    clear HC15
    try clear c1
    try clear c2
    try clear p2
    try clear c3
    try clear c6
    try clear c8
    try clear c11
    try clear c19
    try clear c19b0
    try clear c19b1
    try clear c20
    try clear c20b0
    try clear c20b1
    try clear hcz17_0
    try clear hcz17_1
    try clear hfz17_0
    try clear hfz17_1
    try clear p2
    obtain ⟨kq, x40_14, rfl, HA, HJ14, BK768, HB⟩ := hcut
    cases kq with
    | zero => exact absurd HA.out (by simp [swarflaw43_SubprogramFolded.j1])
    | succ kj14 =>
     have H := HA.out
     clear HA
     simp only [swarflaw43_SubprogramFolded.j1] at H
     by_cases c23 : x40_14 = true
     ·subst c23
      rw [if_pos rfl] at H
      obtain rfl := Option.some.inj H
      go_wp2
      go_ret
      exact ⟨yE, yB⟩
     replace c23 := Bool.eq_false_iff.mpr c23
     subst c23
     replace H : ((Clone_Block.f l0).bind fun t772 => ((subprogram_Fold.f kj14 t772 (wrap64 (1 + (wrap64 (a1)))) (wrap64 (1 + (wrap64 (Int.tmod a2 8))))).bind fun bt775 => ((subprogram_Expand.f kj14 bt775.1 bt775.2.1).bind fun bt783 => (if bt775.2.2 = 0 then (if bt783.2 = 0 then ((swarfref41_Same.f kj14 bt783.1 l0).bind fun t787 => (if t787 = true then (some (decide ((bt775.1.length : Int) ≤ (l0.length : Int)))) else (none))) else (none)) else (none))))) = some r := by rw [if_neg (show ¬ (false = true) by decide)] at H; exact H
     replace H := Option.bind_eq_some_iff.mp H
     obtain ⟨t772, A240, H⟩ := H
     have A24 := Aside0.mk A240
     clear A240
     replace H := Option.bind_eq_some_iff.mp H
     obtain ⟨⟨t775, t778, t781⟩, A250, H⟩ := H
     have A25 := Aside0.mk A250
     clear A250
     replace H := Option.bind_eq_some_iff.mp H
     obtain ⟨⟨t783, t786⟩, A260, H⟩ := H
     have A26 := Aside0.mk A260
     clear A260
     by_cases c27 : t781 = 0
     ·rw [if_pos c27] at H
      have c27b0 : (t781 == 0) = true := beq_iff_eq.mpr c27
      have c27b1 : (t781 != 0) = false := bne_eq_false_iff_eq.mpr c27
      clear c27
      by_cases c28 : t786 = 0
      ·rw [if_pos c28] at H
       have c28b0 : (t786 == 0) = true := beq_iff_eq.mpr c28
       have c28b1 : (t786 != 0) = false := bne_eq_false_iff_eq.mpr c28
       clear c28
       replace H := Option.bind_eq_some_iff.mp H
       obtain ⟨t787, A290, H⟩ := H
       have A29 := Aside0.mk A290
       clear A290
       by_cases c30 : t787 = true
       ·subst c30
        rw [if_pos rfl] at H
        obtain rfl := Option.some.inj H
        go_wp2_with (first | ((with_reducible refine gate_callee (f := 33) rfl ?_); refine goesL_ (some 43) rfl rfl Try.func33 (by kernel_rfl) rfl #[.slice A0 l0.length c0] rfl yQ ?_; (with_reducible refine (Clone_Block.calls (fun k_ => k_ < w.heap.size) _ _ l0 t772 _ ?side1 A24.out).mono ?_); (case side1 => exact Kd.V_mk HC0.out (Kd.F_below (Kd.C_F k32_heap HR0.out) yB)); rintro e w31 ⟨v773, rfl, ho0, hb⟩; refine ⟨_, rfl, ?_⟩; have HO774 := Aside0.mk (Kd.N_lower (Kd.N_mono (ok' := fun k_ => k_ ≠ gb768) ho0 (fun k_ hk_ => Or.elim hk_ (fun hs_ => fun e_ => Nat.not_le.2 hs_ (by rw [e_]; exact GW768.out)) (fun hn_ => (Kd.freshB (g := gb768) yK k_ hn_)))) (below_size yB)); replace BK768 := Aside0.mk (blk_below (g := gb768) yK hb); replace HB := Aside0.mk (below_step yB hb); (try clear hb); (try clear ho0); obtain ⟨Ao32, co32, eo32⟩ := Kd.N_slice HO774.out; subst eo32) | ((with_reducible refine gate_callee (f := 32) rfl ?_); refine goesL_ (some 51) rfl rfl Try.func32 (by kernel_rfl) rfl #[.slice Ao32 t772.length co32, .int .i64 (wrap64 (1 + (wrap64 (a1)))), .int .i64 (wrap64 (1 + (wrap64 (Int.tmod a2 8))))] rfl yQ ?_; (with_reducible refine (subprogram_Fold.calls kj14 (fun k_ => k_ ≠ gb768) _ _ t772 (wrap64 (1 + (wrap64 (a1)))) (wrap64 (1 + (wrap64 (Int.tmod a2 8)))) t775 t778 t781 _ ?side1 A25.out).mono ?_); (case side1 => exact Kd.N_V (HO774.out)); rintro e w33 ⟨v776, v779, rfl, ho0, ho1, hb⟩; refine ⟨_, rfl, ?_⟩; replace HO774 := Aside0.mk (Kd.N_mono (Kd.N_told (Kd.N_told (Kd.N_old (yN HO774.out) hb) (by first | exact Kd.N_base ho0 | exact Kd.S_base ho0)) (Kd.N_base ho1)) (fun _ h_ => h_.1)); have HO777 := Aside0.mk (Kd.N_lower (Kd.N_mono (ok' := fun k_ => some k_ ≠ (v779 : Value).ownBlock ∧ k_ ≠ gb768) ho0 (fun k_ hk_ => ⟨hk_.2, Or.elim hk_.1 (fun hs_ => hs_) (fun hn_ => (Kd.freshB (g := gb768) yK k_ hn_))⟩)) (below_size yB)); have HO780 := Aside0.mk (Kd.N_lower (Kd.N_mono (ok' := fun k_ => some k_ ≠ (v776 : Value).ownBlock ∧ k_ ≠ gb768) ho1 (fun k_ hk_ => ⟨hk_.2, Or.elim hk_.1 (fun hs_ => hs_) (fun hn_ => (Kd.freshB (g := gb768) yK k_ hn_))⟩)) (below_size yB)); replace BK768 := Aside0.mk (blk_below (g := gb768) yK hb); replace HB := Aside0.mk (below_step yB hb); (try clear hb); (try clear ho0); (try clear ho1)) | ((with_reducible refine gate_dst (N := 10) rfl ?_); (try (refine gate_guard (by rfl) ?_; dsimp only)); refine yX 10 #[.slice none 0 0, .slice none 0 0] 54 ?_; intro gb782 hg w34 hbox hb; replace HO774 := Aside0.mk (Kd.N_below (Kd.N_elderB (yN HO774.out) gb782 (Nat.le_of_eq hg.symm)) hb); replace HO777 := Aside0.mk (Kd.N_below (Kd.N_elderB (yN HO777.out) gb782 (Nat.le_of_eq hg.symm)) hb); replace HO780 := Aside0.mk (Kd.N_below (Kd.N_elderB (yN HO780.out) gb782 (Nat.le_of_eq hg.symm)) hb); have BK782 := Aside0.mk (hbox); have GE782 := Aside0.mk ((yG hg : w.heap.size ≤ gb782)); replace HB := Aside0.mk (below_step yB hb); have NB768_782 := Aside0.mk ((yJ hg yK : gb768 ≠ gb782)); have NB782_768 := Aside0.mk ((yI hg yK : gb782 ≠ gb768)); replace BK768 := Aside0.mk (blk_below (g := gb768) yK hb); clear hb hbox hg; obtain ⟨Ao35, co35, eo35⟩ := Kd.N_slice HO777.out; subst eo35; have hnb36 := NB782_768.out; have hnc36 := NB768_782.out; have hcz37_0 := yZ0 BK782.out; have hcz37_1 := yZ1 BK782.out; have hfz37_0 := blk_frozen BK782.out 0; have hfz37_1 := blk_frozen BK782.out 1; obtain ⟨Ao38, co38, eo38⟩ := Kd.N_slice HO780.out; subst eo38) | ((with_reducible refine gate_callee (f := 28) rfl ?_); refine goesL_ (some 56) rfl rfl Try.func28 (by kernel_rfl) rfl #[.agg #[.slice Ao35 t775.length co35, .slice Ao38 t778.length co38]] rfl yQ ?_; (with_reducible refine (subprogram_Expand.calls kj14 _ _ t775 _ _ t778 t783 t786 _ ?side1 ?side2 ?side3 ?side4 A26.out).mono ?_); (case side1 => refine (Kd.N_reads' (e := 32) (base := w.heap.size) (ok := fun k_ => ((some k_ ≠ (.slice Ao38 t778.length co38 : Value).ownBlock ∧ k_ ≠ gb768) ∧ k_ ≠ gb782)) (n := t775.length) (c := co35) ?_).2.2; exact (yN ((Kd.N_mono (Kd.N_far (p := ⟨gb782, 1, none⟩) (Kd.N_far (p := ⟨gb782, 0, none⟩) (Kd.N_mono HO777.out (fun k_ hk => (⟨hk, hk.2⟩ : _ ∧ k_ ≠ gb782))) (fun _ hk => hk.2) (.slice Ao35 t775.length co35)) (fun _ hk => hk.2) (.slice Ao38 t778.length co38)) (fun _ h_ => h_.1))))); (case side2 => exact (Kd.N_reads' HO777.out).2.1); (case side3 => refine (Kd.N_reads' (e := 81) (base := w.heap.size) (ok := fun k_ => ((some k_ ≠ (.slice Ao35 t775.length co35 : Value).ownBlock ∧ k_ ≠ gb768) ∧ k_ ≠ gb782)) (n := t778.length) (c := co38) ?_).2.2; exact (yN ((Kd.N_mono (Kd.N_far (p := ⟨gb782, 1, none⟩) (Kd.N_far (p := ⟨gb782, 0, none⟩) (Kd.N_mono HO780.out (fun k_ hk => (⟨hk, hk.2⟩ : _ ∧ k_ ≠ gb782))) (fun _ hk => hk.2) (.slice Ao35 t775.length co35)) (fun _ hk => hk.2) (.slice Ao38 t778.length co38)) (fun _ h_ => h_.1))))); (case side4 => exact (Kd.N_reads' HO780.out).2.1); rintro e w39 ⟨v784, rfl, ho0, hb⟩; refine ⟨_, rfl, ?_⟩; have HO785 := Aside0.mk (Kd.N_lower (Kd.N_mono (ok' := fun k_ => some k_ ≠ (.slice Ao32 t772.length co32 : Value).ownBlock ∧ some k_ ≠ (.slice Ao35 t775.length co35 : Value).ownBlock ∧ some k_ ≠ (.slice Ao38 t778.length co38 : Value).ownBlock ∧ k_ ≠ gb768 ∧ k_ ≠ gb782) (Kd.S_N (Kd.S_bound ho0)) (fun k_ hk_ => ⟨(Kd.fresh' (Kd.N_lt (yN ((Kd.N_mono (Kd.N_far (p := ⟨gb782, 1, none⟩) (Kd.N_far (p := ⟨gb782, 0, none⟩) (Kd.N_mono HO774.out (fun k_ hk => (⟨hk, hk.2⟩ : _ ∧ k_ ≠ gb782))) (fun _ hk => hk.2) (.slice Ao35 t775.length co35)) (fun _ hk => hk.2) (.slice Ao38 t778.length co38)) (fun _ h_ => h_.1))))) k_ hk_.2.1), (Kd.fresh' (Kd.N_lt (yN ((Kd.N_mono (Kd.N_far (p := ⟨gb782, 1, none⟩) (Kd.N_far (p := ⟨gb782, 0, none⟩) (Kd.N_mono HO777.out (fun k_ hk => (⟨hk, hk.2⟩ : _ ∧ k_ ≠ gb782))) (fun _ hk => hk.2) (.slice Ao35 t775.length co35)) (fun _ hk => hk.2) (.slice Ao38 t778.length co38)) (fun _ h_ => h_.1))))) k_ hk_.2.1), (Kd.fresh' (Kd.N_lt (yN ((Kd.N_mono (Kd.N_far (p := ⟨gb782, 1, none⟩) (Kd.N_far (p := ⟨gb782, 0, none⟩) (Kd.N_mono HO780.out (fun k_ hk => (⟨hk, hk.2⟩ : _ ∧ k_ ≠ gb782))) (fun _ hk => hk.2) (.slice Ao35 t775.length co35)) (fun _ hk => hk.2) (.slice Ao38 t778.length co38)) (fun _ h_ => h_.1))))) k_ hk_.2.1), (Kd.freshB (g := gb768) (o := .cells #[.slice A0 l0.length c0, .slice none 0 0] 48 (0, 0)) (by refine yH ?_; refine blk_far ?_ NB768_782.out _; refine yH ?_; refine blk_far ?_ NB768_782.out _; refine yH ?_; exact BK768.out) k_ hk_.2.1), (Kd.freshB (g := gb782) (o := .cells #[.slice Ao35 t775.length co35, .slice Ao38 t778.length co38] 54 (0, 0)) (by refine yH ?_; refine blk_put (cs := #[.slice Ao35 t775.length co35, .slice none 0 0]) ?_ 1 _ rfl; refine yH ?_; refine blk_put (cs := #[.slice none 0 0, .slice none 0 0]) ?_ 0 _ rfl; refine yH ?_; exact BK782.out) k_ hk_.2.1)⟩)) (below_size yB)); replace HO774 := Aside0.mk (Kd.N_elder' (yN ((Kd.N_mono (Kd.N_far (p := ⟨gb782, 1, none⟩) (Kd.N_far (p := ⟨gb782, 0, none⟩) (Kd.N_mono HO774.out (fun k_ hk => (⟨hk, hk.2⟩ : _ ∧ k_ ≠ gb782))) (fun _ hk => hk.2) (.slice Ao35 t775.length co35)) (fun _ hk => hk.2) (.slice Ao38 t778.length co38)) (fun _ h_ => h_.1)))) (by first | exact Kd.N_base ho0 | exact Kd.S_base ho0) hb); replace HO777 := Aside0.mk (Kd.N_elder' (yN ((Kd.N_mono (Kd.N_far (p := ⟨gb782, 1, none⟩) (Kd.N_far (p := ⟨gb782, 0, none⟩) (Kd.N_mono HO777.out (fun k_ hk => (⟨hk, hk.2⟩ : _ ∧ k_ ≠ gb782))) (fun _ hk => hk.2) (.slice Ao35 t775.length co35)) (fun _ hk => hk.2) (.slice Ao38 t778.length co38)) (fun _ h_ => h_.1)))) (by first | exact Kd.N_base ho0 | exact Kd.S_base ho0) hb); replace HO780 := Aside0.mk (Kd.N_elder' (yN ((Kd.N_mono (Kd.N_far (p := ⟨gb782, 1, none⟩) (Kd.N_far (p := ⟨gb782, 0, none⟩) (Kd.N_mono HO780.out (fun k_ hk => (⟨hk, hk.2⟩ : _ ∧ k_ ≠ gb782))) (fun _ hk => hk.2) (.slice Ao35 t775.length co35)) (fun _ hk => hk.2) (.slice Ao38 t778.length co38)) (fun _ h_ => h_.1)))) (by first | exact Kd.N_base ho0 | exact Kd.S_base ho0) hb); replace BK768 := Aside0.mk (blk_below (g := gb768) (o := .cells #[.slice A0 l0.length c0, .slice none 0 0] 48 (0, 0)) (by refine yH ?_; refine blk_far ?_ NB768_782.out _; refine yH ?_; refine blk_far ?_ NB768_782.out _; refine yH ?_; exact BK768.out) hb); replace BK782 := Aside0.mk (blk_below (g := gb782) (o := .cells #[.slice Ao35 t775.length co35, .slice Ao38 t778.length co38] 54 (0, 0)) (by refine yH ?_; refine blk_put (cs := #[.slice Ao35 t775.length co35, .slice none 0 0]) ?_ 1 _ rfl; refine yH ?_; refine blk_put (cs := #[.slice none 0 0, .slice none 0 0]) ?_ 0 _ rfl; refine yH ?_; exact BK782.out) hb); replace HB := Aside0.mk (below_step yB hb); (try clear hb); (try clear hk); (try clear ho0); obtain ⟨Ao40, co40, eo40⟩ := Kd.N_slice HO785.out; subst eo40) | (go_at_call 19; (with_reducible refine (swarfref41_Same.calls kj14 _ _ t783 _ _ l0 true _ ?side1 ?side2 ?side3 ?side4 A29.out).mono ?_); (case side1 => repeat (first | exact (Kd.N_reads' HO785.out).2.2 | (with_reducible refine Kd.C_alloc ?_ _) | (with_reducible refine Kd.C_drewN ?_ _) | (with_reducible refine Kd.C_drew ?_))); (case side2 => exact (Kd.N_reads' HO785.out).2.1); (case side3 => exact yC HR0.out); (case side4 => exact HC0.out); rintro e w41 ⟨rfl, hb⟩; replace HO774 := Aside0.mk (Kd.N_below (yN HO774.out) hb); replace HO777 := Aside0.mk (Kd.N_below (yN HO777.out) hb); replace HO780 := Aside0.mk (Kd.N_below (yN HO780.out) hb); replace HO785 := Aside0.mk (Kd.N_below (yN HO785.out) hb); replace BK768 := Aside0.mk (blk_below (g := gb768) yK hb); replace BK782 := Aside0.mk (blk_below (g := gb782) yK hb); replace HB := Aside0.mk (below_step yB hb); (try clear hb); have hcz42_0 := yZ0 BK782.out; have hcz42_1 := yZ1 BK782.out; have hfz42_0 := blk_frozen BK782.out 0; have hfz42_1 := blk_frozen BK782.out 1))
        go_ret
        exact ⟨yE, yB⟩
       replace c30 := Bool.eq_false_iff.mpr c30
       subst c30
       replace H : (none) = some r := by rw [if_neg (show ¬ (false = true) by decide)] at H; exact H
       exact absurd H (by simp)
      rw [if_neg c28] at H
      exact absurd H (by simp)
     rw [if_neg c27] at H
     exact absurd H (by simp)
end Go.Proofs.Ytehkhbnhmehobaa.P
namespace Go.Proofs.Ytehkhbnhmehobaa.P
open Go.RowKit Go.Proofs.YtehkhbnhmehobaaW.PrintWords Go.Proofs.YtehkhbnhmehobaaW.PrintLast Go.Proofs.YtehkhbnhmehobaaW.PrintMore
set_option linter.unusedVariables false
set_option linter.unusedSimpArgs false
theorem wf_U8 {a : Int} (h : (Lit.int .u8 a).wf = true) : 0 ≤ a ∧ a ≤ 255 := by
  have h2 : IntKind.u8.min ≤ a ∧ a ≤ IntKind.u8.max := by simpa [Lit.wf] using h
  have e1 : IntKind.u8.min = 0 := by decide
  have e2 : IntKind.u8.max = 255 := by decide
  omega
theorem called_ev (l : List Bk) (hg : ∀ b ∈ l, goodB b) : Ev (fun k => ContainsFunc_called.f k l) (l.any fun b => (callS b.f1).2.2.1) := by
  unfold ContainsFunc_called.f
  have h1 := idx_ev (P := fun k (x : Bk) => swarflaw43_called.f k x.f0 x.f1 x.f2) (q := fun x => (callS x.f1).2.2.1) l 0 (fun x hx => by
    unfold swarflaw43_called.f
    exact Ev.bind (hg x hx).callRef Ev.some)
  have h2 := Ev.map (fun i : Int => decide (i ≥ 0)) h1
  rw [idxS_any l 0 (by omega)] at h2
  exact h2
theorem pure_SubprogramFolded (l : List Bk) (num n : Int) (hm : l.length ≤ maxLen) (hb : ∀ b ∈ l, okBlock b) (hnum : (Lit.int .u8 num).wf = true) (hn0 : (Lit.int .u8 n).wf = true) : ∃ k, swarflaw43_SubprogramFolded.f k l num n = some true := by
  refine Ev.get (g := fun k => swarflaw43_SubprogramFolded.f k l num n) ?_
  have hu := wf_U8 hnum
  have hv := wf_U8 hn0
  unfold swarflaw43_SubprogramFolded.f
  obtain ⟨r, h1, h2⟩ := valid_ev l 40 (by unfold maxLen at hm; omega) hb
  have aw : swarflaw43_awake.f = some true := rfl
  rw [aw]
  refine Ev.bind Ev.some (Ev.pos rfl (Ev.bind h1 (Ev.step (fun k => by rw [swarflaw43_SubprogramFolded.j0]) ?_)))
  cases r with
  | false =>
    refine Ev.pos rfl ?_
    rw [aw]
    exact Ev.bind Ev.some Ev.some
  | true =>
    obtain ⟨hl, hg⟩ := h2 rfl
    have hgp : goodP l [] := ⟨⟨by omega, hg⟩, by simp, fun x hx => by cases hx⟩
    obtain ⟨e, q, hq, hc, ho⟩ := checkR_ev hgp
    refine Ev.neg (by decide) (Ev.bind hq ?_)
    by_cases hq2 : q.2 = 0
    · refine Ev.pos hq2 ?_
      by_cases hq1 : q.1 = (l.length : Int)
      · refine Ev.pos hq1 (Ev.bind (called_ev l hg) (Ev.step (fun k => by rw [swarflaw43_SubprogramFolded.j1]) ?_))
        cases hcl : l.any (fun b => (callS b.f1).2.2.1) with
        | true => exact Ev.pos rfl Ev.some
        | false =>
          have he : e = 0 := by
            rcases ho with ⟨h3, h4⟩ | ⟨h3, _⟩
            · rw [h4] at hq2; exact hq2
            exact h3
          subst he
          obtain ⟨hpr, hfine, _⟩ := hc.zero
          have hp : ProperP l [] := by
            classical
            exact of_decide_eq_true hpr
          have hcall : ∀ b ∈ l, callS b.f1 = (0, 0, false, 0) := fun b hb => by
            have h5 : (callS b.f1).2.2.1 = false := by
              have := List.any_eq_false.mp hcl b hb
              simpa using this
            have h6 : erS b = 0 := hfine.1 b (List.mem_append_left _ hb)
            exact clS_none (by unfold clS; rw [h5]; rfl) h6
          have hne := hp.ne
          have hlast := hp.main (l.length - 1) (by omega)
          rw [decide_eq_true (show l.length - 1 + 1 = l.length by omega)] at hlast
          have ew1 : wrap64 (1 + wrap64 num) = 1 + num := by unfold wrap64; omega
          have ew2 : wrap64 (1 + wrap64 (Int.tmod n 8)) = 1 + n % 8 := by rw [Int.tmod_eq_emod_of_nonneg (by omega)]; unfold wrap64; omega
          have hex := fold_expand (split_main hp) hlast.2.2 hlast.2.1 hlast.1 (main_marks hp) (by omega) hg hcall (num := 1 + num) (n := 1 + n % 8) (by unfold IN; omega) (by omega)
          have hfo := FoldO_ev (by omega) hg (1 + num) (1 + n % 8) (by unfold I64; omega)
          have clone : Clone_Block.f l = some l := by unfold Clone_Block.f; rw [if_pos (by omega)]
          refine Ev.neg (by decide) ?_
          rw [clone, ew1, ew2]
          refine Ev.bind Ev.some (Ev.bind hfo (Ev.bind hex (Ev.pos ?_ (Ev.pos rfl ?_))))
          · unfold foldSpec
            rw [if_neg (by omega)]
            split <;> rfl
          have hsame := Same_f l l (by omega) (fun b hb => by have := (hg b hb).len; omega)
          rw [decide_eq_true rfl] at hsame
          refine Ev.bind hsame (Ev.pos rfl ?_)
          have hlen : ((foldSpec l (1 + num) (1 + n % 8)).1.length : Int) ≤ (l.length : Int) := by
            unfold foldSpec
            rw [if_neg (by omega)]
            split
            · exact Int.le_refl _
            rename_i a _
            have := mainB_len l (1 + num) a (1 + n % 8).toNat (by omega) (l.length + 1) 0 [] (by omega)
            simp at this
            show ((mainB _ _ _ _ _ _ _).length : Int) ≤ _
            omega
          rw [decide_eq_true hlen]
          exact Ev.some
      exact Ev.neg hq1 (Ev.step (fun k => by rw [swarflaw43_SubprogramFolded.j1]) (Ev.pos rfl Ev.some))
    exact Ev.neg hq2 (Ev.step (fun k => by rw [swarflaw43_SubprogramFolded.j1]) (Ev.pos rfl Ev.some))
end Go.Proofs.Ytehkhbnhmehobaa.P
namespace Go.Proofs.Ytehkhbnhmehobaa.subprogramFolded
open Go.ChangeShapes Go.WideShapes Go.ChangeAt Go.RowKit
open Go.ChangeMaps (open_string shut_string)
set_option linter.unusedVariables false
theorem own : ownKnob Try.prog.godebug = none := by kernel_rfl
theorem laidOut : laidOutB Try.prog = true := by kernel_rfl
set_option maxRecDepth 100000 in
theorem lifted (os : Os) (started : os.Started) (H : Type) (enc : TypeId × Value → H) :
    ReturnsInHanded {} Try.checked os 8 .any (Rows.subprogramFoldedSpec.pre6 enc Try.prog Try.f8 Rows.subprogramFoldedRow.domain false) (Rows.subprogramFoldedSpec.post enc Try.prog Try.f8 false true false false) := by
  refine returnsInHanded_of_change_sized (C := Try.checked) own started (by kernel_rfl) Try.func8
    (ChangeSpec.witness6 (enc := enc) (C := Try.checked) false ⟨#[], #[.slice none 0 0, .int .u8 0, .int .u8 0], []⟩ 8 (by kernel_rfl) (by kernel_rfl) (by kernel_rfl) (by kernel_rfl)) ?_
  intro W base args ds gs before hval0 hW hcnd hsz0 _
  have hsz : (DataW.weightsEach Try.prog (Try.f8.params.toList ++ Rows.subprogramFoldedSpec.plain.varTypes Try.prog) (ds ++ gs)).all (· ≤ reachBytes) = true := hsz0
  have hval : ∀ (j : Nat) t v, Try.f8.params[j]? = some t → args[j]? = some v → Value.okWide Try.prog W .any base t v := hval0
  have hW' := hW
  obtain ⟨p, q, hA0, hV, rfl, hfz, hnd⟩ := hW
  have hA : DataW.TrodAll enc Try.prog W 0 (fun _ => true) true Try.f8.params.toList args.toList ds p := hA0
  rw [Try.params8] at hA hval hsz
  obtain ⟨v0, vs0, d0, ds0, p0, q0, hargs, rfl, rfl, h0, r0⟩ := trodAll_cons hA
  obtain ⟨v1, vs1, d1, ds1, p1, q1, rfl, rfl, rfl, h1, r1⟩ := trodAll_cons r0
  obtain ⟨v2, vs2, d2, ds2, p2, q2, rfl, rfl, rfl, h2, r2⟩ := trodAll_cons r1
  obtain ⟨rfl, rfl, rfl⟩ := trodAll_nil r2
  obtain rfl : args = #[v0, v1, v2] := by cases args; simp_all
  obtain ⟨rfl, rfl⟩ := trodVars_none hV
  have k0 := h0
  have lt0 : ∀ x ∈ p0, x.block < W.heap.size := by obtain ⟨m, hm⟩ := k0; exact DataW.trod_lt m _ _ _ hm
  obtain ⟨b0, A0, c0, rfl, l0, r0_, m0, w0⟩ := P.arg_Blocks (hval 0 35 v0 rfl rfl) h0
  obtain ⟨a1, rfl, rfl, rfl, w1⟩ := open_int Try.underlying5 (hval 1 5 v1 rfl rfl) h1
  obtain ⟨a2, rfl, rfl, rfl, w2⟩ := open_int Try.underlying5 (hval 2 5 v2 rfl rfl) h2
  clear hA0 hval0 hsz0 hsz
  obtain ⟨k_, pure_⟩ := P.pure_SubprogramFolded b0 a1 a2 m0 w0 w1 w2
  refine (P.swarflaw43_SubprogramFolded.calls k_ A0 c0 b0 a1 a2 true W r0_ l0 pure_).mono fun e W' ⟨he, bel⟩ => ?_
  subst he
  exact ⟨_, rfl, _, _, _, [], _, [], hW', trodAll_mk1 (shut_bool Try.underlying4 _), (trodAll_cons_mk (Below.trod laidOut (by kernel_rfl) (of_decide_eq_true (by kernel_rfl)) k0 bel lt0) (trodAll_cons_mk (shut_int Try.underlying5 w1) (trodAll_cons_mk (shut_int Try.underlying5 w2) trodAll_mk0))), rfl, bel.frame _, fun h => by cases h⟩
theorem over : Rows.subprogramFoldedRow.holds Try.pinned (OpenSpec.ofChange Rows.subprogramFoldedSpec) :=
  OpenClaim.holds_of_wide 8 Try.f8 rfl rfl rfl rfl rfl rfl rfl ⟨rfl, rfl, rfl, rfl, rfl⟩ rfl rfl rfl rfl rfl (by kernel_rfl) Try.func8 (by kernel_rfl)
    (of_decide_eq_true (by kernel_rfl)) (by unfold Func.isWrapper; first | (rw [if_pos (by decide +kernel)]; kernel_rfl) | (rw [if_neg (by decide +kernel)]; exact ⟨rfl, rfl⟩))
    (fun os started H enc _ => lifted os started H enc)
theorem proved : Rows.SubprogramFoldedSaid := over
#print axioms proved
end Go.Proofs.Ytehkhbnhmehobaa.subprogramFolded
namespace Go.Proofs.Ytehkhbnhmehobaa
theorem subprogramFolded_holds : Rows.SubprogramFoldedSaid := subprogramFolded.proved
end Go.Proofs.Ytehkhbnhmehobaa
