/-
  MatchMemory holds: for every board, find and slot, the law returns true and what it is given reads as it did. (part 4 of 5 of the texts that it stands on)
-/
import Derived.Shelf.SlicesE.DeleteFunc
import Derived.Test.YtkmmihadcbfkoaaZMemoryc
section
namespace Go.Proofs.Ytkmmihadcbfkoaa.PM
open Go.RowKit Go.Proofs.YtkmmihadcbfkoaaW.PrintWords Go.Proofs.YtkmmihadcbfkoaaW.PrintLast Go.Proofs.YtkmmihadcbfkoaaW.PrintMore
set_option linter.unusedVariables false
set_option linter.unusedSimpArgs false
def laganref04_Copied.l0 : Nat → Int → List Int → List (S50) → List (List Int) → List Int → List (S50) → List (List Int) → Option (List Int × (List (S50)) × (List (List Int)))
 | 0, _, _, _, _, _, _, _ => none
 | k + 1, x4, x270000, x270001, x270002, x284000, x284001, x284002 => if x4 < (x270002.length : Int) then ((some (([] : List Int) : List Int)).bind fun y284 => (if 0 ≤ x4 then (if y284.length + (rd_L1 x270002 x4).length < 17592186044416 then (if x284002.length < 5864062014805 then (laganref04_Copied.l0 k (wrap64 (x4 + 1)) x270000 x270001 x270002 x284000 x284001 (x284002 ++ [(y284 ++ (rd_L1 x270002 x4))])) else (none)) else (none)) else (none))) else (some (x284000, x284001, x284002))
def laganref04_Copied.f (k : Nat) (l0_0 : List Int) (l0_1 : List (S50)) (l0_2 : List (List Int)) : Option (List Int × (List (S50)) × (List (List Int))) := (some (([] : List Int) : List Int)).bind fun y271 => (if y271.length + l0_0.length < 17592186044416 then ((some (([] : List (S50)) : List (S50))).bind fun y277 => (if y277.length + l0_1.length < 5864062014805 then (laganref04_Copied.l0 k 0 l0_0 l0_1 l0_2 (y271 ++ l0_0) (y277 ++ l0_1) ([] : List (List Int))) else (none))) else (none))
def laganref04_Copied.T1 : Bool × List (List Nat × List Nat) := (true, [([], []), ([], []), ([1], [1]), ([0, 2], [0, 2]), ([], []), ([], []), ([5], [5]), ([4, 6, 3], [4, 6]), ([3, 7], [3, 7]), ([], []), ([9, 8, 7, 0, 1, 2, 3, 4, 5, 6, 7, 8, 9], [8, 9])])
def laganref04_Copied.B1 : List Nat := [0, 0, 2, 7, 0, 0, 32, 127, 255, 0, 1023]
theorem laganref04_Copied.tab1 : rtab .any (opsOf Try.f26 1) = laganref04_Copied.T1 := by kernel_rfl
theorem laganref04_Copied.bits1 : waitsOk laganref04_Copied.T1.2 laganref04_Copied.B1 = true := by kernel_rfl
def laganref04_Copied.T5 : Bool × List (List Nat × List Nat) := (true, [([], []), ([0], [0]), ([], []), ([], []), ([3], [3]), ([], []), ([4, 5], [4, 5]), ([6], [6]), ([2, 7], [2, 7]), ([8], [8]), ([1, 9, 8], [1, 9]), ([0, 1, 2, 3, 4, 5, 6, 7, 8, 9, 10], []), ([11, 10, 10, 0, 1, 2, 3, 4, 5, 6, 7, 8, 9, 10], [10, 11])])
def laganref04_Copied.B5 : List Nat := [0, 1, 0, 0, 8, 0, 56, 120, 252, 508, 1023, 2047, 4095]
theorem laganref04_Copied.tab5 : rtab .any (opsOf Try.f26 5) = laganref04_Copied.T5 := by kernel_rfl
theorem laganref04_Copied.bits5 : waitsOk laganref04_Copied.T5.2 laganref04_Copied.B5 = true := by kernel_rfl
set_option maxHeartbeats 8000000 in
set_option maxRecDepth 100000 in
theorem laganref04_Copied.calls (k : Nat) (A0_0 : Option Addr) (c0_0 : Nat) (l0_0 : List Int) (A0_1 : Option Addr) (c0_1 : Nat) (l0_1 : List (S50)) (A0_2 : Option Addr) (c0_2 : Nat) (l0_2 : List (List Int)) (r1 : List Int) (r2 : List (S50)) (r3 : List (List Int)) (w : World) (hr0_0 : Kd.C (Kd.int .i64) w A0_0 l0_0.length l0_0) (hc0_0 : l0_0.length ≤ c0_0) (hr0_1 : Kd.C k50 w A0_1 l0_1.length l0_1) (hc0_1 : l0_1.length ≤ c0_1) (hr0_2 : Kd.C (Kd.slice 3 (Kd.int .i64)) w A0_2 l0_2.length l0_2) (hc0_2 : l0_2.length ≤ c0_2) (h : laganref04_Copied.f k l0_0 l0_1 l0_2 = some (r1, r2, r3)) :
  Calls Try.prog 26 #[.agg #[.slice A0_0 l0_0.length c0_0, .slice A0_1 l0_1.length c0_1, .slice A0_2 l0_2.length c0_2]] w fun e w' => ∃ v0_ v1_ v2_ : Value, e = .returned (.agg #[v0_, v1_, v2_]) ∧ Kd.R (Kd.int .i64) 3 w' w.heap.size (fun _ => True) v0_ r1 ∧ Kd.R k50 50 w' w.heap.size (fun _ => True) v1_ r2 ∧ Kd.S (Kd.slice 3 (Kd.int .i64)) 22 w' w.heap.size (fun k_ => some k_ ≠ (v0_ : Value).ownBlock) v2_ r3 ∧ Below w.heap.size w w' := by
 have hu26 := Try.underlying26
 have HR0_0 := Aside0.mk hr0_0
 have HC0_0 := Aside0.mk hc0_0
 clear hr0_0 hc0_0
 have HR0_1 := Aside0.mk hr0_1
 have HC0_1 := Aside0.mk hc0_1
 clear hr0_1 hc0_1
 have HR0_2 := Aside0.mk hr0_2
 have HC0_2 := Aside0.mk hc0_2
 clear hr0_2 hc0_2
 have HB := Aside0.mk (Below.refl w.heap.size w)
 have H : ((some (([] : List Int) : List Int)).bind fun y271 => (if y271.length + l0_0.length < 17592186044416 then ((some (([] : List (S50)) : List (S50))).bind fun y277 => (if y277.length + l0_1.length < 5864062014805 then (laganref04_Copied.l0 k 0 l0_0 l0_1 l0_2 (y271 ++ l0_0) (y277 ++ l0_1) ([] : List (List Int))) else (none))) else (none))) = some (r1, r2, r3) := h
 clear h
 obtain ⟨y271, hy271⟩ : ∃ y_ : List Int, y_ = (([] : List Int)) := ⟨_, rfl⟩
 replace H : (if y271.length + l0_0.length < 17592186044416 then ((some (([] : List (S50)) : List (S50))).bind fun y277 => (if y277.length + l0_1.length < 5864062014805 then (laganref04_Copied.l0 k 0 l0_0 l0_1 l0_2 (y271 ++ l0_0) (y277 ++ l0_1) ([] : List (List Int))) else (none))) else (none)) = some (r1, r2, r3) := by first | (rw [hy271]; with_reducible exact H) | (have H2_ := (Option.bind_some _ _).symm.trans H; rw [hy271]; with_reducible exact H2_) | (have H2_ := (Option.bind_some _ _).symm.trans H; with_reducible exact H2_) | with_reducible exact H | (rw [hy271]; exact H) | exact H
 have Ny271 := Aside0.mk hy271
 clear hy271
 by_cases c2 : y271.length + l0_0.length < 17592186044416
 rotate_left
 ·
  rw [if_neg c2] at H
  exact absurd H (by simp)
 rw [if_pos c2] at H
 have LMc2 := Aside0.mk c2
 clear c2
 obtain ⟨y274, hy274⟩ : ∃ y_ : List Int, y_ = (y271 ++ l0_0) := ⟨_, rfl⟩
 replace H : ((some (([] : List (S50)) : List (S50))).bind fun y277 => (if y277.length + l0_1.length < 5864062014805 then (laganref04_Copied.l0 k 0 l0_0 l0_1 l0_2 y274 (y277 ++ l0_1) ([] : List (List Int))) else (none))) = some (r1, r2, r3) := by first | (rw [hy274]; with_reducible exact H) | (have H2_ := (Option.bind_some _ _).symm.trans H; rw [hy274]; with_reducible exact H2_) | (have H2_ := (Option.bind_some _ _).symm.trans H; with_reducible exact H2_) | with_reducible exact H | (rw [hy274]; exact H) | exact H
 have Ny274 := Aside0.mk hy274
 clear hy274
 obtain ⟨y277, hy277⟩ : ∃ y_ : List (S50), y_ = (([] : List (S50))) := ⟨_, rfl⟩
 replace H : (if y277.length + l0_1.length < 5864062014805 then (laganref04_Copied.l0 k 0 l0_0 l0_1 l0_2 y274 (y277 ++ l0_1) ([] : List (List Int))) else (none)) = some (r1, r2, r3) := by first | (rw [hy277]; with_reducible exact H) | (have H2_ := (Option.bind_some _ _).symm.trans H; rw [hy277]; with_reducible exact H2_) | (have H2_ := (Option.bind_some _ _).symm.trans H; with_reducible exact H2_) | with_reducible exact H | (rw [hy277]; exact H) | exact H
 have Ny277 := Aside0.mk hy277
 clear hy277
 by_cases c3 : y277.length + l0_1.length < 5864062014805
 rotate_left
 ·
  rw [if_neg c3] at H
  exact absurd H (by simp)
 rw [if_pos c3] at H
 have LMc3 := Aside0.mk c3
 clear c3
 obtain ⟨y280, hy280⟩ : ∃ y_ : List (S50), y_ = (y277 ++ l0_1) := ⟨_, rfl⟩
 replace H : (laganref04_Copied.l0 k 0 l0_0 l0_1 l0_2 y274 y280 ([] : List (List Int))) = some (r1, r2, r3) := by first | (rw [hy280]; with_reducible exact H) | (have H2_ := (Option.bind_some _ _).symm.trans H; rw [hy280]; with_reducible exact H2_) | (have H2_ := (Option.bind_some _ _).symm.trans H; with_reducible exact H2_) | with_reducible exact H | (rw [hy280]; exact H) | exact H
 have Ny280 := Aside0.mk hy280
 clear hy280
 have H' := Aside0.mk H
 clear H
 go_enter Try.func26, Try.ntmps26
 try go_wp2_with (first | ((with_reducible refine gate_dst (N := 1) rfl ?_); refine box_event ?hg (N := 1) ?hd (cs := #[.slice A0_0 l0_0.length c0_0, .slice A0_1 l0_1.length c0_1, .slice A0_2 l0_2.length c0_2]) (t := 26) ?hr ?_; (case hd => rfl); (case hg => rfl); (case hr => first | (go_simp; done) | (go_simp; rfl)); intro gb269 hg w4 hbox hb; have n0_ := Aside0.mk (below_step (by repeat (first | (with_reducible first | exact HB.out | apply below_alloc | apply pw_below_drewN | apply below_drew1) | exact HB.out)) hb); have n1_ := Aside0.mk (hbox); have n2_ := Aside0.mk ((by rw [hg]; exact (below_size (by repeat (first | (with_reducible first | exact HB.out | apply below_alloc | apply pw_below_drewN | apply below_drew1) | exact HB.out))) : w.heap.size ≤ gb269)); have n3_ := Aside0.mk ((by rw [hg]; exact (below_size (by repeat (first | (with_reducible first | exact HB.out | apply below_alloc | apply pw_below_drewN | apply below_drew1) | exact HB.out))) : w.heap.size ≤ gb269)); clear HB; have HB := n0_; have BK269 := n1_; have GW269 := n2_; have GE269 := n3_; clear n0_ n1_ n2_ n3_; clear hb hbox hg) | ((with_reducible refine gate_dst (N := 2) rfl ?_); refine box_event ?hg (N := 2) ?hd (cs := #[.slice none 0 0, .slice none 0 0, .slice none 0 0]) (t := 26) ?hr ?_; (case hd => rfl); (case hg => rfl); (case hr => first | (go_simp; done) | (go_simp; rfl)); intro gb270 hg w5 hbox hb; have n0_ := Aside0.mk (blk_below (g := gb269) (o := .cells #[.slice A0_0 l0_0.length c0_0, .slice A0_1 l0_1.length c0_1, .slice A0_2 l0_2.length c0_2] 26 (0, 0)) (by (with_reducible repeat (first | refine blk_drewN ?_ _ | refine blk_drew ?_ | refine blk_alloc ?_ _)); exact BK269.out) hb); have n1_ := Aside0.mk (below_step (by repeat (first | (with_reducible first | exact HB.out | apply below_alloc | apply pw_below_drewN | apply below_drew1 | refine below_set ?_ GE269.out) | exact HB.out)) hb); have n2_ := Aside0.mk (hbox); have n3_ := Aside0.mk ((by rw [hg]; exact (below_size (by repeat (first | (with_reducible first | exact HB.out | apply below_alloc | apply pw_below_drewN | apply below_drew1 | refine below_set ?_ GE269.out) | exact HB.out))) : w.heap.size ≤ gb270)); have n4_ := Aside0.mk ((by rw [hg]; exact (below_size (by repeat (first | (with_reducible first | exact HB.out | apply below_alloc | apply pw_below_drewN | apply below_drew1 | refine below_set ?_ GE269.out) | exact HB.out))) : w.heap.size ≤ gb270)); have n5_ := Aside0.mk ((by rw [hg]; exact Nat.ne_of_lt (blk_lt (g := gb269) (o := .cells #[.slice A0_0 l0_0.length c0_0, .slice A0_1 l0_1.length c0_1, .slice A0_2 l0_2.length c0_2] 26 (0, 0)) (by (with_reducible repeat (first | refine blk_drewN ?_ _ | refine blk_drew ?_ | refine blk_alloc ?_ _)); exact BK269.out)) : gb269 ≠ gb270)); have n6_ := Aside0.mk ((by rw [hg]; exact Nat.ne_of_gt (blk_lt (g := gb269) (o := .cells #[.slice A0_0 l0_0.length c0_0, .slice A0_1 l0_1.length c0_1, .slice A0_2 l0_2.length c0_2] 26 (0, 0)) (by (with_reducible repeat (first | refine blk_drewN ?_ _ | refine blk_drew ?_ | refine blk_alloc ?_ _)); exact BK269.out)) : gb270 ≠ gb269)); clear BK269; clear HB; have BK269 := n0_; have HB := n1_; have BK270 := n2_; have GW270 := n3_; have GE270 := n4_; have NB269_270 := n5_; have NB270_269 := n6_; clear n0_ n1_ n2_ n3_ n4_ n5_ n6_; clear hb hbox hg))
 have n0_ := Aside0.mk (blk_drew BK269.out)
 have n1_ := Aside0.mk (blk_drew BK270.out)
 have n2_ := Aside0.mk (below_drew1 HB.out)
 clear BK269
 clear BK270
 clear HB
 have BK269 := n0_
 have BK270 := n1_
 have HB := n2_
 clear n0_ n1_ n2_
 refine start_ (n := 11) (S := fun w' => w'.cell? ⟨gb269, 0, none⟩ = some (.slice A0_0 l0_0.length c0_0) ∧ w'.cell? ⟨gb269, 1, none⟩ = some (.slice A0_1 l0_1.length c0_1) ∧ w'.cell? ⟨gb269, 2, none⟩ = some (.slice A0_2 l0_2.length c0_2)) (ds := []) #[false, false, false, false, false, false, false, false, false, false, false] (by kernel_rfl) rfl rfl ⟨(blk_cell BK269.out 0).trans rfl, (blk_cell BK269.out 1).trans rfl, (blk_cell BK269.out 2).trans rfl⟩ (fun hHeld => ?_); refine with_tabW laganref04_Copied.tab1 laganref04_Copied.bits1 (fun HT_ HW_ => ?_)
 generalize w5.drew = w6 at BK269 BK270 HB hHeld ⊢
 refine pure_ (i := 1) (N := some 6) (v := ?_) (a' := ?_) #[false, true, false, false, false, false, false, false, false, false, false] rfl rfl (any_of HT_.out (by kernel_rfl)) (fun _ _ _ h => h) (Or.inl ⟨by rfl, ?_⟩) ?_ ?_
 rotate_left
 ·
  intro w'
  go_simp
  with_reducible rfl
 rotate_left
 ·
  simp only [Act.put, List.setIfInBounds_toArray, List.set_cons_zero, List.set_cons_succ, i64_w, i32_w]
  rfl
 refine pure_ (i := 5) (N := some 10) (v := ?_) (a' := ?_) #[false, true, false, false, false, true, false, false, false, false, false] rfl rfl (any_of HT_.out (by kernel_rfl)) (fun _ _ _ h => h) (Or.inl ⟨by rfl, ?_⟩) ?_ ?_
 rotate_left
 ·
  intro w'
  go_simp
  with_reducible rfl
 rotate_left
 ·
  simp only [Act.put, List.setIfInBounds_toArray, List.set_cons_zero, List.set_cons_succ, i64_w, i32_w]
  rfl
 refine take_ (i := 2) (N := some 7) (v := ?_) (a' := ?_) #[false, true, true, false, false, true, false, false, false, false, false] rfl rfl (take_ofW HT_.out HW_.out (by kernel_rfl)) (fun _ _ _ h => h) (Or.inl ⟨by rfl, ?_⟩) hHeld ?_ ?_
 rotate_left
 ·
  rintro w' ⟨s0, s1, s2⟩
  go_simp
  with_reducible rfl
 rotate_left
 ·
  simp only [Act.put, List.setIfInBounds_toArray, List.set_cons_zero, List.set_cons_succ, i64_w, i32_w]
  rfl
 refine take_ (i := 6) (N := some 11) (v := ?_) (a' := ?_) #[false, true, true, false, false, true, true, false, false, false, false] rfl rfl (take_ofW HT_.out HW_.out (by kernel_rfl)) (fun _ _ _ h => h) (Or.inl ⟨by rfl, ?_⟩) hHeld ?_ ?_
 rotate_left
 ·
  rintro w' ⟨s0, s1, s2⟩
  go_simp
  with_reducible rfl
 rotate_left
 ·
  simp only [Act.put, List.setIfInBounds_toArray, List.set_cons_zero, List.set_cons_succ, i64_w, i32_w]
  rfl
 refine join_ (σ := Value × Value × Value × Value × Nat) 1 #[true, true, true, true, true, true, true, true, true, true, false] (fun s_ => [(5, s_.1), (8, s_.2.1), (9, s_.2.2.1), (12, s_.2.2.2.1), (3, .pointer (some ⟨s_.2.2.2.2, 0, none⟩)), (13, .agg #[s_.2.1, s_.2.2.2.1, .slice none 0 0])]) (fun s_ w' => (w'.cell? ⟨gb269, 0, none⟩ = some (.slice A0_0 l0_0.length c0_0) ∧ w'.cell? ⟨gb269, 1, none⟩ = some (.slice A0_1 l0_1.length c0_1) ∧ w'.cell? ⟨gb269, 2, none⟩ = some (.slice A0_2 l0_2.length c0_2)) ∧ (Kd.R (Kd.int .i64) 3 w' w.heap.size (fun _ => True) s_.2.1 y274) ∧ (Kd.R k50 50 w' w.heap.size (fun _ => True) s_.2.2.2.1 y280) ∧ (w'.heap[gb269]? = some (.cells #[.slice A0_0 l0_0.length c0_0, .slice A0_1 l0_1.length c0_1, .slice A0_2 l0_2.length c0_2] 26 (0, 0))) ∧ (w'.heap[gb270]? = some (.cells #[.slice none 0 0, .slice none 0 0, .slice none 0 0] 26 (0, 0))) ∧ (w'.heap[s_.2.2.2.2]? = some (.cells #[.slice none 0 0, .slice none 0 0, .slice none 0 0] 26 (0, 0))) ∧ (w.heap.size ≤ s_.2.2.2.2) ∧ (w.heap.size ≤ s_.2.2.2.2) ∧ (gb269 ≠ s_.2.2.2.2) ∧ (s_.2.2.2.2 ≠ gb269) ∧ (gb270 ≠ s_.2.2.2.2) ∧ (s_.2.2.2.2 ≠ gb270) ∧ (Below w.heap.size w w')) ?_ ?_
 rotate_left
 ·
  intro hJ0_3_4_7_9
  refine join_ (σ := Value × Value × Value × Value) 2 #[true, true, true, true, true, true, true, true, true, false, false] (fun s_ => [(5, s_.1), (8, s_.2.1), (9, s_.2.2.1), (12, s_.2.2.2), (13, .agg #[s_.2.1, s_.2.2.2, .slice none 0 0])]) (fun s_ w' => (w'.cell? ⟨gb269, 0, none⟩ = some (.slice A0_0 l0_0.length c0_0) ∧ w'.cell? ⟨gb269, 1, none⟩ = some (.slice A0_1 l0_1.length c0_1) ∧ w'.cell? ⟨gb269, 2, none⟩ = some (.slice A0_2 l0_2.length c0_2)) ∧ (Kd.R (Kd.int .i64) 3 w' w.heap.size (fun _ => True) s_.2.1 y274) ∧ (Kd.R k50 50 w' w.heap.size (fun _ => True) s_.2.2.2 y280) ∧ (w'.heap[gb269]? = some (.cells #[.slice A0_0 l0_0.length c0_0, .slice A0_1 l0_1.length c0_1, .slice A0_2 l0_2.length c0_2] 26 (0, 0))) ∧ (w'.heap[gb270]? = some (.cells #[.slice none 0 0, .slice none 0 0, .slice none 0 0] 26 (0, 0))) ∧ (Below w.heap.size w w')) ?_ ?_
  rotate_left
  ·
   intro hJ0_3_4_7
   refine join_ (σ := Value × Value × Value × Nat) 3 #[true, true, true, true, true, true, true, false, false, true, false] (fun s_ => [(5, s_.1), (8, s_.2.1), (9, s_.2.2.1), (3, .pointer (some ⟨s_.2.2.2, 0, none⟩))]) (fun s_ w' => (w'.cell? ⟨gb269, 0, none⟩ = some (.slice A0_0 l0_0.length c0_0) ∧ w'.cell? ⟨gb269, 1, none⟩ = some (.slice A0_1 l0_1.length c0_1) ∧ w'.cell? ⟨gb269, 2, none⟩ = some (.slice A0_2 l0_2.length c0_2)) ∧ (Kd.R (Kd.int .i64) 3 w' w.heap.size (fun _ => True) s_.2.1 y274) ∧ (Kd.R k50 50 w' w.heap.size (fun _ => True) s_.2.2.1 y277) ∧ (w'.heap[gb269]? = some (.cells #[.slice A0_0 l0_0.length c0_0, .slice A0_1 l0_1.length c0_1, .slice A0_2 l0_2.length c0_2] 26 (0, 0))) ∧ (w'.heap[gb270]? = some (.cells #[.slice none 0 0, .slice none 0 0, .slice none 0 0] 26 (0, 0))) ∧ (w'.heap[s_.2.2.2]? = some (.cells #[.slice none 0 0, .slice none 0 0, .slice none 0 0] 26 (0, 0))) ∧ (w.heap.size ≤ s_.2.2.2) ∧ (w.heap.size ≤ s_.2.2.2) ∧ (gb269 ≠ s_.2.2.2) ∧ (s_.2.2.2 ≠ gb269) ∧ (gb270 ≠ s_.2.2.2) ∧ (s_.2.2.2 ≠ gb270) ∧ (Below w.heap.size w w')) ?_ ?_
   rotate_left
   ·
    intro hJ0_3_4_9
    refine join_ (σ := Value × Value × Value) 4 #[true, true, true, true, true, true, true, false, false, false, false] (fun s_ => [(5, s_.1), (8, s_.2.1), (9, s_.2.2)]) (fun s_ w' => (w'.cell? ⟨gb269, 0, none⟩ = some (.slice A0_0 l0_0.length c0_0) ∧ w'.cell? ⟨gb269, 1, none⟩ = some (.slice A0_1 l0_1.length c0_1) ∧ w'.cell? ⟨gb269, 2, none⟩ = some (.slice A0_2 l0_2.length c0_2)) ∧ (Kd.R (Kd.int .i64) 3 w' w.heap.size (fun _ => True) s_.2.1 y274) ∧ (Kd.R k50 50 w' w.heap.size (fun _ => True) s_.2.2 y277) ∧ (w'.heap[gb269]? = some (.cells #[.slice A0_0 l0_0.length c0_0, .slice A0_1 l0_1.length c0_1, .slice A0_2 l0_2.length c0_2] 26 (0, 0))) ∧ (w'.heap[gb270]? = some (.cells #[.slice none 0 0, .slice none 0 0, .slice none 0 0] 26 (0, 0))) ∧ (Below w.heap.size w w')) ?_ ?_
    rotate_left
    ·
     intro hJ0_3_4
     refine join_ (σ := Value × Value × Nat) 4 #[true, true, true, true, false, true, true, false, false, true, false] (fun s_ => [(5, s_.1), (8, s_.2.1), (3, .pointer (some ⟨s_.2.2, 0, none⟩))]) (fun s_ w' => (w'.cell? ⟨gb269, 0, none⟩ = some (.slice A0_0 l0_0.length c0_0) ∧ w'.cell? ⟨gb269, 1, none⟩ = some (.slice A0_1 l0_1.length c0_1) ∧ w'.cell? ⟨gb269, 2, none⟩ = some (.slice A0_2 l0_2.length c0_2)) ∧ (Kd.R (Kd.int .i64) 3 w' w.heap.size (fun _ => True) s_.2.1 y274) ∧ (w'.heap[gb269]? = some (.cells #[.slice A0_0 l0_0.length c0_0, .slice A0_1 l0_1.length c0_1, .slice A0_2 l0_2.length c0_2] 26 (0, 0))) ∧ (w'.heap[gb270]? = some (.cells #[.slice none 0 0, .slice none 0 0, .slice none 0 0] 26 (0, 0))) ∧ (w'.heap[s_.2.2]? = some (.cells #[.slice none 0 0, .slice none 0 0, .slice none 0 0] 26 (0, 0))) ∧ (w.heap.size ≤ s_.2.2) ∧ (w.heap.size ≤ s_.2.2) ∧ (gb269 ≠ s_.2.2) ∧ (s_.2.2 ≠ gb269) ∧ (gb270 ≠ s_.2.2) ∧ (s_.2.2 ≠ gb270) ∧ (Below w.heap.size w w')) ?_ ?_
     rotate_left
     ·
      intro hJ0_3_9
      refine join_ (σ := Value × Value × Nat) 4 #[true, true, true, false, true, true, true, false, false, true, false] (fun s_ => [(5, s_.1), (9, s_.2.1), (3, .pointer (some ⟨s_.2.2, 0, none⟩))]) (fun s_ w' => (w'.cell? ⟨gb269, 0, none⟩ = some (.slice A0_0 l0_0.length c0_0) ∧ w'.cell? ⟨gb269, 1, none⟩ = some (.slice A0_1 l0_1.length c0_1) ∧ w'.cell? ⟨gb269, 2, none⟩ = some (.slice A0_2 l0_2.length c0_2)) ∧ (Kd.R (Kd.int .i64) 3 w' w.heap.size (fun _ => True) s_.1 y271) ∧ (Kd.R k50 50 w' w.heap.size (fun _ => True) s_.2.1 y277) ∧ (w'.heap[gb269]? = some (.cells #[.slice A0_0 l0_0.length c0_0, .slice A0_1 l0_1.length c0_1, .slice A0_2 l0_2.length c0_2] 26 (0, 0))) ∧ (w'.heap[gb270]? = some (.cells #[.slice none 0 0, .slice none 0 0, .slice none 0 0] 26 (0, 0))) ∧ (w'.heap[s_.2.2]? = some (.cells #[.slice none 0 0, .slice none 0 0, .slice none 0 0] 26 (0, 0))) ∧ (w.heap.size ≤ s_.2.2) ∧ (w.heap.size ≤ s_.2.2) ∧ (gb269 ≠ s_.2.2) ∧ (s_.2.2 ≠ gb269) ∧ (gb270 ≠ s_.2.2) ∧ (s_.2.2 ≠ gb270) ∧ (Below w.heap.size w w')) ?_ ?_
      rotate_left
      ·
       intro hJ0_4_9
       refine join_ (σ := Value × Value) 5 #[true, true, true, true, false, true, true, false, false, false, false] (fun s_ => [(5, s_.1), (8, s_.2)]) (fun s_ w' => (w'.cell? ⟨gb269, 0, none⟩ = some (.slice A0_0 l0_0.length c0_0) ∧ w'.cell? ⟨gb269, 1, none⟩ = some (.slice A0_1 l0_1.length c0_1) ∧ w'.cell? ⟨gb269, 2, none⟩ = some (.slice A0_2 l0_2.length c0_2)) ∧ (Kd.R (Kd.int .i64) 3 w' w.heap.size (fun _ => True) s_.2 y274) ∧ (w'.heap[gb269]? = some (.cells #[.slice A0_0 l0_0.length c0_0, .slice A0_1 l0_1.length c0_1, .slice A0_2 l0_2.length c0_2] 26 (0, 0))) ∧ (w'.heap[gb270]? = some (.cells #[.slice none 0 0, .slice none 0 0, .slice none 0 0] 26 (0, 0))) ∧ (Below w.heap.size w w')) ?_ ?_
       rotate_left
       ·
        intro hJ0_3
        refine join_ (σ := Value × Value) 5 #[true, true, true, false, true, true, true, false, false, false, false] (fun s_ => [(5, s_.1), (9, s_.2)]) (fun s_ w' => (w'.cell? ⟨gb269, 0, none⟩ = some (.slice A0_0 l0_0.length c0_0) ∧ w'.cell? ⟨gb269, 1, none⟩ = some (.slice A0_1 l0_1.length c0_1) ∧ w'.cell? ⟨gb269, 2, none⟩ = some (.slice A0_2 l0_2.length c0_2)) ∧ (Kd.R (Kd.int .i64) 3 w' w.heap.size (fun _ => True) s_.1 y271) ∧ (Kd.R k50 50 w' w.heap.size (fun _ => True) s_.2 y277) ∧ (w'.heap[gb269]? = some (.cells #[.slice A0_0 l0_0.length c0_0, .slice A0_1 l0_1.length c0_1, .slice A0_2 l0_2.length c0_2] 26 (0, 0))) ∧ (w'.heap[gb270]? = some (.cells #[.slice none 0 0, .slice none 0 0, .slice none 0 0] 26 (0, 0))) ∧ (Below w.heap.size w w')) ?_ ?_
        rotate_left
        ·
         intro hJ0_4
         refine join_ (σ := Value × Nat) 5 #[true, true, true, false, false, true, true, false, false, true, false] (fun s_ => [(5, s_.1), (3, .pointer (some ⟨s_.2, 0, none⟩))]) (fun s_ w' => (w'.cell? ⟨gb269, 0, none⟩ = some (.slice A0_0 l0_0.length c0_0) ∧ w'.cell? ⟨gb269, 1, none⟩ = some (.slice A0_1 l0_1.length c0_1) ∧ w'.cell? ⟨gb269, 2, none⟩ = some (.slice A0_2 l0_2.length c0_2)) ∧ (Kd.R (Kd.int .i64) 3 w' w.heap.size (fun _ => True) s_.1 y271) ∧ (w'.heap[gb269]? = some (.cells #[.slice A0_0 l0_0.length c0_0, .slice A0_1 l0_1.length c0_1, .slice A0_2 l0_2.length c0_2] 26 (0, 0))) ∧ (w'.heap[gb270]? = some (.cells #[.slice none 0 0, .slice none 0 0, .slice none 0 0] 26 (0, 0))) ∧ (w'.heap[s_.2]? = some (.cells #[.slice none 0 0, .slice none 0 0, .slice none 0 0] 26 (0, 0))) ∧ (w.heap.size ≤ s_.2) ∧ (w.heap.size ≤ s_.2) ∧ (gb269 ≠ s_.2) ∧ (s_.2 ≠ gb269) ∧ (gb270 ≠ s_.2) ∧ (s_.2 ≠ gb270) ∧ (Below w.heap.size w w')) ?_ ?_
         rotate_left
         ·
          intro hJ0_9
          refine join_ (σ := Value × Nat) 5 #[false, true, true, false, true, true, true, false, false, true, false] (fun s_ => [(9, s_.1), (3, .pointer (some ⟨s_.2, 0, none⟩))]) (fun s_ w' => (w'.cell? ⟨gb269, 0, none⟩ = some (.slice A0_0 l0_0.length c0_0) ∧ w'.cell? ⟨gb269, 1, none⟩ = some (.slice A0_1 l0_1.length c0_1) ∧ w'.cell? ⟨gb269, 2, none⟩ = some (.slice A0_2 l0_2.length c0_2)) ∧ (Kd.R k50 50 w' w.heap.size (fun _ => True) s_.1 y277) ∧ (w'.heap[gb269]? = some (.cells #[.slice A0_0 l0_0.length c0_0, .slice A0_1 l0_1.length c0_1, .slice A0_2 l0_2.length c0_2] 26 (0, 0))) ∧ (w'.heap[gb270]? = some (.cells #[.slice none 0 0, .slice none 0 0, .slice none 0 0] 26 (0, 0))) ∧ (w'.heap[s_.2]? = some (.cells #[.slice none 0 0, .slice none 0 0, .slice none 0 0] 26 (0, 0))) ∧ (w.heap.size ≤ s_.2) ∧ (w.heap.size ≤ s_.2) ∧ (gb269 ≠ s_.2) ∧ (s_.2 ≠ gb269) ∧ (gb270 ≠ s_.2) ∧ (s_.2 ≠ gb270) ∧ (Below w.heap.size w w')) ?_ ?_
          rotate_left
          ·
           intro hJ4_9
           refine join_ (σ := Value) 6 #[true, true, true, false, false, true, true, false, false, false, false] (fun s_ => [(5, s_)]) (fun s_ w' => (w'.cell? ⟨gb269, 0, none⟩ = some (.slice A0_0 l0_0.length c0_0) ∧ w'.cell? ⟨gb269, 1, none⟩ = some (.slice A0_1 l0_1.length c0_1) ∧ w'.cell? ⟨gb269, 2, none⟩ = some (.slice A0_2 l0_2.length c0_2)) ∧ (Kd.R (Kd.int .i64) 3 w' w.heap.size (fun _ => True) s_ y271) ∧ (w'.heap[gb269]? = some (.cells #[.slice A0_0 l0_0.length c0_0, .slice A0_1 l0_1.length c0_1, .slice A0_2 l0_2.length c0_2] 26 (0, 0))) ∧ (w'.heap[gb270]? = some (.cells #[.slice none 0 0, .slice none 0 0, .slice none 0 0] 26 (0, 0))) ∧ (Below w.heap.size w w')) ?_ ?_
           rotate_left
           ·
            intro hJ0
            refine join_ (σ := Value) 6 #[false, true, true, false, true, true, true, false, false, false, false] (fun s_ => [(9, s_)]) (fun s_ w' => (w'.cell? ⟨gb269, 0, none⟩ = some (.slice A0_0 l0_0.length c0_0) ∧ w'.cell? ⟨gb269, 1, none⟩ = some (.slice A0_1 l0_1.length c0_1) ∧ w'.cell? ⟨gb269, 2, none⟩ = some (.slice A0_2 l0_2.length c0_2)) ∧ (Kd.R k50 50 w' w.heap.size (fun _ => True) s_ y277) ∧ (w'.heap[gb269]? = some (.cells #[.slice A0_0 l0_0.length c0_0, .slice A0_1 l0_1.length c0_1, .slice A0_2 l0_2.length c0_2] 26 (0, 0))) ∧ (w'.heap[gb270]? = some (.cells #[.slice none 0 0, .slice none 0 0, .slice none 0 0] 26 (0, 0))) ∧ (Below w.heap.size w w')) ?_ ?_
            rotate_left
            ·
             intro hJ4
             refine join_ (σ := Nat) 6 #[false, true, true, false, false, true, true, false, false, true, false] (fun s_ => [(3, .pointer (some ⟨s_, 0, none⟩))]) (fun s_ w' => (w'.cell? ⟨gb269, 0, none⟩ = some (.slice A0_0 l0_0.length c0_0) ∧ w'.cell? ⟨gb269, 1, none⟩ = some (.slice A0_1 l0_1.length c0_1) ∧ w'.cell? ⟨gb269, 2, none⟩ = some (.slice A0_2 l0_2.length c0_2)) ∧ (w'.heap[gb269]? = some (.cells #[.slice A0_0 l0_0.length c0_0, .slice A0_1 l0_1.length c0_1, .slice A0_2 l0_2.length c0_2] 26 (0, 0))) ∧ (w'.heap[gb270]? = some (.cells #[.slice none 0 0, .slice none 0 0, .slice none 0 0] 26 (0, 0))) ∧ (w'.heap[s_]? = some (.cells #[.slice none 0 0, .slice none 0 0, .slice none 0 0] 26 (0, 0))) ∧ (w.heap.size ≤ s_) ∧ (w.heap.size ≤ s_) ∧ (gb269 ≠ s_) ∧ (s_ ≠ gb269) ∧ (gb270 ≠ s_) ∧ (s_ ≠ gb270) ∧ (Below w.heap.size w w')) ?_ ?_
             rotate_left
             ·
              intro hJ9
              refine three_ (i := 0) (j := 4) (k := 9) (Ni := some 5) (Nj := some 9) (Nk := some 3) #[true, true, true, false, false, true, true, false, false, false, false] #[false, true, true, false, true, true, true, false, false, false, false] #[false, true, true, false, false, true, true, false, false, true, false] rfl rfl rfl rfl rfl rfl (three_of HT_.out (by kernel_rfl)) (by decide) (by decide) (by decide) (fun K hK => ?_) (fun K hK => ?_) (fun K hK => ?_)
              ·
               skip
               refine Kd.R_lit_step (Kd.int .i64) _ 3 ?hg (N := 5) ?hd (xs := ([] : List Int)) (inner := []) (ok := fun _ => True) (okp := fun _ => True) ?hr ?hp (fun _ hk => hk) trivial (Below.refl _ _) (Nat.le_refl _) (by simp) ?_; (case hd => rfl); (case hg => rfl); (case hr => first | (go_simp; done) | (go_simp; rfl)); (case hp => exact (Reps.none _ _))
               intro v272 w7 ho8 hb hg_ hnew_
               clear hg_ hnew_
               (first | rw [← Ny271.out] at ho8 | (simp only [Int.reduceToNat] at ho8; rw [← Ny271.out] at ho8))
               have n0_ := Aside0.mk (Kd.R_lower ho8 (below_size (by repeat (first | (with_reducible first | exact HB.out | apply below_alloc | apply pw_below_drewN | apply below_drew1 | refine below_set ?_ GE269.out | refine below_set ?_ GE270.out) | exact HB.out))))
               have n1_ := Aside0.mk (blk_below (g := gb269) (o := .cells #[.slice A0_0 l0_0.length c0_0, .slice A0_1 l0_1.length c0_1, .slice A0_2 l0_2.length c0_2] 26 (0, 0)) (by (with_reducible repeat (first | refine blk_drewN ?_ _ | refine blk_drew ?_ | refine blk_alloc ?_ _)); exact BK269.out) hb)
               have n2_ := Aside0.mk (blk_below (g := gb270) (o := .cells #[.slice none 0 0, .slice none 0 0, .slice none 0 0] 26 (0, 0)) (by (with_reducible repeat (first | refine blk_drewN ?_ _ | refine blk_drew ?_ | refine blk_alloc ?_ _)); exact BK270.out) hb)
               have n3_ := Aside0.mk (below_step (by repeat (first | (with_reducible first | exact HB.out | apply below_alloc | apply pw_below_drewN | apply below_drew1 | refine below_set ?_ GE269.out | refine below_set ?_ GE270.out) | exact HB.out)) hb)
               clear BK269
               clear BK270
               clear HB
               have HO273 := n0_
               have BK269 := n1_
               have BK270 := n2_
               have HB := n3_
               clear n0_ n1_ n2_ n3_
               clear hb ho8
               refine hK.out _ _ ⟨(blk_cell BK269.out 0).trans rfl, (blk_cell BK269.out 1).trans rfl, (blk_cell BK269.out 2).trans rfl⟩ (fun hHeld => ?_)
               clear hK K
               refine norm_ (a' := ?_) ?_ ?_
               rotate_left
               ·
                show Act.put _ (some 5) _ = _
                simp only [Act.put, List.setIfInBounds_toArray, List.set_cons_zero, List.set_cons_succ, i64_w, i32_w]
                rfl
               exact norm_ (by first | (simp only [putAll, Act.put, List.setIfInBounds_toArray, List.set_cons_zero, List.set_cons_succ]; done) | (simp only [putAll, Act.put, List.setIfInBounds_toArray, List.set_cons_zero, List.set_cons_succ]; rfl)) (hJ0 (v272) _ ⟨hHeld, (by (with_reducible repeat (first | apply Kd.R_alloc | apply Kd.R_drewN | apply Kd.R_drew)); exact HO273.out), (by (with_reducible repeat (first | refine blk_drewN ?_ _ | refine blk_drew ?_ | refine blk_alloc ?_ _)); exact BK269.out), (by (with_reducible repeat (first | refine blk_drewN ?_ _ | refine blk_drew ?_ | refine blk_alloc ?_ _)); exact BK270.out), (by repeat (first | (with_reducible first | exact HB.out | apply below_alloc | apply pw_below_drewN | apply below_drew1 | refine below_set ?_ GE269.out | refine below_set ?_ GE270.out) | exact HB.out))⟩)
              ·
               skip
               refine Kd.R_lit_step k50 _ 50 ?hg (N := 9) ?hd (xs := ([] : List (S50))) (inner := []) (ok := fun _ => True) (okp := fun _ => True) ?hr ?hp (fun _ hk => hk) trivial (Below.refl _ _) (Nat.le_refl _) (by simp) ?_; (case hd => rfl); (case hg => rfl); (case hr => first | (go_simp; done) | (go_simp; rfl)); (case hp => exact (Reps.none _ _))
               intro v278 w7 ho8 hb hg_ hnew_
               clear hg_ hnew_
               (first | rw [← Ny277.out] at ho8 | (simp only [Int.reduceToNat] at ho8; rw [← Ny277.out] at ho8))
               have n0_ := Aside0.mk (Kd.R_lower ho8 (below_size (by repeat (first | (with_reducible first | exact HB.out | apply below_alloc | apply pw_below_drewN | apply below_drew1 | refine below_set ?_ GE269.out | refine below_set ?_ GE270.out) | exact HB.out))))
               have n1_ := Aside0.mk (blk_below (g := gb269) (o := .cells #[.slice A0_0 l0_0.length c0_0, .slice A0_1 l0_1.length c0_1, .slice A0_2 l0_2.length c0_2] 26 (0, 0)) (by (with_reducible repeat (first | refine blk_drewN ?_ _ | refine blk_drew ?_ | refine blk_alloc ?_ _)); exact BK269.out) hb)
               have n2_ := Aside0.mk (blk_below (g := gb270) (o := .cells #[.slice none 0 0, .slice none 0 0, .slice none 0 0] 26 (0, 0)) (by (with_reducible repeat (first | refine blk_drewN ?_ _ | refine blk_drew ?_ | refine blk_alloc ?_ _)); exact BK270.out) hb)
               have n3_ := Aside0.mk (below_step (by repeat (first | (with_reducible first | exact HB.out | apply below_alloc | apply pw_below_drewN | apply below_drew1 | refine below_set ?_ GE269.out | refine below_set ?_ GE270.out) | exact HB.out)) hb)
               clear BK269
               clear BK270
               clear HB
               have HO279 := n0_
               have BK269 := n1_
               have BK270 := n2_
               have HB := n3_
               clear n0_ n1_ n2_ n3_
               clear hb ho8
               refine hK.out _ _ ⟨(blk_cell BK269.out 0).trans rfl, (blk_cell BK269.out 1).trans rfl, (blk_cell BK269.out 2).trans rfl⟩ (fun hHeld => ?_)
               clear hK K
               refine norm_ (a' := ?_) ?_ ?_
               rotate_left
               ·
                show Act.put _ (some 9) _ = _
                simp only [Act.put, List.setIfInBounds_toArray, List.set_cons_zero, List.set_cons_succ, i64_w, i32_w]
                rfl
               exact norm_ (by first | (simp only [putAll, Act.put, List.setIfInBounds_toArray, List.set_cons_zero, List.set_cons_succ]; done) | (simp only [putAll, Act.put, List.setIfInBounds_toArray, List.set_cons_zero, List.set_cons_succ]; rfl)) (hJ4 (v278) _ ⟨hHeld, (by (with_reducible repeat (first | apply Kd.R_alloc | apply Kd.R_drewN | apply Kd.R_drew)); exact HO279.out), (by (with_reducible repeat (first | refine blk_drewN ?_ _ | refine blk_drew ?_ | refine blk_alloc ?_ _)); exact BK269.out), (by (with_reducible repeat (first | refine blk_drewN ?_ _ | refine blk_drew ?_ | refine blk_alloc ?_ _)); exact BK270.out), (by repeat (first | (with_reducible first | exact HB.out | apply below_alloc | apply pw_below_drewN | apply below_drew1 | refine below_set ?_ GE269.out | refine below_set ?_ GE270.out) | exact HB.out))⟩)
              skip
              refine box_step ?hg (N := 3) ?hd (cs := #[.slice none 0 0, .slice none 0 0, .slice none 0 0]) (t := 26) ?hr ?_; (case hd => rfl); (case hg => rfl); (case hr => first | (go_simp; done) | (go_simp; rfl))
              intro gb283 hg w7 hbox hb
              have n0_ := Aside0.mk (blk_below (g := gb269) (o := .cells #[.slice A0_0 l0_0.length c0_0, .slice A0_1 l0_1.length c0_1, .slice A0_2 l0_2.length c0_2] 26 (0, 0)) (by (with_reducible repeat (first | refine blk_drewN ?_ _ | refine blk_drew ?_ | refine blk_alloc ?_ _)); exact BK269.out) hb)
              have n1_ := Aside0.mk (blk_below (g := gb270) (o := .cells #[.slice none 0 0, .slice none 0 0, .slice none 0 0] 26 (0, 0)) (by (with_reducible repeat (first | refine blk_drewN ?_ _ | refine blk_drew ?_ | refine blk_alloc ?_ _)); exact BK270.out) hb)
              have n2_ := Aside0.mk (below_step (by repeat (first | (with_reducible first | exact HB.out | apply below_alloc | apply pw_below_drewN | apply below_drew1 | refine below_set ?_ GE269.out | refine below_set ?_ GE270.out) | exact HB.out)) hb)
              have n3_ := Aside0.mk (hbox)
              have n4_ := Aside0.mk ((by rw [hg]; exact (below_size (by repeat (first | (with_reducible first | exact HB.out | apply below_alloc | apply pw_below_drewN | apply below_drew1 | refine below_set ?_ GE269.out | refine below_set ?_ GE270.out) | exact HB.out))) : w.heap.size ≤ gb283))
              have n5_ := Aside0.mk ((by rw [hg]; exact (below_size (by repeat (first | (with_reducible first | exact HB.out | apply below_alloc | apply pw_below_drewN | apply below_drew1 | refine below_set ?_ GE269.out | refine below_set ?_ GE270.out) | exact HB.out))) : w.heap.size ≤ gb283))
              have n6_ := Aside0.mk ((by rw [hg]; exact Nat.ne_of_lt (blk_lt (g := gb269) (o := .cells #[.slice A0_0 l0_0.length c0_0, .slice A0_1 l0_1.length c0_1, .slice A0_2 l0_2.length c0_2] 26 (0, 0)) (by (with_reducible repeat (first | refine blk_drewN ?_ _ | refine blk_drew ?_ | refine blk_alloc ?_ _)); exact BK269.out)) : gb269 ≠ gb283))
              have n7_ := Aside0.mk ((by rw [hg]; exact Nat.ne_of_gt (blk_lt (g := gb269) (o := .cells #[.slice A0_0 l0_0.length c0_0, .slice A0_1 l0_1.length c0_1, .slice A0_2 l0_2.length c0_2] 26 (0, 0)) (by (with_reducible repeat (first | refine blk_drewN ?_ _ | refine blk_drew ?_ | refine blk_alloc ?_ _)); exact BK269.out)) : gb283 ≠ gb269))
              have n8_ := Aside0.mk ((by rw [hg]; exact Nat.ne_of_lt (blk_lt (g := gb270) (o := .cells #[.slice none 0 0, .slice none 0 0, .slice none 0 0] 26 (0, 0)) (by (with_reducible repeat (first | refine blk_drewN ?_ _ | refine blk_drew ?_ | refine blk_alloc ?_ _)); exact BK270.out)) : gb270 ≠ gb283))
              have n9_ := Aside0.mk ((by rw [hg]; exact Nat.ne_of_gt (blk_lt (g := gb270) (o := .cells #[.slice none 0 0, .slice none 0 0, .slice none 0 0] 26 (0, 0)) (by (with_reducible repeat (first | refine blk_drewN ?_ _ | refine blk_drew ?_ | refine blk_alloc ?_ _)); exact BK270.out)) : gb283 ≠ gb270))
              clear BK269
              clear BK270
              clear HB
              have BK269 := n0_
              have BK270 := n1_
              have HB := n2_
              have BK283 := n3_
              have GW283 := n4_
              have GE283 := n5_
              have NB269_283 := n6_
              have NB283_269 := n7_
              have NB270_283 := n8_
              have NB283_270 := n9_
              clear n0_ n1_ n2_ n3_ n4_ n5_ n6_ n7_ n8_ n9_
              clear hb hbox hg
              refine hK.out _ _ ⟨(blk_cell BK269.out 0).trans rfl, (blk_cell BK269.out 1).trans rfl, (blk_cell BK269.out 2).trans rfl⟩ (fun hHeld => ?_)
              clear hK K
              refine norm_ (a' := ?_) ?_ ?_
              rotate_left
              ·
               show Act.put _ (some 3) _ = _
               simp only [Act.put, List.setIfInBounds_toArray, List.set_cons_zero, List.set_cons_succ, i64_w, i32_w]
               rfl
              exact norm_ (by first | (simp only [putAll, Act.put, List.setIfInBounds_toArray, List.set_cons_zero, List.set_cons_succ]; done) | (simp only [putAll, Act.put, List.setIfInBounds_toArray, List.set_cons_zero, List.set_cons_succ]; rfl)) (hJ9 (gb283) _ ⟨hHeld, (by (with_reducible repeat (first | refine blk_drewN ?_ _ | refine blk_drew ?_ | refine blk_alloc ?_ _)); exact BK269.out), (by (with_reducible repeat (first | refine blk_drewN ?_ _ | refine blk_drew ?_ | refine blk_alloc ?_ _)); exact BK270.out), (by (with_reducible repeat (first | refine blk_drewN ?_ _ | refine blk_drew ?_ | refine blk_alloc ?_ _)); exact BK283.out), GW283.out, GE283.out, NB269_283.out, NB283_269.out, NB270_283.out, NB283_270.out, (by repeat (first | (with_reducible first | exact HB.out | apply below_alloc | apply pw_below_drewN | apply below_drew1 | refine below_set ?_ GE269.out | refine below_set ?_ GE270.out | refine below_set ?_ GE283.out) | exact HB.out))⟩)
             skip
             rintro gb283 w8 ⟨hS_, h0_, h1_, h2_, h3_, h4_, h5_, h6_, h7_, h8_, h9_⟩
             have n0_ : Aside0 (w8.heap[gb269]? = some (.cells #[.slice A0_0 l0_0.length c0_0, .slice A0_1 l0_1.length c0_1, .slice A0_2 l0_2.length c0_2] 26 (0, 0))) := ⟨h0_⟩
             have n1_ : Aside0 (w8.heap[gb270]? = some (.cells #[.slice none 0 0, .slice none 0 0, .slice none 0 0] 26 (0, 0))) := ⟨h1_⟩
             have n2_ : Aside0 (w8.heap[gb283]? = some (.cells #[.slice none 0 0, .slice none 0 0, .slice none 0 0] 26 (0, 0))) := ⟨h2_⟩
             have n3_ : Aside0 (w.heap.size ≤ gb283) := ⟨h3_⟩
             have n4_ : Aside0 (w.heap.size ≤ gb283) := ⟨h4_⟩
             have n5_ : Aside0 (gb269 ≠ gb283) := ⟨h5_⟩
             have n6_ : Aside0 (gb283 ≠ gb269) := ⟨h6_⟩
             have n7_ : Aside0 (gb270 ≠ gb283) := ⟨h7_⟩
             have n8_ : Aside0 (gb283 ≠ gb270) := ⟨h8_⟩
             have n9_ : Aside0 (Below w.heap.size w w8) := ⟨h9_⟩
             clear BK269
             clear BK270
             clear HB
             clear h0_ h1_ h2_ h3_ h4_ h5_ h6_ h7_ h8_ h9_
             have BK269 := n0_
             have BK270 := n1_
             have BK283 := n2_
             have GW283 := n3_
             have GE283 := n4_
             have NB269_283 := n5_
             have NB283_269 := n6_
             have NB270_283 := n7_
             have NB283_270 := n8_
             have HB := n9_
             clear n0_ n1_ n2_ n3_ n4_ n5_ n6_ n7_ n8_ n9_
             have hHeld : w8.cell? ⟨gb269, 0, none⟩ = some (.slice A0_0 l0_0.length c0_0) ∧ w8.cell? ⟨gb269, 1, none⟩ = some (.slice A0_1 l0_1.length c0_1) ∧ w8.cell? ⟨gb269, 2, none⟩ = some (.slice A0_2 l0_2.length c0_2) := hS_
             refine norm_ (a' := ?_) ?_ ?_
             rotate_left
             ·
              simp only [putAll, Act.put, List.setIfInBounds_toArray, List.set_cons_zero, List.set_cons_succ]
              rfl
             refine two_ (i := 0) (j := 4) (Ni := some 5) (Nj := some 9) #[true, true, true, false, false, true, true, false, false, true, false] #[false, true, true, false, true, true, true, false, false, true, false] rfl rfl rfl rfl (two_of HT_.out (by kernel_rfl)) (by decide) (by decide) (fun K hK => ?_) (fun K hK => ?_)
             ·
              skip
              refine Kd.R_lit_step (Kd.int .i64) _ 3 ?hg (N := 5) ?hd (xs := ([] : List Int)) (inner := []) (ok := fun _ => True) (okp := fun _ => True) ?hr ?hp (fun _ hk => hk) trivial (Below.refl _ _) (Nat.le_refl _) (by simp) ?_; (case hd => rfl); (case hg => rfl); (case hr => first | (go_simp; done) | (go_simp; rfl)); (case hp => exact (Reps.none _ _))
              intro v272 w9 ho10 hb hg_ hnew_
              clear hg_ hnew_
              (first | rw [← Ny271.out] at ho10 | (simp only [Int.reduceToNat] at ho10; rw [← Ny271.out] at ho10))
              have n0_ := Aside0.mk (Kd.R_lower ho10 (below_size (by repeat (first | (with_reducible first | exact HB.out | apply below_alloc | apply pw_below_drewN | apply below_drew1 | refine below_set ?_ GE269.out | refine below_set ?_ GE270.out | refine below_set ?_ GE283.out) | exact HB.out))))
              have n1_ := Aside0.mk (blk_below (g := gb269) (o := .cells #[.slice A0_0 l0_0.length c0_0, .slice A0_1 l0_1.length c0_1, .slice A0_2 l0_2.length c0_2] 26 (0, 0)) (by (with_reducible repeat (first | refine blk_drewN ?_ _ | refine blk_drew ?_ | refine blk_alloc ?_ _)); exact BK269.out) hb)
              have n2_ := Aside0.mk (blk_below (g := gb270) (o := .cells #[.slice none 0 0, .slice none 0 0, .slice none 0 0] 26 (0, 0)) (by (with_reducible repeat (first | refine blk_drewN ?_ _ | refine blk_drew ?_ | refine blk_alloc ?_ _)); exact BK270.out) hb)
              have n3_ := Aside0.mk (blk_below (g := gb283) (o := .cells #[.slice none 0 0, .slice none 0 0, .slice none 0 0] 26 (0, 0)) (by (with_reducible repeat (first | refine blk_drewN ?_ _ | refine blk_drew ?_ | refine blk_alloc ?_ _)); exact BK283.out) hb)
              have n4_ := Aside0.mk (below_step (by repeat (first | (with_reducible first | exact HB.out | apply below_alloc | apply pw_below_drewN | apply below_drew1 | refine below_set ?_ GE269.out | refine below_set ?_ GE270.out | refine below_set ?_ GE283.out) | exact HB.out)) hb)
              clear BK269
              clear BK270
              clear BK283
              clear HB
              have HO273 := n0_
              have BK269 := n1_
              have BK270 := n2_
              have BK283 := n3_
              have HB := n4_
              clear n0_ n1_ n2_ n3_ n4_
              clear hb ho10
              refine hK.out _ _ ⟨(blk_cell BK269.out 0).trans rfl, (blk_cell BK269.out 1).trans rfl, (blk_cell BK269.out 2).trans rfl⟩ (fun hHeld => ?_)
              clear hK K
              refine norm_ (a' := ?_) ?_ ?_
              rotate_left
              ·
               show Act.put _ (some 5) _ = _
               simp only [Act.put, List.setIfInBounds_toArray, List.set_cons_zero, List.set_cons_succ, i64_w, i32_w]
               rfl
              exact norm_ (by first | (simp only [putAll, Act.put, List.setIfInBounds_toArray, List.set_cons_zero, List.set_cons_succ]; done) | (simp only [putAll, Act.put, List.setIfInBounds_toArray, List.set_cons_zero, List.set_cons_succ]; rfl)) (hJ0_9 (v272, gb283) _ ⟨hHeld, (by (with_reducible repeat (first | apply Kd.R_alloc | apply Kd.R_drewN | apply Kd.R_drew)); exact HO273.out), (by (with_reducible repeat (first | refine blk_drewN ?_ _ | refine blk_drew ?_ | refine blk_alloc ?_ _)); exact BK269.out), (by (with_reducible repeat (first | refine blk_drewN ?_ _ | refine blk_drew ?_ | refine blk_alloc ?_ _)); exact BK270.out), (by (with_reducible repeat (first | refine blk_drewN ?_ _ | refine blk_drew ?_ | refine blk_alloc ?_ _)); exact BK283.out), GW283.out, GE283.out, NB269_283.out, NB283_269.out, NB270_283.out, NB283_270.out, (by repeat (first | (with_reducible first | exact HB.out | apply below_alloc | apply pw_below_drewN | apply below_drew1 | refine below_set ?_ GE269.out | refine below_set ?_ GE270.out | refine below_set ?_ GE283.out) | exact HB.out))⟩)
             skip
             refine Kd.R_lit_step k50 _ 50 ?hg (N := 9) ?hd (xs := ([] : List (S50))) (inner := []) (ok := fun _ => True) (okp := fun _ => True) ?hr ?hp (fun _ hk => hk) trivial (Below.refl _ _) (Nat.le_refl _) (by simp) ?_; (case hd => rfl); (case hg => rfl); (case hr => first | (go_simp; done) | (go_simp; rfl)); (case hp => exact (Reps.none _ _))
             intro v278 w9 ho10 hb hg_ hnew_
             clear hg_ hnew_
             (first | rw [← Ny277.out] at ho10 | (simp only [Int.reduceToNat] at ho10; rw [← Ny277.out] at ho10))
             have n0_ := Aside0.mk (Kd.R_lower ho10 (below_size (by repeat (first | (with_reducible first | exact HB.out | apply below_alloc | apply pw_below_drewN | apply below_drew1 | refine below_set ?_ GE269.out | refine below_set ?_ GE270.out | refine below_set ?_ GE283.out) | exact HB.out))))
             have n1_ := Aside0.mk (blk_below (g := gb269) (o := .cells #[.slice A0_0 l0_0.length c0_0, .slice A0_1 l0_1.length c0_1, .slice A0_2 l0_2.length c0_2] 26 (0, 0)) (by (with_reducible repeat (first | refine blk_drewN ?_ _ | refine blk_drew ?_ | refine blk_alloc ?_ _)); exact BK269.out) hb)
             have n2_ := Aside0.mk (blk_below (g := gb270) (o := .cells #[.slice none 0 0, .slice none 0 0, .slice none 0 0] 26 (0, 0)) (by (with_reducible repeat (first | refine blk_drewN ?_ _ | refine blk_drew ?_ | refine blk_alloc ?_ _)); exact BK270.out) hb)
             have n3_ := Aside0.mk (blk_below (g := gb283) (o := .cells #[.slice none 0 0, .slice none 0 0, .slice none 0 0] 26 (0, 0)) (by (with_reducible repeat (first | refine blk_drewN ?_ _ | refine blk_drew ?_ | refine blk_alloc ?_ _)); exact BK283.out) hb)
             have n4_ := Aside0.mk (below_step (by repeat (first | (with_reducible first | exact HB.out | apply below_alloc | apply pw_below_drewN | apply below_drew1 | refine below_set ?_ GE269.out | refine below_set ?_ GE270.out | refine below_set ?_ GE283.out) | exact HB.out)) hb)
             clear BK269
             clear BK270
             clear BK283
             clear HB
             have HO279 := n0_
             have BK269 := n1_
             have BK270 := n2_
             have BK283 := n3_
             have HB := n4_
             clear n0_ n1_ n2_ n3_ n4_
             clear hb ho10
             refine hK.out _ _ ⟨(blk_cell BK269.out 0).trans rfl, (blk_cell BK269.out 1).trans rfl, (blk_cell BK269.out 2).trans rfl⟩ (fun hHeld => ?_)
             clear hK K
             refine norm_ (a' := ?_) ?_ ?_
             rotate_left
             ·
              show Act.put _ (some 9) _ = _
              simp only [Act.put, List.setIfInBounds_toArray, List.set_cons_zero, List.set_cons_succ, i64_w, i32_w]
              rfl
             exact norm_ (by first | (simp only [putAll, Act.put, List.setIfInBounds_toArray, List.set_cons_zero, List.set_cons_succ]; done) | (simp only [putAll, Act.put, List.setIfInBounds_toArray, List.set_cons_zero, List.set_cons_succ]; rfl)) (hJ4_9 (v278, gb283) _ ⟨hHeld, (by (with_reducible repeat (first | apply Kd.R_alloc | apply Kd.R_drewN | apply Kd.R_drew)); exact HO279.out), (by (with_reducible repeat (first | refine blk_drewN ?_ _ | refine blk_drew ?_ | refine blk_alloc ?_ _)); exact BK269.out), (by (with_reducible repeat (first | refine blk_drewN ?_ _ | refine blk_drew ?_ | refine blk_alloc ?_ _)); exact BK270.out), (by (with_reducible repeat (first | refine blk_drewN ?_ _ | refine blk_drew ?_ | refine blk_alloc ?_ _)); exact BK283.out), GW283.out, GE283.out, NB269_283.out, NB283_269.out, NB270_283.out, NB283_270.out, (by repeat (first | (with_reducible first | exact HB.out | apply below_alloc | apply pw_below_drewN | apply below_drew1 | refine below_set ?_ GE269.out | refine below_set ?_ GE270.out | refine below_set ?_ GE283.out) | exact HB.out))⟩)
            skip
            rintro v278 w9 ⟨hS_, h0_, h1_, h2_, h3_⟩
            have n0_ : Aside0 (Kd.R k50 50 w9 w.heap.size (fun _ => True) v278 y277) := ⟨h0_⟩
            have n1_ : Aside0 (w9.heap[gb269]? = some (.cells #[.slice A0_0 l0_0.length c0_0, .slice A0_1 l0_1.length c0_1, .slice A0_2 l0_2.length c0_2] 26 (0, 0))) := ⟨h1_⟩
            have n2_ : Aside0 (w9.heap[gb270]? = some (.cells #[.slice none 0 0, .slice none 0 0, .slice none 0 0] 26 (0, 0))) := ⟨h2_⟩
            have n3_ : Aside0 (Below w.heap.size w w9) := ⟨h3_⟩
            clear BK269
            clear BK270
            clear HB
            clear h0_ h1_ h2_ h3_
            have HO279 := n0_
            have BK269 := n1_
            have BK270 := n2_
            have HB := n3_
            clear n0_ n1_ n2_ n3_
            have hHeld : w9.cell? ⟨gb269, 0, none⟩ = some (.slice A0_0 l0_0.length c0_0) ∧ w9.cell? ⟨gb269, 1, none⟩ = some (.slice A0_1 l0_1.length c0_1) ∧ w9.cell? ⟨gb269, 2, none⟩ = some (.slice A0_2 l0_2.length c0_2) := hS_
            refine norm_ (a' := ?_) ?_ ?_
            rotate_left
            ·
             simp only [putAll, Act.put, List.setIfInBounds_toArray, List.set_cons_zero, List.set_cons_succ]
             rfl
            refine two_ (i := 0) (j := 9) (Ni := some 5) (Nj := some 3) #[true, true, true, false, true, true, true, false, false, false, false] #[false, true, true, false, true, true, true, false, false, true, false] rfl rfl rfl rfl (two_of HT_.out (by kernel_rfl)) (by decide) (by decide) (fun K hK => ?_) (fun K hK => ?_)
            ·
             skip
             refine Kd.R_lit_step (Kd.int .i64) _ 3 ?hg (N := 5) ?hd (xs := ([] : List Int)) (inner := []) (ok := fun _ => True) (okp := fun _ => True) ?hr ?hp (fun _ hk => hk) trivial (Below.refl _ _) (Nat.le_refl _) (by simp) ?_; (case hd => rfl); (case hg => rfl); (case hr => first | (go_simp; done) | (go_simp; rfl)); (case hp => exact (Reps.none _ _))
             intro v272 w10 ho11 hb hg_ hnew_
             clear hg_ hnew_
             (first | rw [← Ny271.out] at ho11 | (simp only [Int.reduceToNat] at ho11; rw [← Ny271.out] at ho11))
             have n0_ := Aside0.mk (Kd.R_below (by (with_reducible repeat (first | apply Kd.R_alloc | apply Kd.R_drewN | apply Kd.R_drew)); exact HO279.out) hb)
             have n1_ := Aside0.mk (Kd.R_lower ho11 (below_size (by repeat (first | (with_reducible first | exact HB.out | apply below_alloc | apply pw_below_drewN | apply below_drew1 | refine below_set ?_ GE269.out | refine below_set ?_ GE270.out) | exact HB.out))))
             have n2_ := Aside0.mk (blk_below (g := gb269) (o := .cells #[.slice A0_0 l0_0.length c0_0, .slice A0_1 l0_1.length c0_1, .slice A0_2 l0_2.length c0_2] 26 (0, 0)) (by (with_reducible repeat (first | refine blk_drewN ?_ _ | refine blk_drew ?_ | refine blk_alloc ?_ _)); exact BK269.out) hb)
             have n3_ := Aside0.mk (blk_below (g := gb270) (o := .cells #[.slice none 0 0, .slice none 0 0, .slice none 0 0] 26 (0, 0)) (by (with_reducible repeat (first | refine blk_drewN ?_ _ | refine blk_drew ?_ | refine blk_alloc ?_ _)); exact BK270.out) hb)
             have n4_ := Aside0.mk (below_step (by repeat (first | (with_reducible first | exact HB.out | apply below_alloc | apply pw_below_drewN | apply below_drew1 | refine below_set ?_ GE269.out | refine below_set ?_ GE270.out) | exact HB.out)) hb)
             clear HO279
             clear BK269
             clear BK270
             clear HB
             have HO279 := n0_
             have HO273 := n1_
             have BK269 := n2_
             have BK270 := n3_
             have HB := n4_
             clear n0_ n1_ n2_ n3_ n4_
             clear hb ho11
             refine hK.out _ _ ⟨(blk_cell BK269.out 0).trans rfl, (blk_cell BK269.out 1).trans rfl, (blk_cell BK269.out 2).trans rfl⟩ (fun hHeld => ?_)
             clear hK K
             refine norm_ (a' := ?_) ?_ ?_
             rotate_left
             ·
              show Act.put _ (some 5) _ = _
              simp only [Act.put, List.setIfInBounds_toArray, List.set_cons_zero, List.set_cons_succ, i64_w, i32_w]
              rfl
             exact norm_ (by first | (simp only [putAll, Act.put, List.setIfInBounds_toArray, List.set_cons_zero, List.set_cons_succ]; done) | (simp only [putAll, Act.put, List.setIfInBounds_toArray, List.set_cons_zero, List.set_cons_succ]; rfl)) (hJ0_4 (v272, v278) _ ⟨hHeld, (by (with_reducible repeat (first | apply Kd.R_alloc | apply Kd.R_drewN | apply Kd.R_drew)); exact HO273.out), (by (with_reducible repeat (first | apply Kd.R_alloc | apply Kd.R_drewN | apply Kd.R_drew)); exact HO279.out), (by (with_reducible repeat (first | refine blk_drewN ?_ _ | refine blk_drew ?_ | refine blk_alloc ?_ _)); exact BK269.out), (by (with_reducible repeat (first | refine blk_drewN ?_ _ | refine blk_drew ?_ | refine blk_alloc ?_ _)); exact BK270.out), (by repeat (first | (with_reducible first | exact HB.out | apply below_alloc | apply pw_below_drewN | apply below_drew1 | refine below_set ?_ GE269.out | refine below_set ?_ GE270.out) | exact HB.out))⟩)
            skip
            refine box_step ?hg (N := 3) ?hd (cs := #[.slice none 0 0, .slice none 0 0, .slice none 0 0]) (t := 26) ?hr ?_; (case hd => rfl); (case hg => rfl); (case hr => first | (go_simp; done) | (go_simp; rfl))
            intro gb283 hg w10 hbox hb
            have n0_ := Aside0.mk (Kd.R_below (by (with_reducible repeat (first | apply Kd.R_alloc | apply Kd.R_drewN | apply Kd.R_drew)); exact HO279.out) hb)
            have n1_ := Aside0.mk (blk_below (g := gb269) (o := .cells #[.slice A0_0 l0_0.length c0_0, .slice A0_1 l0_1.length c0_1, .slice A0_2 l0_2.length c0_2] 26 (0, 0)) (by (with_reducible repeat (first | refine blk_drewN ?_ _ | refine blk_drew ?_ | refine blk_alloc ?_ _)); exact BK269.out) hb)
            have n2_ := Aside0.mk (blk_below (g := gb270) (o := .cells #[.slice none 0 0, .slice none 0 0, .slice none 0 0] 26 (0, 0)) (by (with_reducible repeat (first | refine blk_drewN ?_ _ | refine blk_drew ?_ | refine blk_alloc ?_ _)); exact BK270.out) hb)
            have n3_ := Aside0.mk (below_step (by repeat (first | (with_reducible first | exact HB.out | apply below_alloc | apply pw_below_drewN | apply below_drew1 | refine below_set ?_ GE269.out | refine below_set ?_ GE270.out) | exact HB.out)) hb)
            have n4_ := Aside0.mk (hbox)
            have n5_ := Aside0.mk ((by rw [hg]; exact (below_size (by repeat (first | (with_reducible first | exact HB.out | apply below_alloc | apply pw_below_drewN | apply below_drew1 | refine below_set ?_ GE269.out | refine below_set ?_ GE270.out) | exact HB.out))) : w.heap.size ≤ gb283))
            have n6_ := Aside0.mk ((by rw [hg]; exact (below_size (by repeat (first | (with_reducible first | exact HB.out | apply below_alloc | apply pw_below_drewN | apply below_drew1 | refine below_set ?_ GE269.out | refine below_set ?_ GE270.out) | exact HB.out))) : w.heap.size ≤ gb283))
            have n7_ := Aside0.mk ((by rw [hg]; exact Nat.ne_of_lt (blk_lt (g := gb269) (o := .cells #[.slice A0_0 l0_0.length c0_0, .slice A0_1 l0_1.length c0_1, .slice A0_2 l0_2.length c0_2] 26 (0, 0)) (by (with_reducible repeat (first | refine blk_drewN ?_ _ | refine blk_drew ?_ | refine blk_alloc ?_ _)); exact BK269.out)) : gb269 ≠ gb283))
            have n8_ := Aside0.mk ((by rw [hg]; exact Nat.ne_of_gt (blk_lt (g := gb269) (o := .cells #[.slice A0_0 l0_0.length c0_0, .slice A0_1 l0_1.length c0_1, .slice A0_2 l0_2.length c0_2] 26 (0, 0)) (by (with_reducible repeat (first | refine blk_drewN ?_ _ | refine blk_drew ?_ | refine blk_alloc ?_ _)); exact BK269.out)) : gb283 ≠ gb269))
            have n9_ := Aside0.mk ((by rw [hg]; exact Nat.ne_of_lt (blk_lt (g := gb270) (o := .cells #[.slice none 0 0, .slice none 0 0, .slice none 0 0] 26 (0, 0)) (by (with_reducible repeat (first | refine blk_drewN ?_ _ | refine blk_drew ?_ | refine blk_alloc ?_ _)); exact BK270.out)) : gb270 ≠ gb283))
            have n10_ := Aside0.mk ((by rw [hg]; exact Nat.ne_of_gt (blk_lt (g := gb270) (o := .cells #[.slice none 0 0, .slice none 0 0, .slice none 0 0] 26 (0, 0)) (by (with_reducible repeat (first | refine blk_drewN ?_ _ | refine blk_drew ?_ | refine blk_alloc ?_ _)); exact BK270.out)) : gb283 ≠ gb270))
            clear HO279
            clear BK269
            clear BK270
            clear HB
            have HO279 := n0_
            have BK269 := n1_
            have BK270 := n2_
            have HB := n3_
            have BK283 := n4_
            have GW283 := n5_
            have GE283 := n6_
            have NB269_283 := n7_
            have NB283_269 := n8_
            have NB270_283 := n9_
            have NB283_270 := n10_
            clear n0_ n1_ n2_ n3_ n4_ n5_ n6_ n7_ n8_ n9_ n10_
            clear hb hbox hg
            refine hK.out _ _ ⟨(blk_cell BK269.out 0).trans rfl, (blk_cell BK269.out 1).trans rfl, (blk_cell BK269.out 2).trans rfl⟩ (fun hHeld => ?_)
            clear hK K
            refine norm_ (a' := ?_) ?_ ?_
            rotate_left
            ·
             show Act.put _ (some 3) _ = _
             simp only [Act.put, List.setIfInBounds_toArray, List.set_cons_zero, List.set_cons_succ, i64_w, i32_w]
             rfl
            exact norm_ (by first | (simp only [putAll, Act.put, List.setIfInBounds_toArray, List.set_cons_zero, List.set_cons_succ]; done) | (simp only [putAll, Act.put, List.setIfInBounds_toArray, List.set_cons_zero, List.set_cons_succ]; rfl)) (hJ4_9 (v278, gb283) _ ⟨hHeld, (by (with_reducible repeat (first | apply Kd.R_alloc | apply Kd.R_drewN | apply Kd.R_drew)); exact HO279.out), (by (with_reducible repeat (first | refine blk_drewN ?_ _ | refine blk_drew ?_ | refine blk_alloc ?_ _)); exact BK269.out), (by (with_reducible repeat (first | refine blk_drewN ?_ _ | refine blk_drew ?_ | refine blk_alloc ?_ _)); exact BK270.out), (by (with_reducible repeat (first | refine blk_drewN ?_ _ | refine blk_drew ?_ | refine blk_alloc ?_ _)); exact BK283.out), GW283.out, GE283.out, NB269_283.out, NB283_269.out, NB270_283.out, NB283_270.out, (by repeat (first | (with_reducible first | exact HB.out | apply below_alloc | apply pw_below_drewN | apply below_drew1 | refine below_set ?_ GE269.out | refine below_set ?_ GE270.out | refine below_set ?_ GE283.out) | exact HB.out))⟩)
           skip
           rintro v272 w9 ⟨hS_, h0_, h1_, h2_, h3_⟩
           have n0_ : Aside0 (Kd.R (Kd.int .i64) 3 w9 w.heap.size (fun _ => True) v272 y271) := ⟨h0_⟩
           have n1_ : Aside0 (w9.heap[gb269]? = some (.cells #[.slice A0_0 l0_0.length c0_0, .slice A0_1 l0_1.length c0_1, .slice A0_2 l0_2.length c0_2] 26 (0, 0))) := ⟨h1_⟩
           have n2_ : Aside0 (w9.heap[gb270]? = some (.cells #[.slice none 0 0, .slice none 0 0, .slice none 0 0] 26 (0, 0))) := ⟨h2_⟩
           have n3_ : Aside0 (Below w.heap.size w w9) := ⟨h3_⟩
           clear BK269
           clear BK270
           clear HB
           clear h0_ h1_ h2_ h3_
           have HO273 := n0_
           have BK269 := n1_
           have BK270 := n2_
           have HB := n3_
           clear n0_ n1_ n2_ n3_
           have hHeld : w9.cell? ⟨gb269, 0, none⟩ = some (.slice A0_0 l0_0.length c0_0) ∧ w9.cell? ⟨gb269, 1, none⟩ = some (.slice A0_1 l0_1.length c0_1) ∧ w9.cell? ⟨gb269, 2, none⟩ = some (.slice A0_2 l0_2.length c0_2) := hS_
           refine norm_ (a' := ?_) ?_ ?_
           rotate_left
           ·
            simp only [putAll, Act.put, List.setIfInBounds_toArray, List.set_cons_zero, List.set_cons_succ]
            rfl
           refine three_ (i := 3) (j := 4) (k := 9) (Ni := some 8) (Nj := some 9) (Nk := some 3) #[true, true, true, true, false, true, true, false, false, false, false] #[true, true, true, false, true, true, true, false, false, false, false] #[true, true, true, false, false, true, true, false, false, true, false] rfl rfl rfl rfl rfl rfl (three_of HT_.out (by kernel_rfl)) (by decide) (by decide) (by decide) (fun K hK => ?_) (fun K hK => ?_) (fun K hK => ?_)
           ·
            skip
            refine Kd.R_append_rows_step (Kd.int .i64) (w0 := w) w.heap.size (by rfl) (.tmp 5) (.tmp 7) 22 3 (.int .i64 0) 8 rfl Try.underlying22 info3 rfl (by decide) (by omega) v272 y271 l0_0 _ _ _ (fun _ => True) (fun _ => False) rfl rfl ?aO ?aR (fun _ _ h => h) (fun _ h => h.elim) ?aF ?aB ?aS ?aL ?_
            (case aR => repeat (first | exact (Kd.C_below HR0_0.out HB.out) | (with_reducible refine Kd.C_alloc ?_ _) | (with_reducible refine Kd.C_drewN ?_ _) | (with_reducible refine Kd.C_drew ?_)))
            (case aB => exact (by repeat (first | (with_reducible first | exact HB.out | apply below_alloc | apply pw_below_drewN | apply below_drew1 | refine below_set ?_ GE269.out | refine below_set ?_ GE270.out) | exact HB.out)))
            (case aF => exact (fun _ _ => trivial))
            (case aO => exact (by (with_reducible repeat (first | apply Kd.R_alloc | apply Kd.R_drewN | apply Kd.R_drew)); exact HO273.out))
            (case aS => exact (below_size (by repeat (first | (with_reducible first | exact HB.out | apply below_alloc | apply pw_below_drewN | apply below_drew1 | refine below_set ?_ GE269.out | refine below_set ?_ GE270.out) | exact HB.out))))
            (case aL => have := LMc2.out; omega)
            intro v275 w10 ho hb hg hat
            rw [← Ny274.out] at ho
            have n0_ := Aside0.mk (blk_grown (g := gb269) (o := .cells #[.slice A0_0 l0_0.length c0_0, .slice A0_1 l0_1.length c0_1, .slice A0_2 l0_2.length c0_2] 26 (0, 0)) (by (with_reducible repeat (first | refine blk_drewN ?_ _ | refine blk_drew ?_ | refine blk_alloc ?_ _)); exact BK269.out) hg (Kd.R_ne HO273.out BK269.out (by decide)))
            have n1_ := Aside0.mk (blk_grown (g := gb270) (o := .cells #[.slice none 0 0, .slice none 0 0, .slice none 0 0] 26 (0, 0)) (by (with_reducible repeat (first | refine blk_drewN ?_ _ | refine blk_drew ?_ | refine blk_alloc ?_ _)); exact BK270.out) hg (Kd.R_ne HO273.out BK270.out (by decide)))
            have n2_ := Aside0.mk (hb)
            have n3_ := Aside0.mk (ho)
            clear BK269
            clear BK270
            clear HB
            clear HO273
            have BK269 := n0_
            have BK270 := n1_
            have HB := n2_
            have HO276 := n3_
            clear n0_ n1_ n2_ n3_
            clear ho hb hg hat
            refine hK.out _ _ ⟨(blk_cell BK269.out 0).trans rfl, (blk_cell BK269.out 1).trans rfl, (blk_cell BK269.out 2).trans rfl⟩ (fun hHeld => ?_)
            clear hK K
            refine norm_ (a' := ?_) ?_ ?_
            rotate_left
            ·
             show Act.put _ (some 8) _ = _
             simp only [Act.put, List.setIfInBounds_toArray, List.set_cons_zero, List.set_cons_succ, i64_w, i32_w]
             rfl
            exact norm_ (by first | (simp only [putAll, Act.put, List.setIfInBounds_toArray, List.set_cons_zero, List.set_cons_succ]; done) | (simp only [putAll, Act.put, List.setIfInBounds_toArray, List.set_cons_zero, List.set_cons_succ]; rfl)) (hJ0_3 (v272, v275) _ ⟨hHeld, (by (with_reducible repeat (first | apply Kd.R_alloc | apply Kd.R_drewN | apply Kd.R_drew)); exact HO276.out), (by (with_reducible repeat (first | refine blk_drewN ?_ _ | refine blk_drew ?_ | refine blk_alloc ?_ _)); exact BK269.out), (by (with_reducible repeat (first | refine blk_drewN ?_ _ | refine blk_drew ?_ | refine blk_alloc ?_ _)); exact BK270.out), (by repeat (first | (with_reducible first | exact HB.out | apply below_alloc | apply pw_below_drewN | apply below_drew1 | refine below_set ?_ GE269.out | refine below_set ?_ GE270.out) | exact HB.out))⟩)
           ·
            skip
            refine Kd.R_lit_step k50 _ 50 ?hg (N := 9) ?hd (xs := ([] : List (S50))) (inner := []) (ok := fun _ => True) (okp := fun _ => True) ?hr ?hp (fun _ hk => hk) trivial (Below.refl _ _) (Nat.le_refl _) (by simp) ?_; (case hd => rfl); (case hg => rfl); (case hr => first | (go_simp; done) | (go_simp; rfl)); (case hp => exact (Reps.none _ _))
            intro v278 w10 ho11 hb hg_ hnew_
            clear hg_ hnew_
            (first | rw [← Ny277.out] at ho11 | (simp only [Int.reduceToNat] at ho11; rw [← Ny277.out] at ho11))
            have n0_ := Aside0.mk (Kd.R_below (by (with_reducible repeat (first | apply Kd.R_alloc | apply Kd.R_drewN | apply Kd.R_drew)); exact HO273.out) hb)
            have n1_ := Aside0.mk (Kd.R_lower ho11 (below_size (by repeat (first | (with_reducible first | exact HB.out | apply below_alloc | apply pw_below_drewN | apply below_drew1 | refine below_set ?_ GE269.out | refine below_set ?_ GE270.out) | exact HB.out))))
            have n2_ := Aside0.mk (blk_below (g := gb269) (o := .cells #[.slice A0_0 l0_0.length c0_0, .slice A0_1 l0_1.length c0_1, .slice A0_2 l0_2.length c0_2] 26 (0, 0)) (by (with_reducible repeat (first | refine blk_drewN ?_ _ | refine blk_drew ?_ | refine blk_alloc ?_ _)); exact BK269.out) hb)
            have n3_ := Aside0.mk (blk_below (g := gb270) (o := .cells #[.slice none 0 0, .slice none 0 0, .slice none 0 0] 26 (0, 0)) (by (with_reducible repeat (first | refine blk_drewN ?_ _ | refine blk_drew ?_ | refine blk_alloc ?_ _)); exact BK270.out) hb)
            have n4_ := Aside0.mk (below_step (by repeat (first | (with_reducible first | exact HB.out | apply below_alloc | apply pw_below_drewN | apply below_drew1 | refine below_set ?_ GE269.out | refine below_set ?_ GE270.out) | exact HB.out)) hb)
            clear HO273
            clear BK269
            clear BK270
            clear HB
            have HO273 := n0_
            have HO279 := n1_
            have BK269 := n2_
            have BK270 := n3_
            have HB := n4_
            clear n0_ n1_ n2_ n3_ n4_
            clear hb ho11
            refine hK.out _ _ ⟨(blk_cell BK269.out 0).trans rfl, (blk_cell BK269.out 1).trans rfl, (blk_cell BK269.out 2).trans rfl⟩ (fun hHeld => ?_)
            clear hK K
            refine norm_ (a' := ?_) ?_ ?_
            rotate_left
            ·
             show Act.put _ (some 9) _ = _
             simp only [Act.put, List.setIfInBounds_toArray, List.set_cons_zero, List.set_cons_succ, i64_w, i32_w]
             rfl
            exact norm_ (by first | (simp only [putAll, Act.put, List.setIfInBounds_toArray, List.set_cons_zero, List.set_cons_succ]; done) | (simp only [putAll, Act.put, List.setIfInBounds_toArray, List.set_cons_zero, List.set_cons_succ]; rfl)) (hJ0_4 (v272, v278) _ ⟨hHeld, (by (with_reducible repeat (first | apply Kd.R_alloc | apply Kd.R_drewN | apply Kd.R_drew)); exact HO273.out), (by (with_reducible repeat (first | apply Kd.R_alloc | apply Kd.R_drewN | apply Kd.R_drew)); exact HO279.out), (by (with_reducible repeat (first | refine blk_drewN ?_ _ | refine blk_drew ?_ | refine blk_alloc ?_ _)); exact BK269.out), (by (with_reducible repeat (first | refine blk_drewN ?_ _ | refine blk_drew ?_ | refine blk_alloc ?_ _)); exact BK270.out), (by repeat (first | (with_reducible first | exact HB.out | apply below_alloc | apply pw_below_drewN | apply below_drew1 | refine below_set ?_ GE269.out | refine below_set ?_ GE270.out) | exact HB.out))⟩)
           skip
           refine box_step ?hg (N := 3) ?hd (cs := #[.slice none 0 0, .slice none 0 0, .slice none 0 0]) (t := 26) ?hr ?_; (case hd => rfl); (case hg => rfl); (case hr => first | (go_simp; done) | (go_simp; rfl))
           intro gb283 hg w10 hbox hb
           have n0_ := Aside0.mk (Kd.R_below (by (with_reducible repeat (first | apply Kd.R_alloc | apply Kd.R_drewN | apply Kd.R_drew)); exact HO273.out) hb)
           have n1_ := Aside0.mk (blk_below (g := gb269) (o := .cells #[.slice A0_0 l0_0.length c0_0, .slice A0_1 l0_1.length c0_1, .slice A0_2 l0_2.length c0_2] 26 (0, 0)) (by (with_reducible repeat (first | refine blk_drewN ?_ _ | refine blk_drew ?_ | refine blk_alloc ?_ _)); exact BK269.out) hb)
           have n2_ := Aside0.mk (blk_below (g := gb270) (o := .cells #[.slice none 0 0, .slice none 0 0, .slice none 0 0] 26 (0, 0)) (by (with_reducible repeat (first | refine blk_drewN ?_ _ | refine blk_drew ?_ | refine blk_alloc ?_ _)); exact BK270.out) hb)
           have n3_ := Aside0.mk (below_step (by repeat (first | (with_reducible first | exact HB.out | apply below_alloc | apply pw_below_drewN | apply below_drew1 | refine below_set ?_ GE269.out | refine below_set ?_ GE270.out) | exact HB.out)) hb)
           have n4_ := Aside0.mk (hbox)
           have n5_ := Aside0.mk ((by rw [hg]; exact (below_size (by repeat (first | (with_reducible first | exact HB.out | apply below_alloc | apply pw_below_drewN | apply below_drew1 | refine below_set ?_ GE269.out | refine below_set ?_ GE270.out) | exact HB.out))) : w.heap.size ≤ gb283))
           have n6_ := Aside0.mk ((by rw [hg]; exact (below_size (by repeat (first | (with_reducible first | exact HB.out | apply below_alloc | apply pw_below_drewN | apply below_drew1 | refine below_set ?_ GE269.out | refine below_set ?_ GE270.out) | exact HB.out))) : w.heap.size ≤ gb283))
           have n7_ := Aside0.mk ((by rw [hg]; exact Nat.ne_of_lt (blk_lt (g := gb269) (o := .cells #[.slice A0_0 l0_0.length c0_0, .slice A0_1 l0_1.length c0_1, .slice A0_2 l0_2.length c0_2] 26 (0, 0)) (by (with_reducible repeat (first | refine blk_drewN ?_ _ | refine blk_drew ?_ | refine blk_alloc ?_ _)); exact BK269.out)) : gb269 ≠ gb283))
           have n8_ := Aside0.mk ((by rw [hg]; exact Nat.ne_of_gt (blk_lt (g := gb269) (o := .cells #[.slice A0_0 l0_0.length c0_0, .slice A0_1 l0_1.length c0_1, .slice A0_2 l0_2.length c0_2] 26 (0, 0)) (by (with_reducible repeat (first | refine blk_drewN ?_ _ | refine blk_drew ?_ | refine blk_alloc ?_ _)); exact BK269.out)) : gb283 ≠ gb269))
           have n9_ := Aside0.mk ((by rw [hg]; exact Nat.ne_of_lt (blk_lt (g := gb270) (o := .cells #[.slice none 0 0, .slice none 0 0, .slice none 0 0] 26 (0, 0)) (by (with_reducible repeat (first | refine blk_drewN ?_ _ | refine blk_drew ?_ | refine blk_alloc ?_ _)); exact BK270.out)) : gb270 ≠ gb283))
           have n10_ := Aside0.mk ((by rw [hg]; exact Nat.ne_of_gt (blk_lt (g := gb270) (o := .cells #[.slice none 0 0, .slice none 0 0, .slice none 0 0] 26 (0, 0)) (by (with_reducible repeat (first | refine blk_drewN ?_ _ | refine blk_drew ?_ | refine blk_alloc ?_ _)); exact BK270.out)) : gb283 ≠ gb270))
           clear HO273
           clear BK269
           clear BK270
           clear HB
           have HO273 := n0_
           have BK269 := n1_
           have BK270 := n2_
           have HB := n3_
           have BK283 := n4_
           have GW283 := n5_
           have GE283 := n6_
           have NB269_283 := n7_
           have NB283_269 := n8_
           have NB270_283 := n9_
           have NB283_270 := n10_
           clear n0_ n1_ n2_ n3_ n4_ n5_ n6_ n7_ n8_ n9_ n10_
           clear hb hbox hg
           refine hK.out _ _ ⟨(blk_cell BK269.out 0).trans rfl, (blk_cell BK269.out 1).trans rfl, (blk_cell BK269.out 2).trans rfl⟩ (fun hHeld => ?_)
           clear hK K
           refine norm_ (a' := ?_) ?_ ?_
           rotate_left
           ·
            show Act.put _ (some 3) _ = _
            simp only [Act.put, List.setIfInBounds_toArray, List.set_cons_zero, List.set_cons_succ, i64_w, i32_w]
            rfl
           exact norm_ (by first | (simp only [putAll, Act.put, List.setIfInBounds_toArray, List.set_cons_zero, List.set_cons_succ]; done) | (simp only [putAll, Act.put, List.setIfInBounds_toArray, List.set_cons_zero, List.set_cons_succ]; rfl)) (hJ0_9 (v272, gb283) _ ⟨hHeld, (by (with_reducible repeat (first | apply Kd.R_alloc | apply Kd.R_drewN | apply Kd.R_drew)); exact HO273.out), (by (with_reducible repeat (first | refine blk_drewN ?_ _ | refine blk_drew ?_ | refine blk_alloc ?_ _)); exact BK269.out), (by (with_reducible repeat (first | refine blk_drewN ?_ _ | refine blk_drew ?_ | refine blk_alloc ?_ _)); exact BK270.out), (by (with_reducible repeat (first | refine blk_drewN ?_ _ | refine blk_drew ?_ | refine blk_alloc ?_ _)); exact BK283.out), GW283.out, GE283.out, NB269_283.out, NB283_269.out, NB270_283.out, NB283_270.out, (by repeat (first | (with_reducible first | exact HB.out | apply below_alloc | apply pw_below_drewN | apply below_drew1 | refine below_set ?_ GE269.out | refine below_set ?_ GE270.out | refine below_set ?_ GE283.out) | exact HB.out))⟩)
          skip
          rintro ⟨v278, gb283⟩ w10 ⟨hS_, h0_, h1_, h2_, h3_, h4_, h5_, h6_, h7_, h8_, h9_, h10_⟩
          have n0_ : Aside0 (Kd.R k50 50 w10 w.heap.size (fun _ => True) v278 y277) := ⟨h0_⟩
          have n1_ : Aside0 (w10.heap[gb269]? = some (.cells #[.slice A0_0 l0_0.length c0_0, .slice A0_1 l0_1.length c0_1, .slice A0_2 l0_2.length c0_2] 26 (0, 0))) := ⟨h1_⟩
          have n2_ : Aside0 (w10.heap[gb270]? = some (.cells #[.slice none 0 0, .slice none 0 0, .slice none 0 0] 26 (0, 0))) := ⟨h2_⟩
          have n3_ : Aside0 (w10.heap[gb283]? = some (.cells #[.slice none 0 0, .slice none 0 0, .slice none 0 0] 26 (0, 0))) := ⟨h3_⟩
          have n4_ : Aside0 (w.heap.size ≤ gb283) := ⟨h4_⟩
          have n5_ : Aside0 (w.heap.size ≤ gb283) := ⟨h5_⟩
          have n6_ : Aside0 (gb269 ≠ gb283) := ⟨h6_⟩
          have n7_ : Aside0 (gb283 ≠ gb269) := ⟨h7_⟩
          have n8_ : Aside0 (gb270 ≠ gb283) := ⟨h8_⟩
          have n9_ : Aside0 (gb283 ≠ gb270) := ⟨h9_⟩
          have n10_ : Aside0 (Below w.heap.size w w10) := ⟨h10_⟩
          clear BK269
          clear BK270
          clear HB
          clear h0_ h1_ h2_ h3_ h4_ h5_ h6_ h7_ h8_ h9_ h10_
          have HO279 := n0_
          have BK269 := n1_
          have BK270 := n2_
          have BK283 := n3_
          have GW283 := n4_
          have GE283 := n5_
          have NB269_283 := n6_
          have NB283_269 := n7_
          have NB270_283 := n8_
          have NB283_270 := n9_
          have HB := n10_
          clear n0_ n1_ n2_ n3_ n4_ n5_ n6_ n7_ n8_ n9_ n10_
          have hHeld : w10.cell? ⟨gb269, 0, none⟩ = some (.slice A0_0 l0_0.length c0_0) ∧ w10.cell? ⟨gb269, 1, none⟩ = some (.slice A0_1 l0_1.length c0_1) ∧ w10.cell? ⟨gb269, 2, none⟩ = some (.slice A0_2 l0_2.length c0_2) := hS_
          refine norm_ (a' := ?_) ?_ ?_
          rotate_left
          ·
           simp only [putAll, Act.put, List.setIfInBounds_toArray, List.set_cons_zero, List.set_cons_succ]
           rfl
          refine one_ (i := 0) (N := some 5) #[true, true, true, false, true, true, true, false, false, true, false] rfl rfl (one_of HT_.out (by kernel_rfl)) (by decide) (fun K hK => ?_)
          refine Kd.R_lit_step (Kd.int .i64) _ 3 ?hg (N := 5) ?hd (xs := ([] : List Int)) (inner := []) (ok := fun _ => True) (okp := fun _ => True) ?hr ?hp (fun _ hk => hk) trivial (Below.refl _ _) (Nat.le_refl _) (by simp) ?_; (case hd => rfl); (case hg => rfl); (case hr => first | (go_simp; done) | (go_simp; rfl)); (case hp => exact (Reps.none _ _))
          intro v272 w11 ho12 hb hg_ hnew_
          clear hg_ hnew_
          (first | rw [← Ny271.out] at ho12 | (simp only [Int.reduceToNat] at ho12; rw [← Ny271.out] at ho12))
          have n0_ := Aside0.mk (Kd.R_below (by (with_reducible repeat (first | apply Kd.R_alloc | apply Kd.R_drewN | apply Kd.R_drew)); exact HO279.out) hb)
          have n1_ := Aside0.mk (Kd.R_lower ho12 (below_size (by repeat (first | (with_reducible first | exact HB.out | apply below_alloc | apply pw_below_drewN | apply below_drew1 | refine below_set ?_ GE269.out | refine below_set ?_ GE270.out | refine below_set ?_ GE283.out) | exact HB.out))))
          have n2_ := Aside0.mk (blk_below (g := gb269) (o := .cells #[.slice A0_0 l0_0.length c0_0, .slice A0_1 l0_1.length c0_1, .slice A0_2 l0_2.length c0_2] 26 (0, 0)) (by (with_reducible repeat (first | refine blk_drewN ?_ _ | refine blk_drew ?_ | refine blk_alloc ?_ _)); exact BK269.out) hb)
          have n3_ := Aside0.mk (blk_below (g := gb270) (o := .cells #[.slice none 0 0, .slice none 0 0, .slice none 0 0] 26 (0, 0)) (by (with_reducible repeat (first | refine blk_drewN ?_ _ | refine blk_drew ?_ | refine blk_alloc ?_ _)); exact BK270.out) hb)
          have n4_ := Aside0.mk (blk_below (g := gb283) (o := .cells #[.slice none 0 0, .slice none 0 0, .slice none 0 0] 26 (0, 0)) (by (with_reducible repeat (first | refine blk_drewN ?_ _ | refine blk_drew ?_ | refine blk_alloc ?_ _)); exact BK283.out) hb)
          have n5_ := Aside0.mk (below_step (by repeat (first | (with_reducible first | exact HB.out | apply below_alloc | apply pw_below_drewN | apply below_drew1 | refine below_set ?_ GE269.out | refine below_set ?_ GE270.out | refine below_set ?_ GE283.out) | exact HB.out)) hb)
          clear HO279
          clear BK269
          clear BK270
          clear BK283
          clear HB
          have HO279 := n0_
          have HO273 := n1_
          have BK269 := n2_
          have BK270 := n3_
          have BK283 := n4_
          have HB := n5_
          clear n0_ n1_ n2_ n3_ n4_ n5_
          clear hb ho12
          refine hK.out _ _ ⟨(blk_cell BK269.out 0).trans rfl, (blk_cell BK269.out 1).trans rfl, (blk_cell BK269.out 2).trans rfl⟩ (fun hHeld => ?_)
          clear hK K
          refine norm_ (a' := ?_) ?_ ?_
          rotate_left
          ·
           show Act.put _ (some 5) _ = _
           simp only [Act.put, List.setIfInBounds_toArray, List.set_cons_zero, List.set_cons_succ, i64_w, i32_w]
           rfl
          exact norm_ (by first | (simp only [putAll, Act.put, List.setIfInBounds_toArray, List.set_cons_zero, List.set_cons_succ]; done) | (simp only [putAll, Act.put, List.setIfInBounds_toArray, List.set_cons_zero, List.set_cons_succ]; rfl)) (hJ0_4_9 (v272, v278, gb283) _ ⟨hHeld, (by (with_reducible repeat (first | apply Kd.R_alloc | apply Kd.R_drewN | apply Kd.R_drew)); exact HO273.out), (by (with_reducible repeat (first | apply Kd.R_alloc | apply Kd.R_drewN | apply Kd.R_drew)); exact HO279.out), (by (with_reducible repeat (first | refine blk_drewN ?_ _ | refine blk_drew ?_ | refine blk_alloc ?_ _)); exact BK269.out), (by (with_reducible repeat (first | refine blk_drewN ?_ _ | refine blk_drew ?_ | refine blk_alloc ?_ _)); exact BK270.out), (by (with_reducible repeat (first | refine blk_drewN ?_ _ | refine blk_drew ?_ | refine blk_alloc ?_ _)); exact BK283.out), GW283.out, GE283.out, NB269_283.out, NB283_269.out, NB270_283.out, NB283_270.out, (by repeat (first | (with_reducible first | exact HB.out | apply below_alloc | apply pw_below_drewN | apply below_drew1 | refine below_set ?_ GE269.out | refine below_set ?_ GE270.out | refine below_set ?_ GE283.out) | exact HB.out))⟩)
         skip
         rintro ⟨v272, gb283⟩ w10 ⟨hS_, h0_, h1_, h2_, h3_, h4_, h5_, h6_, h7_, h8_, h9_, h10_⟩
         have n0_ : Aside0 (Kd.R (Kd.int .i64) 3 w10 w.heap.size (fun _ => True) v272 y271) := ⟨h0_⟩
         have n1_ : Aside0 (w10.heap[gb269]? = some (.cells #[.slice A0_0 l0_0.length c0_0, .slice A0_1 l0_1.length c0_1, .slice A0_2 l0_2.length c0_2] 26 (0, 0))) := ⟨h1_⟩
         have n2_ : Aside0 (w10.heap[gb270]? = some (.cells #[.slice none 0 0, .slice none 0 0, .slice none 0 0] 26 (0, 0))) := ⟨h2_⟩
         have n3_ : Aside0 (w10.heap[gb283]? = some (.cells #[.slice none 0 0, .slice none 0 0, .slice none 0 0] 26 (0, 0))) := ⟨h3_⟩
         have n4_ : Aside0 (w.heap.size ≤ gb283) := ⟨h4_⟩
         have n5_ : Aside0 (w.heap.size ≤ gb283) := ⟨h5_⟩
         have n6_ : Aside0 (gb269 ≠ gb283) := ⟨h6_⟩
         have n7_ : Aside0 (gb283 ≠ gb269) := ⟨h7_⟩
         have n8_ : Aside0 (gb270 ≠ gb283) := ⟨h8_⟩
         have n9_ : Aside0 (gb283 ≠ gb270) := ⟨h9_⟩
         have n10_ : Aside0 (Below w.heap.size w w10) := ⟨h10_⟩
         clear BK269
         clear BK270
         clear HB
         clear h0_ h1_ h2_ h3_ h4_ h5_ h6_ h7_ h8_ h9_ h10_
         have HO273 := n0_
         have BK269 := n1_
         have BK270 := n2_
         have BK283 := n3_
         have GW283 := n4_
         have GE283 := n5_
         have NB269_283 := n6_
         have NB283_269 := n7_
         have NB270_283 := n8_
         have NB283_270 := n9_
         have HB := n10_
         clear n0_ n1_ n2_ n3_ n4_ n5_ n6_ n7_ n8_ n9_ n10_
         have hHeld : w10.cell? ⟨gb269, 0, none⟩ = some (.slice A0_0 l0_0.length c0_0) ∧ w10.cell? ⟨gb269, 1, none⟩ = some (.slice A0_1 l0_1.length c0_1) ∧ w10.cell? ⟨gb269, 2, none⟩ = some (.slice A0_2 l0_2.length c0_2) := hS_
         refine norm_ (a' := ?_) ?_ ?_
         rotate_left
         ·
          simp only [putAll, Act.put, List.setIfInBounds_toArray, List.set_cons_zero, List.set_cons_succ]
          rfl
         refine two_ (i := 3) (j := 4) (Ni := some 8) (Nj := some 9) #[true, true, true, true, false, true, true, false, false, true, false] #[true, true, true, false, true, true, true, false, false, true, false] rfl rfl rfl rfl (two_of HT_.out (by kernel_rfl)) (by decide) (by decide) (fun K hK => ?_) (fun K hK => ?_)
         ·
          skip
          refine Kd.R_append_rows_step (Kd.int .i64) (w0 := w) w.heap.size (by rfl) (.tmp 5) (.tmp 7) 22 3 (.int .i64 0) 8 rfl Try.underlying22 info3 rfl (by decide) (by omega) v272 y271 l0_0 _ _ _ (fun _ => True) (fun _ => False) rfl rfl ?aO ?aR (fun _ _ h => h) (fun _ h => h.elim) ?aF ?aB ?aS ?aL ?_
          (case aR => repeat (first | exact (Kd.C_below HR0_0.out HB.out) | (with_reducible refine Kd.C_alloc ?_ _) | (with_reducible refine Kd.C_drewN ?_ _) | (with_reducible refine Kd.C_drew ?_)))
          (case aB => exact (by repeat (first | (with_reducible first | exact HB.out | apply below_alloc | apply pw_below_drewN | apply below_drew1 | refine below_set ?_ GE269.out | refine below_set ?_ GE270.out | refine below_set ?_ GE283.out) | exact HB.out)))
          (case aF => exact (fun _ _ => trivial))
          (case aO => exact (by (with_reducible repeat (first | apply Kd.R_alloc | apply Kd.R_drewN | apply Kd.R_drew)); exact HO273.out))
          (case aS => exact (below_size (by repeat (first | (with_reducible first | exact HB.out | apply below_alloc | apply pw_below_drewN | apply below_drew1 | refine below_set ?_ GE269.out | refine below_set ?_ GE270.out | refine below_set ?_ GE283.out) | exact HB.out))))
          (case aL => have := LMc2.out; omega)
          intro v275 w11 ho hb hg hat
          rw [← Ny274.out] at ho
          have n0_ := Aside0.mk (blk_grown (g := gb269) (o := .cells #[.slice A0_0 l0_0.length c0_0, .slice A0_1 l0_1.length c0_1, .slice A0_2 l0_2.length c0_2] 26 (0, 0)) (by (with_reducible repeat (first | refine blk_drewN ?_ _ | refine blk_drew ?_ | refine blk_alloc ?_ _)); exact BK269.out) hg (Kd.R_ne HO273.out BK269.out (by decide)))
          have n1_ := Aside0.mk (blk_grown (g := gb270) (o := .cells #[.slice none 0 0, .slice none 0 0, .slice none 0 0] 26 (0, 0)) (by (with_reducible repeat (first | refine blk_drewN ?_ _ | refine blk_drew ?_ | refine blk_alloc ?_ _)); exact BK270.out) hg (Kd.R_ne HO273.out BK270.out (by decide)))
          have n2_ := Aside0.mk (blk_grown (g := gb283) (o := .cells #[.slice none 0 0, .slice none 0 0, .slice none 0 0] 26 (0, 0)) (by (with_reducible repeat (first | refine blk_drewN ?_ _ | refine blk_drew ?_ | refine blk_alloc ?_ _)); exact BK283.out) hg (Kd.R_ne HO273.out BK283.out (by decide)))
          have n3_ := Aside0.mk (hb)
          have n4_ := Aside0.mk (ho)
          clear BK269
          clear BK270
          clear BK283
          clear HB
          clear HO273
          have BK269 := n0_
          have BK270 := n1_
          have BK283 := n2_
          have HB := n3_
          have HO276 := n4_
          clear n0_ n1_ n2_ n3_ n4_
          clear ho hb hg hat
          refine hK.out _ _ ⟨(blk_cell BK269.out 0).trans rfl, (blk_cell BK269.out 1).trans rfl, (blk_cell BK269.out 2).trans rfl⟩ (fun hHeld => ?_)
          clear hK K
          refine norm_ (a' := ?_) ?_ ?_
          rotate_left
          ·
           show Act.put _ (some 8) _ = _
           simp only [Act.put, List.setIfInBounds_toArray, List.set_cons_zero, List.set_cons_succ, i64_w, i32_w]
           rfl
          exact norm_ (by first | (simp only [putAll, Act.put, List.setIfInBounds_toArray, List.set_cons_zero, List.set_cons_succ]; done) | (simp only [putAll, Act.put, List.setIfInBounds_toArray, List.set_cons_zero, List.set_cons_succ]; rfl)) (hJ0_3_9 (v272, v275, gb283) _ ⟨hHeld, (by (with_reducible repeat (first | apply Kd.R_alloc | apply Kd.R_drewN | apply Kd.R_drew)); exact HO276.out), (by (with_reducible repeat (first | refine blk_drewN ?_ _ | refine blk_drew ?_ | refine blk_alloc ?_ _)); exact BK269.out), (by (with_reducible repeat (first | refine blk_drewN ?_ _ | refine blk_drew ?_ | refine blk_alloc ?_ _)); exact BK270.out), (by (with_reducible repeat (first | refine blk_drewN ?_ _ | refine blk_drew ?_ | refine blk_alloc ?_ _)); exact BK283.out), GW283.out, GE283.out, NB269_283.out, NB283_269.out, NB270_283.out, NB283_270.out, (by repeat (first | (with_reducible first | exact HB.out | apply below_alloc | apply pw_below_drewN | apply below_drew1 | refine below_set ?_ GE269.out | refine below_set ?_ GE270.out | refine below_set ?_ GE283.out) | exact HB.out))⟩)
         skip
         refine Kd.R_lit_step k50 _ 50 ?hg (N := 9) ?hd (xs := ([] : List (S50))) (inner := []) (ok := fun _ => True) (okp := fun _ => True) ?hr ?hp (fun _ hk => hk) trivial (Below.refl _ _) (Nat.le_refl _) (by simp) ?_; (case hd => rfl); (case hg => rfl); (case hr => first | (go_simp; done) | (go_simp; rfl)); (case hp => exact (Reps.none _ _))
         intro v278 w11 ho12 hb hg_ hnew_
         clear hg_ hnew_
         (first | rw [← Ny277.out] at ho12 | (simp only [Int.reduceToNat] at ho12; rw [← Ny277.out] at ho12))
         have n0_ := Aside0.mk (Kd.R_below (by (with_reducible repeat (first | apply Kd.R_alloc | apply Kd.R_drewN | apply Kd.R_drew)); exact HO273.out) hb)
         have n1_ := Aside0.mk (Kd.R_lower ho12 (below_size (by repeat (first | (with_reducible first | exact HB.out | apply below_alloc | apply pw_below_drewN | apply below_drew1 | refine below_set ?_ GE269.out | refine below_set ?_ GE270.out | refine below_set ?_ GE283.out) | exact HB.out))))
         have n2_ := Aside0.mk (blk_below (g := gb269) (o := .cells #[.slice A0_0 l0_0.length c0_0, .slice A0_1 l0_1.length c0_1, .slice A0_2 l0_2.length c0_2] 26 (0, 0)) (by (with_reducible repeat (first | refine blk_drewN ?_ _ | refine blk_drew ?_ | refine blk_alloc ?_ _)); exact BK269.out) hb)
         have n3_ := Aside0.mk (blk_below (g := gb270) (o := .cells #[.slice none 0 0, .slice none 0 0, .slice none 0 0] 26 (0, 0)) (by (with_reducible repeat (first | refine blk_drewN ?_ _ | refine blk_drew ?_ | refine blk_alloc ?_ _)); exact BK270.out) hb)
         have n4_ := Aside0.mk (blk_below (g := gb283) (o := .cells #[.slice none 0 0, .slice none 0 0, .slice none 0 0] 26 (0, 0)) (by (with_reducible repeat (first | refine blk_drewN ?_ _ | refine blk_drew ?_ | refine blk_alloc ?_ _)); exact BK283.out) hb)
         have n5_ := Aside0.mk (below_step (by repeat (first | (with_reducible first | exact HB.out | apply below_alloc | apply pw_below_drewN | apply below_drew1 | refine below_set ?_ GE269.out | refine below_set ?_ GE270.out | refine below_set ?_ GE283.out) | exact HB.out)) hb)
         clear HO273
         clear BK269
         clear BK270
         clear BK283
         clear HB
         have HO273 := n0_
         have HO279 := n1_
         have BK269 := n2_
         have BK270 := n3_
         have BK283 := n4_
         have HB := n5_
         clear n0_ n1_ n2_ n3_ n4_ n5_
         clear hb ho12
         refine hK.out _ _ ⟨(blk_cell BK269.out 0).trans rfl, (blk_cell BK269.out 1).trans rfl, (blk_cell BK269.out 2).trans rfl⟩ (fun hHeld => ?_)
         clear hK K
         refine norm_ (a' := ?_) ?_ ?_
         rotate_left
         ·
          show Act.put _ (some 9) _ = _
          simp only [Act.put, List.setIfInBounds_toArray, List.set_cons_zero, List.set_cons_succ, i64_w, i32_w]
          rfl
         exact norm_ (by first | (simp only [putAll, Act.put, List.setIfInBounds_toArray, List.set_cons_zero, List.set_cons_succ]; done) | (simp only [putAll, Act.put, List.setIfInBounds_toArray, List.set_cons_zero, List.set_cons_succ]; rfl)) (hJ0_4_9 (v272, v278, gb283) _ ⟨hHeld, (by (with_reducible repeat (first | apply Kd.R_alloc | apply Kd.R_drewN | apply Kd.R_drew)); exact HO273.out), (by (with_reducible repeat (first | apply Kd.R_alloc | apply Kd.R_drewN | apply Kd.R_drew)); exact HO279.out), (by (with_reducible repeat (first | refine blk_drewN ?_ _ | refine blk_drew ?_ | refine blk_alloc ?_ _)); exact BK269.out), (by (with_reducible repeat (first | refine blk_drewN ?_ _ | refine blk_drew ?_ | refine blk_alloc ?_ _)); exact BK270.out), (by (with_reducible repeat (first | refine blk_drewN ?_ _ | refine blk_drew ?_ | refine blk_alloc ?_ _)); exact BK283.out), GW283.out, GE283.out, NB269_283.out, NB283_269.out, NB270_283.out, NB283_270.out, (by repeat (first | (with_reducible first | exact HB.out | apply below_alloc | apply pw_below_drewN | apply below_drew1 | refine below_set ?_ GE269.out | refine below_set ?_ GE270.out | refine below_set ?_ GE283.out) | exact HB.out))⟩)
        skip
        rintro ⟨v272, v278⟩ w11 ⟨hS_, h0_, h1_, h2_, h3_, h4_⟩
        have n0_ : Aside0 (Kd.R (Kd.int .i64) 3 w11 w.heap.size (fun _ => True) v272 y271) := ⟨h0_⟩
        have n1_ : Aside0 (Kd.R k50 50 w11 w.heap.size (fun _ => True) v278 y277) := ⟨h1_⟩
        have n2_ : Aside0 (w11.heap[gb269]? = some (.cells #[.slice A0_0 l0_0.length c0_0, .slice A0_1 l0_1.length c0_1, .slice A0_2 l0_2.length c0_2] 26 (0, 0))) := ⟨h2_⟩
        have n3_ : Aside0 (w11.heap[gb270]? = some (.cells #[.slice none 0 0, .slice none 0 0, .slice none 0 0] 26 (0, 0))) := ⟨h3_⟩
        have n4_ : Aside0 (Below w.heap.size w w11) := ⟨h4_⟩
        clear BK269
        clear BK270
        clear HB
        clear h0_ h1_ h2_ h3_ h4_
        have HO273 := n0_
        have HO279 := n1_
        have BK269 := n2_
        have BK270 := n3_
        have HB := n4_
        clear n0_ n1_ n2_ n3_ n4_
        have hHeld : w11.cell? ⟨gb269, 0, none⟩ = some (.slice A0_0 l0_0.length c0_0) ∧ w11.cell? ⟨gb269, 1, none⟩ = some (.slice A0_1 l0_1.length c0_1) ∧ w11.cell? ⟨gb269, 2, none⟩ = some (.slice A0_2 l0_2.length c0_2) := hS_
        refine norm_ (a' := ?_) ?_ ?_
        rotate_left
        ·
         simp only [putAll, Act.put, List.setIfInBounds_toArray, List.set_cons_zero, List.set_cons_succ]
         rfl
        refine two_ (i := 3) (j := 9) (Ni := some 8) (Nj := some 3) #[true, true, true, true, true, true, true, false, false, false, false] #[true, true, true, false, true, true, true, false, false, true, false] rfl rfl rfl rfl (two_of HT_.out (by kernel_rfl)) (by decide) (by decide) (fun K hK => ?_) (fun K hK => ?_)
        ·
         skip
         refine Kd.R_append_rows_step (Kd.int .i64) (w0 := w) w.heap.size (by rfl) (.tmp 5) (.tmp 7) 22 3 (.int .i64 0) 8 rfl Try.underlying22 info3 rfl (by decide) (by omega) v272 y271 l0_0 _ _ _ (fun _ => True) (fun _ => False) rfl rfl ?aO ?aR (fun _ _ h => h) (fun _ h => h.elim) ?aF ?aB ?aS ?aL ?_
         (case aR => repeat (first | exact (Kd.C_below HR0_0.out HB.out) | (with_reducible refine Kd.C_alloc ?_ _) | (with_reducible refine Kd.C_drewN ?_ _) | (with_reducible refine Kd.C_drew ?_)))
         (case aB => exact (by repeat (first | (with_reducible first | exact HB.out | apply below_alloc | apply pw_below_drewN | apply below_drew1 | refine below_set ?_ GE269.out | refine below_set ?_ GE270.out) | exact HB.out)))
         (case aF => exact (fun _ _ => trivial))
         (case aO => exact (by (with_reducible repeat (first | apply Kd.R_alloc | apply Kd.R_drewN | apply Kd.R_drew)); exact HO273.out))
         (case aS => exact (below_size (by repeat (first | (with_reducible first | exact HB.out | apply below_alloc | apply pw_below_drewN | apply below_drew1 | refine below_set ?_ GE269.out | refine below_set ?_ GE270.out) | exact HB.out))))
         (case aL => have := LMc2.out; omega)
         intro v275 w12 ho hb hg hat
         rw [← Ny274.out] at ho
         have n0_ := Aside0.mk (blk_grown (g := gb269) (o := .cells #[.slice A0_0 l0_0.length c0_0, .slice A0_1 l0_1.length c0_1, .slice A0_2 l0_2.length c0_2] 26 (0, 0)) (by (with_reducible repeat (first | refine blk_drewN ?_ _ | refine blk_drew ?_ | refine blk_alloc ?_ _)); exact BK269.out) hg (Kd.R_ne HO273.out BK269.out (by decide)))
         have n1_ := Aside0.mk (blk_grown (g := gb270) (o := .cells #[.slice none 0 0, .slice none 0 0, .slice none 0 0] 26 (0, 0)) (by (with_reducible repeat (first | refine blk_drewN ?_ _ | refine blk_drew ?_ | refine blk_alloc ?_ _)); exact BK270.out) hg (Kd.R_ne HO273.out BK270.out (by decide)))
         have n2_ := Aside0.mk (Kd.R_over' (by (with_reducible repeat (first | apply Kd.R_alloc | apply Kd.R_drewN | apply Kd.R_drew)); exact HO279.out) (Kd.R_typed (by (with_reducible repeat (first | apply Kd.R_alloc | apply Kd.R_drewN | apply Kd.R_drew)); exact HO273.out)) (by decide) hg)
         have n3_ := Aside0.mk (hb)
         have n4_ := Aside0.mk (ho)
         clear BK269
         clear BK270
         clear HO279
         clear HB
         clear HO273
         have BK269 := n0_
         have BK270 := n1_
         have HO279 := n2_
         have HB := n3_
         have HO276 := n4_
         clear n0_ n1_ n2_ n3_ n4_
         clear ho hb hg hat
         refine hK.out _ _ ⟨(blk_cell BK269.out 0).trans rfl, (blk_cell BK269.out 1).trans rfl, (blk_cell BK269.out 2).trans rfl⟩ (fun hHeld => ?_)
         clear hK K
         refine norm_ (a' := ?_) ?_ ?_
         rotate_left
         ·
          show Act.put _ (some 8) _ = _
          simp only [Act.put, List.setIfInBounds_toArray, List.set_cons_zero, List.set_cons_succ, i64_w, i32_w]
          rfl
         exact norm_ (by first | (simp only [putAll, Act.put, List.setIfInBounds_toArray, List.set_cons_zero, List.set_cons_succ]; done) | (simp only [putAll, Act.put, List.setIfInBounds_toArray, List.set_cons_zero, List.set_cons_succ]; rfl)) (hJ0_3_4 (v272, v275, v278) _ ⟨hHeld, (by (with_reducible repeat (first | apply Kd.R_alloc | apply Kd.R_drewN | apply Kd.R_drew)); exact HO276.out), (by (with_reducible repeat (first | apply Kd.R_alloc | apply Kd.R_drewN | apply Kd.R_drew)); exact HO279.out), (by (with_reducible repeat (first | refine blk_drewN ?_ _ | refine blk_drew ?_ | refine blk_alloc ?_ _)); exact BK269.out), (by (with_reducible repeat (first | refine blk_drewN ?_ _ | refine blk_drew ?_ | refine blk_alloc ?_ _)); exact BK270.out), (by repeat (first | (with_reducible first | exact HB.out | apply below_alloc | apply pw_below_drewN | apply below_drew1 | refine below_set ?_ GE269.out | refine below_set ?_ GE270.out) | exact HB.out))⟩)
        skip
        refine box_step ?hg (N := 3) ?hd (cs := #[.slice none 0 0, .slice none 0 0, .slice none 0 0]) (t := 26) ?hr ?_; (case hd => rfl); (case hg => rfl); (case hr => first | (go_simp; done) | (go_simp; rfl))
        intro gb283 hg w12 hbox hb
        have n0_ := Aside0.mk (Kd.R_below (by (with_reducible repeat (first | apply Kd.R_alloc | apply Kd.R_drewN | apply Kd.R_drew)); exact HO273.out) hb)
        have n1_ := Aside0.mk (Kd.R_below (by (with_reducible repeat (first | apply Kd.R_alloc | apply Kd.R_drewN | apply Kd.R_drew)); exact HO279.out) hb)
        have n2_ := Aside0.mk (blk_below (g := gb269) (o := .cells #[.slice A0_0 l0_0.length c0_0, .slice A0_1 l0_1.length c0_1, .slice A0_2 l0_2.length c0_2] 26 (0, 0)) (by (with_reducible repeat (first | refine blk_drewN ?_ _ | refine blk_drew ?_ | refine blk_alloc ?_ _)); exact BK269.out) hb)
        have n3_ := Aside0.mk (blk_below (g := gb270) (o := .cells #[.slice none 0 0, .slice none 0 0, .slice none 0 0] 26 (0, 0)) (by (with_reducible repeat (first | refine blk_drewN ?_ _ | refine blk_drew ?_ | refine blk_alloc ?_ _)); exact BK270.out) hb)
        have n4_ := Aside0.mk (below_step (by repeat (first | (with_reducible first | exact HB.out | apply below_alloc | apply pw_below_drewN | apply below_drew1 | refine below_set ?_ GE269.out | refine below_set ?_ GE270.out) | exact HB.out)) hb)
        have n5_ := Aside0.mk (hbox)
        have n6_ := Aside0.mk ((by rw [hg]; exact (below_size (by repeat (first | (with_reducible first | exact HB.out | apply below_alloc | apply pw_below_drewN | apply below_drew1 | refine below_set ?_ GE269.out | refine below_set ?_ GE270.out) | exact HB.out))) : w.heap.size ≤ gb283))
        have n7_ := Aside0.mk ((by rw [hg]; exact (below_size (by repeat (first | (with_reducible first | exact HB.out | apply below_alloc | apply pw_below_drewN | apply below_drew1 | refine below_set ?_ GE269.out | refine below_set ?_ GE270.out) | exact HB.out))) : w.heap.size ≤ gb283))
        have n8_ := Aside0.mk ((by rw [hg]; exact Nat.ne_of_lt (blk_lt (g := gb269) (o := .cells #[.slice A0_0 l0_0.length c0_0, .slice A0_1 l0_1.length c0_1, .slice A0_2 l0_2.length c0_2] 26 (0, 0)) (by (with_reducible repeat (first | refine blk_drewN ?_ _ | refine blk_drew ?_ | refine blk_alloc ?_ _)); exact BK269.out)) : gb269 ≠ gb283))
        have n9_ := Aside0.mk ((by rw [hg]; exact Nat.ne_of_gt (blk_lt (g := gb269) (o := .cells #[.slice A0_0 l0_0.length c0_0, .slice A0_1 l0_1.length c0_1, .slice A0_2 l0_2.length c0_2] 26 (0, 0)) (by (with_reducible repeat (first | refine blk_drewN ?_ _ | refine blk_drew ?_ | refine blk_alloc ?_ _)); exact BK269.out)) : gb283 ≠ gb269))
        have n10_ := Aside0.mk ((by rw [hg]; exact Nat.ne_of_lt (blk_lt (g := gb270) (o := .cells #[.slice none 0 0, .slice none 0 0, .slice none 0 0] 26 (0, 0)) (by (with_reducible repeat (first | refine blk_drewN ?_ _ | refine blk_drew ?_ | refine blk_alloc ?_ _)); exact BK270.out)) : gb270 ≠ gb283))
        have n11_ := Aside0.mk ((by rw [hg]; exact Nat.ne_of_gt (blk_lt (g := gb270) (o := .cells #[.slice none 0 0, .slice none 0 0, .slice none 0 0] 26 (0, 0)) (by (with_reducible repeat (first | refine blk_drewN ?_ _ | refine blk_drew ?_ | refine blk_alloc ?_ _)); exact BK270.out)) : gb283 ≠ gb270))
        clear HO273
        clear HO279
        clear BK269
        clear BK270
        clear HB
        have HO273 := n0_
        have HO279 := n1_
        have BK269 := n2_
        have BK270 := n3_
        have HB := n4_
        have BK283 := n5_
        have GW283 := n6_
        have GE283 := n7_
        have NB269_283 := n8_
        have NB283_269 := n9_
        have NB270_283 := n10_
        have NB283_270 := n11_
        clear n0_ n1_ n2_ n3_ n4_ n5_ n6_ n7_ n8_ n9_ n10_ n11_
        clear hb hbox hg
        refine hK.out _ _ ⟨(blk_cell BK269.out 0).trans rfl, (blk_cell BK269.out 1).trans rfl, (blk_cell BK269.out 2).trans rfl⟩ (fun hHeld => ?_)
        clear hK K
        refine norm_ (a' := ?_) ?_ ?_
        rotate_left
        ·
         show Act.put _ (some 3) _ = _
         simp only [Act.put, List.setIfInBounds_toArray, List.set_cons_zero, List.set_cons_succ, i64_w, i32_w]
         rfl
        exact norm_ (by first | (simp only [putAll, Act.put, List.setIfInBounds_toArray, List.set_cons_zero, List.set_cons_succ]; done) | (simp only [putAll, Act.put, List.setIfInBounds_toArray, List.set_cons_zero, List.set_cons_succ]; rfl)) (hJ0_4_9 (v272, v278, gb283) _ ⟨hHeld, (by (with_reducible repeat (first | apply Kd.R_alloc | apply Kd.R_drewN | apply Kd.R_drew)); exact HO273.out), (by (with_reducible repeat (first | apply Kd.R_alloc | apply Kd.R_drewN | apply Kd.R_drew)); exact HO279.out), (by (with_reducible repeat (first | refine blk_drewN ?_ _ | refine blk_drew ?_ | refine blk_alloc ?_ _)); exact BK269.out), (by (with_reducible repeat (first | refine blk_drewN ?_ _ | refine blk_drew ?_ | refine blk_alloc ?_ _)); exact BK270.out), (by (with_reducible repeat (first | refine blk_drewN ?_ _ | refine blk_drew ?_ | refine blk_alloc ?_ _)); exact BK283.out), GW283.out, GE283.out, NB269_283.out, NB283_269.out, NB270_283.out, NB283_270.out, (by repeat (first | (with_reducible first | exact HB.out | apply below_alloc | apply pw_below_drewN | apply below_drew1 | refine below_set ?_ GE269.out | refine below_set ?_ GE270.out | refine below_set ?_ GE283.out) | exact HB.out))⟩)
       skip
       rintro ⟨v272, v275⟩ w10 ⟨hS_, h0_, h1_, h2_, h3_⟩
       have n0_ : Aside0 (Kd.R (Kd.int .i64) 3 w10 w.heap.size (fun _ => True) v275 y274) := ⟨h0_⟩
       have n1_ : Aside0 (w10.heap[gb269]? = some (.cells #[.slice A0_0 l0_0.length c0_0, .slice A0_1 l0_1.length c0_1, .slice A0_2 l0_2.length c0_2] 26 (0, 0))) := ⟨h1_⟩
       have n2_ : Aside0 (w10.heap[gb270]? = some (.cells #[.slice none 0 0, .slice none 0 0, .slice none 0 0] 26 (0, 0))) := ⟨h2_⟩
       have n3_ : Aside0 (Below w.heap.size w w10) := ⟨h3_⟩
       clear BK269
       clear BK270
       clear HB
       clear h0_ h1_ h2_ h3_
       have HO276 := n0_
       have BK269 := n1_
       have BK270 := n2_
       have HB := n3_
       clear n0_ n1_ n2_ n3_
       have hHeld : w10.cell? ⟨gb269, 0, none⟩ = some (.slice A0_0 l0_0.length c0_0) ∧ w10.cell? ⟨gb269, 1, none⟩ = some (.slice A0_1 l0_1.length c0_1) ∧ w10.cell? ⟨gb269, 2, none⟩ = some (.slice A0_2 l0_2.length c0_2) := hS_
       refine norm_ (a' := ?_) ?_ ?_
       rotate_left
       ·
        simp only [putAll, Act.put, List.setIfInBounds_toArray, List.set_cons_zero, List.set_cons_succ]
        rfl
       refine two_ (i := 4) (j := 9) (Ni := some 9) (Nj := some 3) #[true, true, true, true, true, true, true, false, false, false, false] #[true, true, true, true, false, true, true, false, false, true, false] rfl rfl rfl rfl (two_of HT_.out (by kernel_rfl)) (by decide) (by decide) (fun K hK => ?_) (fun K hK => ?_)
       ·
        skip
        refine Kd.R_lit_step k50 _ 50 ?hg (N := 9) ?hd (xs := ([] : List (S50))) (inner := []) (ok := fun _ => True) (okp := fun _ => True) ?hr ?hp (fun _ hk => hk) trivial (Below.refl _ _) (Nat.le_refl _) (by simp) ?_; (case hd => rfl); (case hg => rfl); (case hr => first | (go_simp; done) | (go_simp; rfl)); (case hp => exact (Reps.none _ _))
        intro v278 w11 ho12 hb hg_ hnew_
        clear hg_ hnew_
        (first | rw [← Ny277.out] at ho12 | (simp only [Int.reduceToNat] at ho12; rw [← Ny277.out] at ho12))
        have n0_ := Aside0.mk (Kd.R_below (by (with_reducible repeat (first | apply Kd.R_alloc | apply Kd.R_drewN | apply Kd.R_drew)); exact HO276.out) hb)
        have n1_ := Aside0.mk (Kd.R_lower ho12 (below_size (by repeat (first | (with_reducible first | exact HB.out | apply below_alloc | apply pw_below_drewN | apply below_drew1 | refine below_set ?_ GE269.out | refine below_set ?_ GE270.out) | exact HB.out))))
        have n2_ := Aside0.mk (blk_below (g := gb269) (o := .cells #[.slice A0_0 l0_0.length c0_0, .slice A0_1 l0_1.length c0_1, .slice A0_2 l0_2.length c0_2] 26 (0, 0)) (by (with_reducible repeat (first | refine blk_drewN ?_ _ | refine blk_drew ?_ | refine blk_alloc ?_ _)); exact BK269.out) hb)
        have n3_ := Aside0.mk (blk_below (g := gb270) (o := .cells #[.slice none 0 0, .slice none 0 0, .slice none 0 0] 26 (0, 0)) (by (with_reducible repeat (first | refine blk_drewN ?_ _ | refine blk_drew ?_ | refine blk_alloc ?_ _)); exact BK270.out) hb)
        have n4_ := Aside0.mk (below_step (by repeat (first | (with_reducible first | exact HB.out | apply below_alloc | apply pw_below_drewN | apply below_drew1 | refine below_set ?_ GE269.out | refine below_set ?_ GE270.out) | exact HB.out)) hb)
        clear HO276
        clear BK269
        clear BK270
        clear HB
        have HO276 := n0_
        have HO279 := n1_
        have BK269 := n2_
        have BK270 := n3_
        have HB := n4_
        clear n0_ n1_ n2_ n3_ n4_
        clear hb ho12
        refine hK.out _ _ ⟨(blk_cell BK269.out 0).trans rfl, (blk_cell BK269.out 1).trans rfl, (blk_cell BK269.out 2).trans rfl⟩ (fun hHeld => ?_)
        clear hK K
        refine norm_ (a' := ?_) ?_ ?_
        rotate_left
        ·
         show Act.put _ (some 9) _ = _
         simp only [Act.put, List.setIfInBounds_toArray, List.set_cons_zero, List.set_cons_succ, i64_w, i32_w]
         rfl
        exact norm_ (by first | (simp only [putAll, Act.put, List.setIfInBounds_toArray, List.set_cons_zero, List.set_cons_succ]; done) | (simp only [putAll, Act.put, List.setIfInBounds_toArray, List.set_cons_zero, List.set_cons_succ]; rfl)) (hJ0_3_4 (v272, v275, v278) _ ⟨hHeld, (by (with_reducible repeat (first | apply Kd.R_alloc | apply Kd.R_drewN | apply Kd.R_drew)); exact HO276.out), (by (with_reducible repeat (first | apply Kd.R_alloc | apply Kd.R_drewN | apply Kd.R_drew)); exact HO279.out), (by (with_reducible repeat (first | refine blk_drewN ?_ _ | refine blk_drew ?_ | refine blk_alloc ?_ _)); exact BK269.out), (by (with_reducible repeat (first | refine blk_drewN ?_ _ | refine blk_drew ?_ | refine blk_alloc ?_ _)); exact BK270.out), (by repeat (first | (with_reducible first | exact HB.out | apply below_alloc | apply pw_below_drewN | apply below_drew1 | refine below_set ?_ GE269.out | refine below_set ?_ GE270.out) | exact HB.out))⟩)
       skip
       refine box_step ?hg (N := 3) ?hd (cs := #[.slice none 0 0, .slice none 0 0, .slice none 0 0]) (t := 26) ?hr ?_; (case hd => rfl); (case hg => rfl); (case hr => first | (go_simp; done) | (go_simp; rfl))
       intro gb283 hg w11 hbox hb
       have n0_ := Aside0.mk (Kd.R_below (by (with_reducible repeat (first | apply Kd.R_alloc | apply Kd.R_drewN | apply Kd.R_drew)); exact HO276.out) hb)
       have n1_ := Aside0.mk (blk_below (g := gb269) (o := .cells #[.slice A0_0 l0_0.length c0_0, .slice A0_1 l0_1.length c0_1, .slice A0_2 l0_2.length c0_2] 26 (0, 0)) (by (with_reducible repeat (first | refine blk_drewN ?_ _ | refine blk_drew ?_ | refine blk_alloc ?_ _)); exact BK269.out) hb)
       have n2_ := Aside0.mk (blk_below (g := gb270) (o := .cells #[.slice none 0 0, .slice none 0 0, .slice none 0 0] 26 (0, 0)) (by (with_reducible repeat (first | refine blk_drewN ?_ _ | refine blk_drew ?_ | refine blk_alloc ?_ _)); exact BK270.out) hb)
       have n3_ := Aside0.mk (below_step (by repeat (first | (with_reducible first | exact HB.out | apply below_alloc | apply pw_below_drewN | apply below_drew1 | refine below_set ?_ GE269.out | refine below_set ?_ GE270.out) | exact HB.out)) hb)
       have n4_ := Aside0.mk (hbox)
       have n5_ := Aside0.mk ((by rw [hg]; exact (below_size (by repeat (first | (with_reducible first | exact HB.out | apply below_alloc | apply pw_below_drewN | apply below_drew1 | refine below_set ?_ GE269.out | refine below_set ?_ GE270.out) | exact HB.out))) : w.heap.size ≤ gb283))
       have n6_ := Aside0.mk ((by rw [hg]; exact (below_size (by repeat (first | (with_reducible first | exact HB.out | apply below_alloc | apply pw_below_drewN | apply below_drew1 | refine below_set ?_ GE269.out | refine below_set ?_ GE270.out) | exact HB.out))) : w.heap.size ≤ gb283))
       have n7_ := Aside0.mk ((by rw [hg]; exact Nat.ne_of_lt (blk_lt (g := gb269) (o := .cells #[.slice A0_0 l0_0.length c0_0, .slice A0_1 l0_1.length c0_1, .slice A0_2 l0_2.length c0_2] 26 (0, 0)) (by (with_reducible repeat (first | refine blk_drewN ?_ _ | refine blk_drew ?_ | refine blk_alloc ?_ _)); exact BK269.out)) : gb269 ≠ gb283))
       have n8_ := Aside0.mk ((by rw [hg]; exact Nat.ne_of_gt (blk_lt (g := gb269) (o := .cells #[.slice A0_0 l0_0.length c0_0, .slice A0_1 l0_1.length c0_1, .slice A0_2 l0_2.length c0_2] 26 (0, 0)) (by (with_reducible repeat (first | refine blk_drewN ?_ _ | refine blk_drew ?_ | refine blk_alloc ?_ _)); exact BK269.out)) : gb283 ≠ gb269))
       have n9_ := Aside0.mk ((by rw [hg]; exact Nat.ne_of_lt (blk_lt (g := gb270) (o := .cells #[.slice none 0 0, .slice none 0 0, .slice none 0 0] 26 (0, 0)) (by (with_reducible repeat (first | refine blk_drewN ?_ _ | refine blk_drew ?_ | refine blk_alloc ?_ _)); exact BK270.out)) : gb270 ≠ gb283))
       have n10_ := Aside0.mk ((by rw [hg]; exact Nat.ne_of_gt (blk_lt (g := gb270) (o := .cells #[.slice none 0 0, .slice none 0 0, .slice none 0 0] 26 (0, 0)) (by (with_reducible repeat (first | refine blk_drewN ?_ _ | refine blk_drew ?_ | refine blk_alloc ?_ _)); exact BK270.out)) : gb283 ≠ gb270))
       clear HO276
       clear BK269
       clear BK270
       clear HB
       have HO276 := n0_
       have BK269 := n1_
       have BK270 := n2_
       have HB := n3_
       have BK283 := n4_
       have GW283 := n5_
       have GE283 := n6_
       have NB269_283 := n7_
       have NB283_269 := n8_
       have NB270_283 := n9_
       have NB283_270 := n10_
       clear n0_ n1_ n2_ n3_ n4_ n5_ n6_ n7_ n8_ n9_ n10_
       clear hb hbox hg
       refine hK.out _ _ ⟨(blk_cell BK269.out 0).trans rfl, (blk_cell BK269.out 1).trans rfl, (blk_cell BK269.out 2).trans rfl⟩ (fun hHeld => ?_)
       clear hK K
       refine norm_ (a' := ?_) ?_ ?_
       rotate_left
       ·
        show Act.put _ (some 3) _ = _
        simp only [Act.put, List.setIfInBounds_toArray, List.set_cons_zero, List.set_cons_succ, i64_w, i32_w]
        rfl
       exact norm_ (by first | (simp only [putAll, Act.put, List.setIfInBounds_toArray, List.set_cons_zero, List.set_cons_succ]; done) | (simp only [putAll, Act.put, List.setIfInBounds_toArray, List.set_cons_zero, List.set_cons_succ]; rfl)) (hJ0_3_9 (v272, v275, gb283) _ ⟨hHeld, (by (with_reducible repeat (first | apply Kd.R_alloc | apply Kd.R_drewN | apply Kd.R_drew)); exact HO276.out), (by (with_reducible repeat (first | refine blk_drewN ?_ _ | refine blk_drew ?_ | refine blk_alloc ?_ _)); exact BK269.out), (by (with_reducible repeat (first | refine blk_drewN ?_ _ | refine blk_drew ?_ | refine blk_alloc ?_ _)); exact BK270.out), (by (with_reducible repeat (first | refine blk_drewN ?_ _ | refine blk_drew ?_ | refine blk_alloc ?_ _)); exact BK283.out), GW283.out, GE283.out, NB269_283.out, NB283_269.out, NB270_283.out, NB283_270.out, (by repeat (first | (with_reducible first | exact HB.out | apply below_alloc | apply pw_below_drewN | apply below_drew1 | refine below_set ?_ GE269.out | refine below_set ?_ GE270.out | refine below_set ?_ GE283.out) | exact HB.out))⟩)
      skip
      rintro ⟨v272, v278, gb283⟩ w12 ⟨hS_, h0_, h1_, h2_, h3_, h4_, h5_, h6_, h7_, h8_, h9_, h10_, h11_⟩
      have n0_ : Aside0 (Kd.R (Kd.int .i64) 3 w12 w.heap.size (fun _ => True) v272 y271) := ⟨h0_⟩
      have n1_ : Aside0 (Kd.R k50 50 w12 w.heap.size (fun _ => True) v278 y277) := ⟨h1_⟩
      have n2_ : Aside0 (w12.heap[gb269]? = some (.cells #[.slice A0_0 l0_0.length c0_0, .slice A0_1 l0_1.length c0_1, .slice A0_2 l0_2.length c0_2] 26 (0, 0))) := ⟨h2_⟩
      have n3_ : Aside0 (w12.heap[gb270]? = some (.cells #[.slice none 0 0, .slice none 0 0, .slice none 0 0] 26 (0, 0))) := ⟨h3_⟩
      have n4_ : Aside0 (w12.heap[gb283]? = some (.cells #[.slice none 0 0, .slice none 0 0, .slice none 0 0] 26 (0, 0))) := ⟨h4_⟩
      have n5_ : Aside0 (w.heap.size ≤ gb283) := ⟨h5_⟩
      have n6_ : Aside0 (w.heap.size ≤ gb283) := ⟨h6_⟩
      have n7_ : Aside0 (gb269 ≠ gb283) := ⟨h7_⟩
      have n8_ : Aside0 (gb283 ≠ gb269) := ⟨h8_⟩
      have n9_ : Aside0 (gb270 ≠ gb283) := ⟨h9_⟩
      have n10_ : Aside0 (gb283 ≠ gb270) := ⟨h10_⟩
      have n11_ : Aside0 (Below w.heap.size w w12) := ⟨h11_⟩
      clear BK269
      clear BK270
      clear HB
      clear h0_ h1_ h2_ h3_ h4_ h5_ h6_ h7_ h8_ h9_ h10_ h11_
      have HO273 := n0_
      have HO279 := n1_
      have BK269 := n2_
      have BK270 := n3_
      have BK283 := n4_
      have GW283 := n5_
      have GE283 := n6_
      have NB269_283 := n7_
      have NB283_269 := n8_
      have NB270_283 := n9_
      have NB283_270 := n10_
      have HB := n11_
      clear n0_ n1_ n2_ n3_ n4_ n5_ n6_ n7_ n8_ n9_ n10_ n11_
      have hHeld : w12.cell? ⟨gb269, 0, none⟩ = some (.slice A0_0 l0_0.length c0_0) ∧ w12.cell? ⟨gb269, 1, none⟩ = some (.slice A0_1 l0_1.length c0_1) ∧ w12.cell? ⟨gb269, 2, none⟩ = some (.slice A0_2 l0_2.length c0_2) := hS_
      refine norm_ (a' := ?_) ?_ ?_
      rotate_left
      ·
       simp only [putAll, Act.put, List.setIfInBounds_toArray, List.set_cons_zero, List.set_cons_succ]
       rfl
      refine one_ (i := 3) (N := some 8) #[true, true, true, true, true, true, true, false, false, true, false] rfl rfl (one_of HT_.out (by kernel_rfl)) (by decide) (fun K hK => ?_)
      refine Kd.R_append_rows_step (Kd.int .i64) (w0 := w) w.heap.size (by rfl) (.tmp 5) (.tmp 7) 22 3 (.int .i64 0) 8 rfl Try.underlying22 info3 rfl (by decide) (by omega) v272 y271 l0_0 _ _ _ (fun _ => True) (fun _ => False) rfl rfl ?aO ?aR (fun _ _ h => h) (fun _ h => h.elim) ?aF ?aB ?aS ?aL ?_
      (case aR => repeat (first | exact (Kd.C_below HR0_0.out HB.out) | (with_reducible refine Kd.C_alloc ?_ _) | (with_reducible refine Kd.C_drewN ?_ _) | (with_reducible refine Kd.C_drew ?_)))
      (case aB => exact (by repeat (first | (with_reducible first | exact HB.out | apply below_alloc | apply pw_below_drewN | apply below_drew1 | refine below_set ?_ GE269.out | refine below_set ?_ GE270.out | refine below_set ?_ GE283.out) | exact HB.out)))
      (case aF => exact (fun _ _ => trivial))
      (case aO => exact (by (with_reducible repeat (first | apply Kd.R_alloc | apply Kd.R_drewN | apply Kd.R_drew)); exact HO273.out))
      (case aS => exact (below_size (by repeat (first | (with_reducible first | exact HB.out | apply below_alloc | apply pw_below_drewN | apply below_drew1 | refine below_set ?_ GE269.out | refine below_set ?_ GE270.out | refine below_set ?_ GE283.out) | exact HB.out))))
      (case aL => have := LMc2.out; omega)
      intro v275 w13 ho hb hg hat
      rw [← Ny274.out] at ho
      have n0_ := Aside0.mk (blk_grown (g := gb269) (o := .cells #[.slice A0_0 l0_0.length c0_0, .slice A0_1 l0_1.length c0_1, .slice A0_2 l0_2.length c0_2] 26 (0, 0)) (by (with_reducible repeat (first | refine blk_drewN ?_ _ | refine blk_drew ?_ | refine blk_alloc ?_ _)); exact BK269.out) hg (Kd.R_ne HO273.out BK269.out (by decide)))
      have n1_ := Aside0.mk (blk_grown (g := gb270) (o := .cells #[.slice none 0 0, .slice none 0 0, .slice none 0 0] 26 (0, 0)) (by (with_reducible repeat (first | refine blk_drewN ?_ _ | refine blk_drew ?_ | refine blk_alloc ?_ _)); exact BK270.out) hg (Kd.R_ne HO273.out BK270.out (by decide)))
      have n2_ := Aside0.mk (Kd.R_over' (by (with_reducible repeat (first | apply Kd.R_alloc | apply Kd.R_drewN | apply Kd.R_drew)); exact HO279.out) (Kd.R_typed (by (with_reducible repeat (first | apply Kd.R_alloc | apply Kd.R_drewN | apply Kd.R_drew)); exact HO273.out)) (by decide) hg)
      have n3_ := Aside0.mk (blk_grown (g := gb283) (o := .cells #[.slice none 0 0, .slice none 0 0, .slice none 0 0] 26 (0, 0)) (by (with_reducible repeat (first | refine blk_drewN ?_ _ | refine blk_drew ?_ | refine blk_alloc ?_ _)); exact BK283.out) hg (Kd.R_ne HO273.out BK283.out (by decide)))
      have n4_ := Aside0.mk (hb)
      have n5_ := Aside0.mk (ho)
      clear BK269
      clear BK270
      clear HO279
      clear BK283
      clear HB
      clear HO273
      have BK269 := n0_
      have BK270 := n1_
      have HO279 := n2_
      have BK283 := n3_
      have HB := n4_
      have HO276 := n5_
      clear n0_ n1_ n2_ n3_ n4_ n5_
      clear ho hb hg hat
      refine hK.out _ _ ⟨(blk_cell BK269.out 0).trans rfl, (blk_cell BK269.out 1).trans rfl, (blk_cell BK269.out 2).trans rfl⟩ (fun hHeld => ?_)
      clear hK K
      refine norm_ (a' := ?_) ?_ ?_
      rotate_left
      ·
       show Act.put _ (some 8) _ = _
       simp only [Act.put, List.setIfInBounds_toArray, List.set_cons_zero, List.set_cons_succ, i64_w, i32_w]
       rfl
      exact norm_ (by first | (simp only [putAll, Act.put, List.setIfInBounds_toArray, List.set_cons_zero, List.set_cons_succ]; done) | (simp only [putAll, Act.put, List.setIfInBounds_toArray, List.set_cons_zero, List.set_cons_succ]; rfl)) (hJ0_3_4_9 (v272, v275, v278, gb283) _ ⟨hHeld, (by (with_reducible repeat (first | apply Kd.R_alloc | apply Kd.R_drewN | apply Kd.R_drew)); exact HO276.out), (by (with_reducible repeat (first | apply Kd.R_alloc | apply Kd.R_drewN | apply Kd.R_drew)); exact HO279.out), (by (with_reducible repeat (first | refine blk_drewN ?_ _ | refine blk_drew ?_ | refine blk_alloc ?_ _)); exact BK269.out), (by (with_reducible repeat (first | refine blk_drewN ?_ _ | refine blk_drew ?_ | refine blk_alloc ?_ _)); exact BK270.out), (by (with_reducible repeat (first | refine blk_drewN ?_ _ | refine blk_drew ?_ | refine blk_alloc ?_ _)); exact BK283.out), GW283.out, GE283.out, NB269_283.out, NB283_269.out, NB270_283.out, NB283_270.out, (by repeat (first | (with_reducible first | exact HB.out | apply below_alloc | apply pw_below_drewN | apply below_drew1 | refine below_set ?_ GE269.out | refine below_set ?_ GE270.out | refine below_set ?_ GE283.out) | exact HB.out))⟩)
     skip
     rintro ⟨v272, v275, gb283⟩ w11 ⟨hS_, h0_, h1_, h2_, h3_, h4_, h5_, h6_, h7_, h8_, h9_, h10_⟩
     have n0_ : Aside0 (Kd.R (Kd.int .i64) 3 w11 w.heap.size (fun _ => True) v275 y274) := ⟨h0_⟩
     have n1_ : Aside0 (w11.heap[gb269]? = some (.cells #[.slice A0_0 l0_0.length c0_0, .slice A0_1 l0_1.length c0_1, .slice A0_2 l0_2.length c0_2] 26 (0, 0))) := ⟨h1_⟩
     have n2_ : Aside0 (w11.heap[gb270]? = some (.cells #[.slice none 0 0, .slice none 0 0, .slice none 0 0] 26 (0, 0))) := ⟨h2_⟩
     have n3_ : Aside0 (w11.heap[gb283]? = some (.cells #[.slice none 0 0, .slice none 0 0, .slice none 0 0] 26 (0, 0))) := ⟨h3_⟩
     have n4_ : Aside0 (w.heap.size ≤ gb283) := ⟨h4_⟩
     have n5_ : Aside0 (w.heap.size ≤ gb283) := ⟨h5_⟩
     have n6_ : Aside0 (gb269 ≠ gb283) := ⟨h6_⟩
     have n7_ : Aside0 (gb283 ≠ gb269) := ⟨h7_⟩
     have n8_ : Aside0 (gb270 ≠ gb283) := ⟨h8_⟩
     have n9_ : Aside0 (gb283 ≠ gb270) := ⟨h9_⟩
     have n10_ : Aside0 (Below w.heap.size w w11) := ⟨h10_⟩
     clear BK269
     clear BK270
     clear HB
     clear h0_ h1_ h2_ h3_ h4_ h5_ h6_ h7_ h8_ h9_ h10_
     have HO276 := n0_
     have BK269 := n1_
     have BK270 := n2_
     have BK283 := n3_
     have GW283 := n4_
     have GE283 := n5_
     have NB269_283 := n6_
     have NB283_269 := n7_
     have NB270_283 := n8_
     have NB283_270 := n9_
     have HB := n10_
     clear n0_ n1_ n2_ n3_ n4_ n5_ n6_ n7_ n8_ n9_ n10_
     have hHeld : w11.cell? ⟨gb269, 0, none⟩ = some (.slice A0_0 l0_0.length c0_0) ∧ w11.cell? ⟨gb269, 1, none⟩ = some (.slice A0_1 l0_1.length c0_1) ∧ w11.cell? ⟨gb269, 2, none⟩ = some (.slice A0_2 l0_2.length c0_2) := hS_
     refine norm_ (a' := ?_) ?_ ?_
     rotate_left
     ·
      simp only [putAll, Act.put, List.setIfInBounds_toArray, List.set_cons_zero, List.set_cons_succ]
      rfl
     refine one_ (i := 4) (N := some 9) #[true, true, true, true, true, true, true, false, false, true, false] rfl rfl (one_of HT_.out (by kernel_rfl)) (by decide) (fun K hK => ?_)
     refine Kd.R_lit_step k50 _ 50 ?hg (N := 9) ?hd (xs := ([] : List (S50))) (inner := []) (ok := fun _ => True) (okp := fun _ => True) ?hr ?hp (fun _ hk => hk) trivial (Below.refl _ _) (Nat.le_refl _) (by simp) ?_; (case hd => rfl); (case hg => rfl); (case hr => first | (go_simp; done) | (go_simp; rfl)); (case hp => exact (Reps.none _ _))
     intro v278 w12 ho13 hb hg_ hnew_
     clear hg_ hnew_
     (first | rw [← Ny277.out] at ho13 | (simp only [Int.reduceToNat] at ho13; rw [← Ny277.out] at ho13))
     have n0_ := Aside0.mk (Kd.R_below (by (with_reducible repeat (first | apply Kd.R_alloc | apply Kd.R_drewN | apply Kd.R_drew)); exact HO276.out) hb)
     have n1_ := Aside0.mk (Kd.R_lower ho13 (below_size (by repeat (first | (with_reducible first | exact HB.out | apply below_alloc | apply pw_below_drewN | apply below_drew1 | refine below_set ?_ GE269.out | refine below_set ?_ GE270.out | refine below_set ?_ GE283.out) | exact HB.out))))
     have n2_ := Aside0.mk (blk_below (g := gb269) (o := .cells #[.slice A0_0 l0_0.length c0_0, .slice A0_1 l0_1.length c0_1, .slice A0_2 l0_2.length c0_2] 26 (0, 0)) (by (with_reducible repeat (first | refine blk_drewN ?_ _ | refine blk_drew ?_ | refine blk_alloc ?_ _)); exact BK269.out) hb)
     have n3_ := Aside0.mk (blk_below (g := gb270) (o := .cells #[.slice none 0 0, .slice none 0 0, .slice none 0 0] 26 (0, 0)) (by (with_reducible repeat (first | refine blk_drewN ?_ _ | refine blk_drew ?_ | refine blk_alloc ?_ _)); exact BK270.out) hb)
     have n4_ := Aside0.mk (blk_below (g := gb283) (o := .cells #[.slice none 0 0, .slice none 0 0, .slice none 0 0] 26 (0, 0)) (by (with_reducible repeat (first | refine blk_drewN ?_ _ | refine blk_drew ?_ | refine blk_alloc ?_ _)); exact BK283.out) hb)
     have n5_ := Aside0.mk (below_step (by repeat (first | (with_reducible first | exact HB.out | apply below_alloc | apply pw_below_drewN | apply below_drew1 | refine below_set ?_ GE269.out | refine below_set ?_ GE270.out | refine below_set ?_ GE283.out) | exact HB.out)) hb)
     clear HO276
     clear BK269
     clear BK270
     clear BK283
     clear HB
     have HO276 := n0_
     have HO279 := n1_
     have BK269 := n2_
     have BK270 := n3_
     have BK283 := n4_
     have HB := n5_
     clear n0_ n1_ n2_ n3_ n4_ n5_
     clear hb ho13
     refine hK.out _ _ ⟨(blk_cell BK269.out 0).trans rfl, (blk_cell BK269.out 1).trans rfl, (blk_cell BK269.out 2).trans rfl⟩ (fun hHeld => ?_)
     clear hK K
     refine norm_ (a' := ?_) ?_ ?_
     rotate_left
     ·
      show Act.put _ (some 9) _ = _
      simp only [Act.put, List.setIfInBounds_toArray, List.set_cons_zero, List.set_cons_succ, i64_w, i32_w]
      rfl
     exact norm_ (by first | (simp only [putAll, Act.put, List.setIfInBounds_toArray, List.set_cons_zero, List.set_cons_succ]; done) | (simp only [putAll, Act.put, List.setIfInBounds_toArray, List.set_cons_zero, List.set_cons_succ]; rfl)) (hJ0_3_4_9 (v272, v275, v278, gb283) _ ⟨hHeld, (by (with_reducible repeat (first | apply Kd.R_alloc | apply Kd.R_drewN | apply Kd.R_drew)); exact HO276.out), (by (with_reducible repeat (first | apply Kd.R_alloc | apply Kd.R_drewN | apply Kd.R_drew)); exact HO279.out), (by (with_reducible repeat (first | refine blk_drewN ?_ _ | refine blk_drew ?_ | refine blk_alloc ?_ _)); exact BK269.out), (by (with_reducible repeat (first | refine blk_drewN ?_ _ | refine blk_drew ?_ | refine blk_alloc ?_ _)); exact BK270.out), (by (with_reducible repeat (first | refine blk_drewN ?_ _ | refine blk_drew ?_ | refine blk_alloc ?_ _)); exact BK283.out), GW283.out, GE283.out, NB269_283.out, NB283_269.out, NB270_283.out, NB283_270.out, (by repeat (first | (with_reducible first | exact HB.out | apply below_alloc | apply pw_below_drewN | apply below_drew1 | refine below_set ?_ GE269.out | refine below_set ?_ GE270.out | refine below_set ?_ GE283.out) | exact HB.out))⟩)
    skip
    rintro ⟨v272, v275, v278⟩ w12 ⟨hS_, h0_, h1_, h2_, h3_, h4_⟩
    have n0_ : Aside0 (Kd.R (Kd.int .i64) 3 w12 w.heap.size (fun _ => True) v275 y274) := ⟨h0_⟩
    have n1_ : Aside0 (Kd.R k50 50 w12 w.heap.size (fun _ => True) v278 y277) := ⟨h1_⟩
    have n2_ : Aside0 (w12.heap[gb269]? = some (.cells #[.slice A0_0 l0_0.length c0_0, .slice A0_1 l0_1.length c0_1, .slice A0_2 l0_2.length c0_2] 26 (0, 0))) := ⟨h2_⟩
    have n3_ : Aside0 (w12.heap[gb270]? = some (.cells #[.slice none 0 0, .slice none 0 0, .slice none 0 0] 26 (0, 0))) := ⟨h3_⟩
    have n4_ : Aside0 (Below w.heap.size w w12) := ⟨h4_⟩
    clear BK269
    clear BK270
    clear HB
    clear h0_ h1_ h2_ h3_ h4_
    have HO276 := n0_
    have HO279 := n1_
    have BK269 := n2_
    have BK270 := n3_
    have HB := n4_
    clear n0_ n1_ n2_ n3_ n4_
    have hHeld : w12.cell? ⟨gb269, 0, none⟩ = some (.slice A0_0 l0_0.length c0_0) ∧ w12.cell? ⟨gb269, 1, none⟩ = some (.slice A0_1 l0_1.length c0_1) ∧ w12.cell? ⟨gb269, 2, none⟩ = some (.slice A0_2 l0_2.length c0_2) := hS_
    refine norm_ (a' := ?_) ?_ ?_
    rotate_left
    ·
     simp only [putAll, Act.put, List.setIfInBounds_toArray, List.set_cons_zero, List.set_cons_succ]
     rfl
    refine two_ (i := 7) (j := 9) (Ni := some 12) (Nj := some 3) #[true, true, true, true, true, true, true, true, false, false, false] #[true, true, true, true, true, true, true, false, false, true, false] rfl rfl rfl rfl (two_of HT_.out (by kernel_rfl)) (by decide) (by decide) (fun K hK => ?_) (fun K hK => ?_)
    ·
     skip
     refine Kd.R_append_rows_step k50 (w0 := w) w.heap.size (by rfl) (.tmp 9) (.tmp 11) 23 50 (.agg #[(.int .i64 0), (.int .i64 0), (.int .i64 0)]) 24 rfl Try.underlying23 info50 rfl (by decide) (by omega) v278 y277 l0_1 _ _ _ (fun _ => True) (fun _ => False) rfl rfl ?aO ?aR (fun _ _ h => h) (fun _ h => h.elim) ?aF ?aB ?aS ?aL ?_
     (case aR => repeat (first | exact (Kd.C_below HR0_1.out HB.out) | (with_reducible refine Kd.C_alloc ?_ _) | (with_reducible refine Kd.C_drewN ?_ _) | (with_reducible refine Kd.C_drew ?_)))
     (case aB => exact (by repeat (first | (with_reducible first | exact HB.out | apply below_alloc | apply pw_below_drewN | apply below_drew1 | refine below_set ?_ GE269.out | refine below_set ?_ GE270.out) | exact HB.out)))
     (case aF => exact (fun _ _ => trivial))
     (case aO => exact (by (with_reducible repeat (first | apply Kd.R_alloc | apply Kd.R_drewN | apply Kd.R_drew)); exact HO279.out))
     (case aS => exact (below_size (by repeat (first | (with_reducible first | exact HB.out | apply below_alloc | apply pw_below_drewN | apply below_drew1 | refine below_set ?_ GE269.out | refine below_set ?_ GE270.out) | exact HB.out))))
     (case aL => have := LMc3.out; omega)
     intro v281 w13 ho hb hg hat
     rw [← Ny280.out] at ho
     have n0_ := Aside0.mk (blk_grown (g := gb269) (o := .cells #[.slice A0_0 l0_0.length c0_0, .slice A0_1 l0_1.length c0_1, .slice A0_2 l0_2.length c0_2] 26 (0, 0)) (by (with_reducible repeat (first | refine blk_drewN ?_ _ | refine blk_drew ?_ | refine blk_alloc ?_ _)); exact BK269.out) hg (Kd.R_ne HO279.out BK269.out (by decide)))
     have n1_ := Aside0.mk (blk_grown (g := gb270) (o := .cells #[.slice none 0 0, .slice none 0 0, .slice none 0 0] 26 (0, 0)) (by (with_reducible repeat (first | refine blk_drewN ?_ _ | refine blk_drew ?_ | refine blk_alloc ?_ _)); exact BK270.out) hg (Kd.R_ne HO279.out BK270.out (by decide)))
     have n2_ := Aside0.mk (Kd.R_over' (by (with_reducible repeat (first | apply Kd.R_alloc | apply Kd.R_drewN | apply Kd.R_drew)); exact HO276.out) (Kd.R_typed (by (with_reducible repeat (first | apply Kd.R_alloc | apply Kd.R_drewN | apply Kd.R_drew)); exact HO279.out)) (by decide) hg)
     have n3_ := Aside0.mk (hb)
     have n4_ := Aside0.mk (ho)
     clear BK269
     clear BK270
     clear HO276
     clear HB
     clear HO279
     have BK269 := n0_
     have BK270 := n1_
     have HO276 := n2_
     have HB := n3_
     have HO282 := n4_
     clear n0_ n1_ n2_ n3_ n4_
     clear ho hb hg hat
     obtain ⟨Ao14, co14, eo14⟩ := Kd.R_slice HO282.out
     (first | subst eo14 | (injection eo14 with f1_ f2_ f3_; have f4_ := f1_.symm; have f5_ := f3_.symm; clear f1_ f2_ f3_; subst f4_; subst f5_))
     obtain ⟨Ao15, co15, eo15⟩ := Kd.R_slice HO276.out
     (first | subst eo15 | (injection eo15 with f1_ f2_ f3_; have f4_ := f1_.symm; have f5_ := f3_.symm; clear f1_ f2_ f3_; subst f4_; subst f5_))
     refine hK.out _ _ ⟨(blk_cell BK269.out 0).trans rfl, (blk_cell BK269.out 1).trans rfl, (blk_cell BK269.out 2).trans rfl⟩ (fun hHeld => ?_)
     clear hK K
     refine norm_ (a' := ?_) ?_ ?_
     rotate_left
     ·
      show Act.put _ (some 12) _ = _
      simp only [Act.put, List.setIfInBounds_toArray, List.set_cons_zero, List.set_cons_succ, i64_w, i32_w]
      rfl
     refine pure_ (i := 8) (N := some 13) (v := ?_) (a' := ?_) #[true, true, true, true, true, true, true, true, true, false, false] rfl rfl (any_of HT_.out (by kernel_rfl)) (fun _ _ _ h => h) (Or.inl ⟨by rfl, ?_⟩) ?_ ?_
     rotate_left
     ·
      intro w'
      go_simp
      with_reducible rfl
     rotate_left
     ·
      simp only [Act.put, List.setIfInBounds_toArray, List.set_cons_zero, List.set_cons_succ, i64_w, i32_w]
      rfl
     exact norm_ (by first | (simp only [putAll, Act.put, List.setIfInBounds_toArray, List.set_cons_zero, List.set_cons_succ]; done) | (simp only [putAll, Act.put, List.setIfInBounds_toArray, List.set_cons_zero, List.set_cons_succ]; rfl)) (hJ0_3_4_7 (v272, .slice Ao15 y274.length co15, v278, .slice Ao14 y280.length co14) _ ⟨hHeld, (by (with_reducible repeat (first | apply Kd.R_alloc | apply Kd.R_drewN | apply Kd.R_drew)); exact HO276.out), (by (with_reducible repeat (first | apply Kd.R_alloc | apply Kd.R_drewN | apply Kd.R_drew)); exact HO282.out), (by (with_reducible repeat (first | refine blk_drewN ?_ _ | refine blk_drew ?_ | refine blk_alloc ?_ _)); exact BK269.out), (by (with_reducible repeat (first | refine blk_drewN ?_ _ | refine blk_drew ?_ | refine blk_alloc ?_ _)); exact BK270.out), (by repeat (first | (with_reducible first | exact HB.out | apply below_alloc | apply pw_below_drewN | apply below_drew1 | refine below_set ?_ GE269.out | refine below_set ?_ GE270.out) | exact HB.out))⟩)
    skip
    refine box_step ?hg (N := 3) ?hd (cs := #[.slice none 0 0, .slice none 0 0, .slice none 0 0]) (t := 26) ?hr ?_; (case hd => rfl); (case hg => rfl); (case hr => first | (go_simp; done) | (go_simp; rfl))
    intro gb283 hg w13 hbox hb
    have n0_ := Aside0.mk (Kd.R_below (by (with_reducible repeat (first | apply Kd.R_alloc | apply Kd.R_drewN | apply Kd.R_drew)); exact HO276.out) hb)
    have n1_ := Aside0.mk (Kd.R_below (by (with_reducible repeat (first | apply Kd.R_alloc | apply Kd.R_drewN | apply Kd.R_drew)); exact HO279.out) hb)
    have n2_ := Aside0.mk (blk_below (g := gb269) (o := .cells #[.slice A0_0 l0_0.length c0_0, .slice A0_1 l0_1.length c0_1, .slice A0_2 l0_2.length c0_2] 26 (0, 0)) (by (with_reducible repeat (first | refine blk_drewN ?_ _ | refine blk_drew ?_ | refine blk_alloc ?_ _)); exact BK269.out) hb)
    have n3_ := Aside0.mk (blk_below (g := gb270) (o := .cells #[.slice none 0 0, .slice none 0 0, .slice none 0 0] 26 (0, 0)) (by (with_reducible repeat (first | refine blk_drewN ?_ _ | refine blk_drew ?_ | refine blk_alloc ?_ _)); exact BK270.out) hb)
    have n4_ := Aside0.mk (below_step (by repeat (first | (with_reducible first | exact HB.out | apply below_alloc | apply pw_below_drewN | apply below_drew1 | refine below_set ?_ GE269.out | refine below_set ?_ GE270.out) | exact HB.out)) hb)
    have n5_ := Aside0.mk (hbox)
    have n6_ := Aside0.mk ((by rw [hg]; exact (below_size (by repeat (first | (with_reducible first | exact HB.out | apply below_alloc | apply pw_below_drewN | apply below_drew1 | refine below_set ?_ GE269.out | refine below_set ?_ GE270.out) | exact HB.out))) : w.heap.size ≤ gb283))
    have n7_ := Aside0.mk ((by rw [hg]; exact (below_size (by repeat (first | (with_reducible first | exact HB.out | apply below_alloc | apply pw_below_drewN | apply below_drew1 | refine below_set ?_ GE269.out | refine below_set ?_ GE270.out) | exact HB.out))) : w.heap.size ≤ gb283))
    have n8_ := Aside0.mk ((by rw [hg]; exact Nat.ne_of_lt (blk_lt (g := gb269) (o := .cells #[.slice A0_0 l0_0.length c0_0, .slice A0_1 l0_1.length c0_1, .slice A0_2 l0_2.length c0_2] 26 (0, 0)) (by (with_reducible repeat (first | refine blk_drewN ?_ _ | refine blk_drew ?_ | refine blk_alloc ?_ _)); exact BK269.out)) : gb269 ≠ gb283))
    have n9_ := Aside0.mk ((by rw [hg]; exact Nat.ne_of_gt (blk_lt (g := gb269) (o := .cells #[.slice A0_0 l0_0.length c0_0, .slice A0_1 l0_1.length c0_1, .slice A0_2 l0_2.length c0_2] 26 (0, 0)) (by (with_reducible repeat (first | refine blk_drewN ?_ _ | refine blk_drew ?_ | refine blk_alloc ?_ _)); exact BK269.out)) : gb283 ≠ gb269))
    have n10_ := Aside0.mk ((by rw [hg]; exact Nat.ne_of_lt (blk_lt (g := gb270) (o := .cells #[.slice none 0 0, .slice none 0 0, .slice none 0 0] 26 (0, 0)) (by (with_reducible repeat (first | refine blk_drewN ?_ _ | refine blk_drew ?_ | refine blk_alloc ?_ _)); exact BK270.out)) : gb270 ≠ gb283))
    have n11_ := Aside0.mk ((by rw [hg]; exact Nat.ne_of_gt (blk_lt (g := gb270) (o := .cells #[.slice none 0 0, .slice none 0 0, .slice none 0 0] 26 (0, 0)) (by (with_reducible repeat (first | refine blk_drewN ?_ _ | refine blk_drew ?_ | refine blk_alloc ?_ _)); exact BK270.out)) : gb283 ≠ gb270))
    clear HO276
    clear HO279
    clear BK269
    clear BK270
    clear HB
    have HO276 := n0_
    have HO279 := n1_
    have BK269 := n2_
    have BK270 := n3_
    have HB := n4_
    have BK283 := n5_
    have GW283 := n6_
    have GE283 := n7_
    have NB269_283 := n8_
    have NB283_269 := n9_
    have NB270_283 := n10_
    have NB283_270 := n11_
    clear n0_ n1_ n2_ n3_ n4_ n5_ n6_ n7_ n8_ n9_ n10_ n11_
    clear hb hbox hg
    refine hK.out _ _ ⟨(blk_cell BK269.out 0).trans rfl, (blk_cell BK269.out 1).trans rfl, (blk_cell BK269.out 2).trans rfl⟩ (fun hHeld => ?_)
    clear hK K
    refine norm_ (a' := ?_) ?_ ?_
    rotate_left
    ·
     show Act.put _ (some 3) _ = _
     simp only [Act.put, List.setIfInBounds_toArray, List.set_cons_zero, List.set_cons_succ, i64_w, i32_w]
     rfl
    exact norm_ (by first | (simp only [putAll, Act.put, List.setIfInBounds_toArray, List.set_cons_zero, List.set_cons_succ]; done) | (simp only [putAll, Act.put, List.setIfInBounds_toArray, List.set_cons_zero, List.set_cons_succ]; rfl)) (hJ0_3_4_9 (v272, v275, v278, gb283) _ ⟨hHeld, (by (with_reducible repeat (first | apply Kd.R_alloc | apply Kd.R_drewN | apply Kd.R_drew)); exact HO276.out), (by (with_reducible repeat (first | apply Kd.R_alloc | apply Kd.R_drewN | apply Kd.R_drew)); exact HO279.out), (by (with_reducible repeat (first | refine blk_drewN ?_ _ | refine blk_drew ?_ | refine blk_alloc ?_ _)); exact BK269.out), (by (with_reducible repeat (first | refine blk_drewN ?_ _ | refine blk_drew ?_ | refine blk_alloc ?_ _)); exact BK270.out), (by (with_reducible repeat (first | refine blk_drewN ?_ _ | refine blk_drew ?_ | refine blk_alloc ?_ _)); exact BK283.out), GW283.out, GE283.out, NB269_283.out, NB283_269.out, NB270_283.out, NB283_270.out, (by repeat (first | (with_reducible first | exact HB.out | apply below_alloc | apply pw_below_drewN | apply below_drew1 | refine below_set ?_ GE269.out | refine below_set ?_ GE270.out | refine below_set ?_ GE283.out) | exact HB.out))⟩)
   skip
   rintro ⟨v272, v275, v278, gb283⟩ w13 ⟨hS_, h0_, h1_, h2_, h3_, h4_, h5_, h6_, h7_, h8_, h9_, h10_, h11_⟩
   have n0_ : Aside0 (Kd.R (Kd.int .i64) 3 w13 w.heap.size (fun _ => True) v275 y274) := ⟨h0_⟩
   have n1_ : Aside0 (Kd.R k50 50 w13 w.heap.size (fun _ => True) v278 y277) := ⟨h1_⟩
   have n2_ : Aside0 (w13.heap[gb269]? = some (.cells #[.slice A0_0 l0_0.length c0_0, .slice A0_1 l0_1.length c0_1, .slice A0_2 l0_2.length c0_2] 26 (0, 0))) := ⟨h2_⟩
   have n3_ : Aside0 (w13.heap[gb270]? = some (.cells #[.slice none 0 0, .slice none 0 0, .slice none 0 0] 26 (0, 0))) := ⟨h3_⟩
   have n4_ : Aside0 (w13.heap[gb283]? = some (.cells #[.slice none 0 0, .slice none 0 0, .slice none 0 0] 26 (0, 0))) := ⟨h4_⟩
   have n5_ : Aside0 (w.heap.size ≤ gb283) := ⟨h5_⟩
   have n6_ : Aside0 (w.heap.size ≤ gb283) := ⟨h6_⟩
   have n7_ : Aside0 (gb269 ≠ gb283) := ⟨h7_⟩
   have n8_ : Aside0 (gb283 ≠ gb269) := ⟨h8_⟩
   have n9_ : Aside0 (gb270 ≠ gb283) := ⟨h9_⟩
   have n10_ : Aside0 (gb283 ≠ gb270) := ⟨h10_⟩
   have n11_ : Aside0 (Below w.heap.size w w13) := ⟨h11_⟩
   clear BK269
   clear BK270
   clear HB
   clear h0_ h1_ h2_ h3_ h4_ h5_ h6_ h7_ h8_ h9_ h10_ h11_
   have HO276 := n0_
   have HO279 := n1_
   have BK269 := n2_
   have BK270 := n3_
   have BK283 := n4_
   have GW283 := n5_
   have GE283 := n6_
   have NB269_283 := n7_
   have NB283_269 := n8_
   have NB270_283 := n9_
   have NB283_270 := n10_
   have HB := n11_
   clear n0_ n1_ n2_ n3_ n4_ n5_ n6_ n7_ n8_ n9_ n10_ n11_
   have hHeld : w13.cell? ⟨gb269, 0, none⟩ = some (.slice A0_0 l0_0.length c0_0) ∧ w13.cell? ⟨gb269, 1, none⟩ = some (.slice A0_1 l0_1.length c0_1) ∧ w13.cell? ⟨gb269, 2, none⟩ = some (.slice A0_2 l0_2.length c0_2) := hS_
   refine norm_ (a' := ?_) ?_ ?_
   rotate_left
   ·
    simp only [putAll, Act.put, List.setIfInBounds_toArray, List.set_cons_zero, List.set_cons_succ]
    rfl
   refine one_ (i := 7) (N := some 12) #[true, true, true, true, true, true, true, true, false, true, false] rfl rfl (one_of HT_.out (by kernel_rfl)) (by decide) (fun K hK => ?_)
   refine Kd.R_append_rows_step k50 (w0 := w) w.heap.size (by rfl) (.tmp 9) (.tmp 11) 23 50 (.agg #[(.int .i64 0), (.int .i64 0), (.int .i64 0)]) 24 rfl Try.underlying23 info50 rfl (by decide) (by omega) v278 y277 l0_1 _ _ _ (fun _ => True) (fun _ => False) rfl rfl ?aO ?aR (fun _ _ h => h) (fun _ h => h.elim) ?aF ?aB ?aS ?aL ?_
   (case aR => repeat (first | exact (Kd.C_below HR0_1.out HB.out) | (with_reducible refine Kd.C_alloc ?_ _) | (with_reducible refine Kd.C_drewN ?_ _) | (with_reducible refine Kd.C_drew ?_)))
   (case aB => exact (by repeat (first | (with_reducible first | exact HB.out | apply below_alloc | apply pw_below_drewN | apply below_drew1 | refine below_set ?_ GE269.out | refine below_set ?_ GE270.out | refine below_set ?_ GE283.out) | exact HB.out)))
   (case aF => exact (fun _ _ => trivial))
   (case aO => exact (by (with_reducible repeat (first | apply Kd.R_alloc | apply Kd.R_drewN | apply Kd.R_drew)); exact HO279.out))
   (case aS => exact (below_size (by repeat (first | (with_reducible first | exact HB.out | apply below_alloc | apply pw_below_drewN | apply below_drew1 | refine below_set ?_ GE269.out | refine below_set ?_ GE270.out | refine below_set ?_ GE283.out) | exact HB.out))))
   (case aL => have := LMc3.out; omega)
   intro v281 w14 ho hb hg hat
   rw [← Ny280.out] at ho
   have n0_ := Aside0.mk (blk_grown (g := gb269) (o := .cells #[.slice A0_0 l0_0.length c0_0, .slice A0_1 l0_1.length c0_1, .slice A0_2 l0_2.length c0_2] 26 (0, 0)) (by (with_reducible repeat (first | refine blk_drewN ?_ _ | refine blk_drew ?_ | refine blk_alloc ?_ _)); exact BK269.out) hg (Kd.R_ne HO279.out BK269.out (by decide)))
   have n1_ := Aside0.mk (blk_grown (g := gb270) (o := .cells #[.slice none 0 0, .slice none 0 0, .slice none 0 0] 26 (0, 0)) (by (with_reducible repeat (first | refine blk_drewN ?_ _ | refine blk_drew ?_ | refine blk_alloc ?_ _)); exact BK270.out) hg (Kd.R_ne HO279.out BK270.out (by decide)))
   have n2_ := Aside0.mk (Kd.R_over' (by (with_reducible repeat (first | apply Kd.R_alloc | apply Kd.R_drewN | apply Kd.R_drew)); exact HO276.out) (Kd.R_typed (by (with_reducible repeat (first | apply Kd.R_alloc | apply Kd.R_drewN | apply Kd.R_drew)); exact HO279.out)) (by decide) hg)
   have n3_ := Aside0.mk (blk_grown (g := gb283) (o := .cells #[.slice none 0 0, .slice none 0 0, .slice none 0 0] 26 (0, 0)) (by (with_reducible repeat (first | refine blk_drewN ?_ _ | refine blk_drew ?_ | refine blk_alloc ?_ _)); exact BK283.out) hg (Kd.R_ne HO279.out BK283.out (by decide)))
   have n4_ := Aside0.mk (hb)
   have n5_ := Aside0.mk (ho)
   clear BK269
   clear BK270
   clear HO276
   clear BK283
   clear HB
   clear HO279
   have BK269 := n0_
   have BK270 := n1_
   have HO276 := n2_
   have BK283 := n3_
   have HB := n4_
   have HO282 := n5_
   clear n0_ n1_ n2_ n3_ n4_ n5_
   clear ho hb hg hat
   obtain ⟨Ao15, co15, eo15⟩ := Kd.R_slice HO282.out
   (first | subst eo15 | (injection eo15 with f1_ f2_ f3_; have f4_ := f1_.symm; have f5_ := f3_.symm; clear f1_ f2_ f3_; subst f4_; subst f5_))
   obtain ⟨Ao16, co16, eo16⟩ := Kd.R_slice HO276.out
   (first | subst eo16 | (injection eo16 with f1_ f2_ f3_; have f4_ := f1_.symm; have f5_ := f3_.symm; clear f1_ f2_ f3_; subst f4_; subst f5_))
   refine hK.out _ _ ⟨(blk_cell BK269.out 0).trans rfl, (blk_cell BK269.out 1).trans rfl, (blk_cell BK269.out 2).trans rfl⟩ (fun hHeld => ?_)
   clear hK K
   refine norm_ (a' := ?_) ?_ ?_
   rotate_left
   ·
    show Act.put _ (some 12) _ = _
    simp only [Act.put, List.setIfInBounds_toArray, List.set_cons_zero, List.set_cons_succ, i64_w, i32_w]
    rfl
   refine pure_ (i := 8) (N := some 13) (v := ?_) (a' := ?_) #[true, true, true, true, true, true, true, true, true, true, false] rfl rfl (any_of HT_.out (by kernel_rfl)) (fun _ _ _ h => h) (Or.inl ⟨by rfl, ?_⟩) ?_ ?_
   rotate_left
   ·
    intro w'
    go_simp
    with_reducible rfl
   rotate_left
   ·
    simp only [Act.put, List.setIfInBounds_toArray, List.set_cons_zero, List.set_cons_succ, i64_w, i32_w]
    rfl
   exact norm_ (by first | (simp only [putAll, Act.put, List.setIfInBounds_toArray, List.set_cons_zero, List.set_cons_succ]; done) | (simp only [putAll, Act.put, List.setIfInBounds_toArray, List.set_cons_zero, List.set_cons_succ]; rfl)) (hJ0_3_4_7_9 (v272, .slice Ao16 y274.length co16, v278, .slice Ao15 y280.length co15, gb283) _ ⟨hHeld, (by (with_reducible repeat (first | apply Kd.R_alloc | apply Kd.R_drewN | apply Kd.R_drew)); exact HO276.out), (by (with_reducible repeat (first | apply Kd.R_alloc | apply Kd.R_drewN | apply Kd.R_drew)); exact HO282.out), (by (with_reducible repeat (first | refine blk_drewN ?_ _ | refine blk_drew ?_ | refine blk_alloc ?_ _)); exact BK269.out), (by (with_reducible repeat (first | refine blk_drewN ?_ _ | refine blk_drew ?_ | refine blk_alloc ?_ _)); exact BK270.out), (by (with_reducible repeat (first | refine blk_drewN ?_ _ | refine blk_drew ?_ | refine blk_alloc ?_ _)); exact BK283.out), GW283.out, GE283.out, NB269_283.out, NB283_269.out, NB270_283.out, NB283_270.out, (by repeat (first | (with_reducible first | exact HB.out | apply below_alloc | apply pw_below_drewN | apply below_drew1 | refine below_set ?_ GE269.out | refine below_set ?_ GE270.out | refine below_set ?_ GE283.out) | exact HB.out))⟩)
  skip
  rintro ⟨v272, v275, v278, v281⟩ w15 ⟨hS_, h0_, h1_, h2_, h3_, h4_⟩
  have n0_ : Aside0 (Kd.R (Kd.int .i64) 3 w15 w.heap.size (fun _ => True) v275 y274) := ⟨h0_⟩
  have n1_ : Aside0 (Kd.R k50 50 w15 w.heap.size (fun _ => True) v281 y280) := ⟨h1_⟩
  have n2_ : Aside0 (w15.heap[gb269]? = some (.cells #[.slice A0_0 l0_0.length c0_0, .slice A0_1 l0_1.length c0_1, .slice A0_2 l0_2.length c0_2] 26 (0, 0))) := ⟨h2_⟩
  have n3_ : Aside0 (w15.heap[gb270]? = some (.cells #[.slice none 0 0, .slice none 0 0, .slice none 0 0] 26 (0, 0))) := ⟨h3_⟩
  have n4_ : Aside0 (Below w.heap.size w w15) := ⟨h4_⟩
  clear BK269
  clear BK270
  clear HB
  clear h0_ h1_ h2_ h3_ h4_
  have HO276 := n0_
  have HO282 := n1_
  have BK269 := n2_
  have BK270 := n3_
  have HB := n4_
  clear n0_ n1_ n2_ n3_ n4_
  have hHeld : w15.cell? ⟨gb269, 0, none⟩ = some (.slice A0_0 l0_0.length c0_0) ∧ w15.cell? ⟨gb269, 1, none⟩ = some (.slice A0_1 l0_1.length c0_1) ∧ w15.cell? ⟨gb269, 2, none⟩ = some (.slice A0_2 l0_2.length c0_2) := hS_
  obtain ⟨Ao16, co16, eo16⟩ := Kd.R_slice HO282.out
  (first | subst eo16 | (injection eo16 with f1_ f2_ f3_; have f4_ := f1_.symm; have f5_ := f3_.symm; clear f1_ f2_ f3_; subst f4_; subst f5_))
  obtain ⟨Ao17, co17, eo17⟩ := Kd.R_slice HO276.out
  (first | subst eo17 | (injection eo17 with f1_ f2_ f3_; have f4_ := f1_.symm; have f5_ := f3_.symm; clear f1_ f2_ f3_; subst f4_; subst f5_))
  refine norm_ (a' := ?_) ?_ ?_
  rotate_left
  ·
   simp only [putAll, Act.put, List.setIfInBounds_toArray, List.set_cons_zero, List.set_cons_succ]
   rfl
  refine one_ (i := 9) (N := some 3) #[true, true, true, true, true, true, true, true, true, true, false] rfl rfl (one_of HT_.out (by kernel_rfl)) (by decide) (fun K hK => ?_)
  refine box_step ?hg (N := 3) ?hd (cs := #[.slice none 0 0, .slice none 0 0, .slice none 0 0]) (t := 26) ?hr ?_; (case hd => rfl); (case hg => rfl); (case hr => first | (go_simp; done) | (go_simp; rfl))
  intro gb283 hg w18 hbox hb
  have n0_ := Aside0.mk (Kd.R_below (by (with_reducible repeat (first | apply Kd.R_alloc | apply Kd.R_drewN | apply Kd.R_drew)); exact HO276.out) hb)
  have n1_ := Aside0.mk (Kd.R_below (by (with_reducible repeat (first | apply Kd.R_alloc | apply Kd.R_drewN | apply Kd.R_drew)); exact HO282.out) hb)
  have n2_ := Aside0.mk (blk_below (g := gb269) (o := .cells #[.slice A0_0 l0_0.length c0_0, .slice A0_1 l0_1.length c0_1, .slice A0_2 l0_2.length c0_2] 26 (0, 0)) (by (with_reducible repeat (first | refine blk_drewN ?_ _ | refine blk_drew ?_ | refine blk_alloc ?_ _)); exact BK269.out) hb)
  have n3_ := Aside0.mk (blk_below (g := gb270) (o := .cells #[.slice none 0 0, .slice none 0 0, .slice none 0 0] 26 (0, 0)) (by (with_reducible repeat (first | refine blk_drewN ?_ _ | refine blk_drew ?_ | refine blk_alloc ?_ _)); exact BK270.out) hb)
  have n4_ := Aside0.mk (below_step (by repeat (first | (with_reducible first | exact HB.out | apply below_alloc | apply pw_below_drewN | apply below_drew1 | refine below_set ?_ GE269.out | refine below_set ?_ GE270.out) | exact HB.out)) hb)
  have n5_ := Aside0.mk (hbox)
  have n6_ := Aside0.mk ((by rw [hg]; exact (below_size (by repeat (first | (with_reducible first | exact HB.out | apply below_alloc | apply pw_below_drewN | apply below_drew1 | refine below_set ?_ GE269.out | refine below_set ?_ GE270.out) | exact HB.out))) : w.heap.size ≤ gb283))
  have n7_ := Aside0.mk ((by rw [hg]; exact (below_size (by repeat (first | (with_reducible first | exact HB.out | apply below_alloc | apply pw_below_drewN | apply below_drew1 | refine below_set ?_ GE269.out | refine below_set ?_ GE270.out) | exact HB.out))) : w.heap.size ≤ gb283))
  have n8_ := Aside0.mk ((by rw [hg]; exact Nat.ne_of_lt (blk_lt (g := gb269) (o := .cells #[.slice A0_0 l0_0.length c0_0, .slice A0_1 l0_1.length c0_1, .slice A0_2 l0_2.length c0_2] 26 (0, 0)) (by (with_reducible repeat (first | refine blk_drewN ?_ _ | refine blk_drew ?_ | refine blk_alloc ?_ _)); exact BK269.out)) : gb269 ≠ gb283))
  have n9_ := Aside0.mk ((by rw [hg]; exact Nat.ne_of_gt (blk_lt (g := gb269) (o := .cells #[.slice A0_0 l0_0.length c0_0, .slice A0_1 l0_1.length c0_1, .slice A0_2 l0_2.length c0_2] 26 (0, 0)) (by (with_reducible repeat (first | refine blk_drewN ?_ _ | refine blk_drew ?_ | refine blk_alloc ?_ _)); exact BK269.out)) : gb283 ≠ gb269))
  have n10_ := Aside0.mk ((by rw [hg]; exact Nat.ne_of_lt (blk_lt (g := gb270) (o := .cells #[.slice none 0 0, .slice none 0 0, .slice none 0 0] 26 (0, 0)) (by (with_reducible repeat (first | refine blk_drewN ?_ _ | refine blk_drew ?_ | refine blk_alloc ?_ _)); exact BK270.out)) : gb270 ≠ gb283))
  have n11_ := Aside0.mk ((by rw [hg]; exact Nat.ne_of_gt (blk_lt (g := gb270) (o := .cells #[.slice none 0 0, .slice none 0 0, .slice none 0 0] 26 (0, 0)) (by (with_reducible repeat (first | refine blk_drewN ?_ _ | refine blk_drew ?_ | refine blk_alloc ?_ _)); exact BK270.out)) : gb283 ≠ gb270))
  clear HO276
  clear HO282
  clear BK269
  clear BK270
  clear HB
  have HO276 := n0_
  have HO282 := n1_
  have BK269 := n2_
  have BK270 := n3_
  have HB := n4_
  have BK283 := n5_
  have GW283 := n6_
  have GE283 := n7_
  have NB269_283 := n8_
  have NB283_269 := n9_
  have NB270_283 := n10_
  have NB283_270 := n11_
  clear n0_ n1_ n2_ n3_ n4_ n5_ n6_ n7_ n8_ n9_ n10_ n11_
  clear hb hbox hg
  refine hK.out _ _ ⟨(blk_cell BK269.out 0).trans rfl, (blk_cell BK269.out 1).trans rfl, (blk_cell BK269.out 2).trans rfl⟩ (fun hHeld => ?_)
  clear hK K
  refine norm_ (a' := ?_) ?_ ?_
  rotate_left
  ·
   show Act.put _ (some 3) _ = _
   simp only [Act.put, List.setIfInBounds_toArray, List.set_cons_zero, List.set_cons_succ, i64_w, i32_w]
   rfl
  exact norm_ (by first | (simp only [putAll, Act.put, List.setIfInBounds_toArray, List.set_cons_zero, List.set_cons_succ]; done) | (simp only [putAll, Act.put, List.setIfInBounds_toArray, List.set_cons_zero, List.set_cons_succ]; rfl)) (hJ0_3_4_7_9 (v272, .slice Ao17 y274.length co17, v278, .slice Ao16 y280.length co16, gb283) _ ⟨hHeld, (by (with_reducible repeat (first | apply Kd.R_alloc | apply Kd.R_drewN | apply Kd.R_drew)); exact HO276.out), (by (with_reducible repeat (first | apply Kd.R_alloc | apply Kd.R_drewN | apply Kd.R_drew)); exact HO282.out), (by (with_reducible repeat (first | refine blk_drewN ?_ _ | refine blk_drew ?_ | refine blk_alloc ?_ _)); exact BK269.out), (by (with_reducible repeat (first | refine blk_drewN ?_ _ | refine blk_drew ?_ | refine blk_alloc ?_ _)); exact BK270.out), (by (with_reducible repeat (first | refine blk_drewN ?_ _ | refine blk_drew ?_ | refine blk_alloc ?_ _)); exact BK283.out), GW283.out, GE283.out, NB269_283.out, NB283_269.out, NB270_283.out, NB283_270.out, (by repeat (first | (with_reducible first | exact HB.out | apply below_alloc | apply pw_below_drewN | apply below_drew1 | refine below_set ?_ GE269.out | refine below_set ?_ GE270.out | refine below_set ?_ GE283.out) | exact HB.out))⟩)
 rintro ⟨v272, v275, v278, v281, gb283⟩ w16 ⟨hS_, h0_, h1_, h2_, h3_, h4_, h5_, h6_, h7_, h8_, h9_, h10_, h11_⟩
 have n0_ : Aside0 (Kd.R (Kd.int .i64) 3 w16 w.heap.size (fun _ => True) v275 y274) := ⟨h0_⟩
 have n1_ : Aside0 (Kd.R k50 50 w16 w.heap.size (fun _ => True) v281 y280) := ⟨h1_⟩
 have n2_ : Aside0 (w16.heap[gb269]? = some (.cells #[.slice A0_0 l0_0.length c0_0, .slice A0_1 l0_1.length c0_1, .slice A0_2 l0_2.length c0_2] 26 (0, 0))) := ⟨h2_⟩
 have n3_ : Aside0 (w16.heap[gb270]? = some (.cells #[.slice none 0 0, .slice none 0 0, .slice none 0 0] 26 (0, 0))) := ⟨h3_⟩
 have n4_ : Aside0 (w16.heap[gb283]? = some (.cells #[.slice none 0 0, .slice none 0 0, .slice none 0 0] 26 (0, 0))) := ⟨h4_⟩
 have n5_ : Aside0 (w.heap.size ≤ gb283) := ⟨h5_⟩
 have n6_ : Aside0 (w.heap.size ≤ gb283) := ⟨h6_⟩
 have n7_ : Aside0 (gb269 ≠ gb283) := ⟨h7_⟩
 have n8_ : Aside0 (gb283 ≠ gb269) := ⟨h8_⟩
 have n9_ : Aside0 (gb270 ≠ gb283) := ⟨h9_⟩
 have n10_ : Aside0 (gb283 ≠ gb270) := ⟨h10_⟩
 have n11_ : Aside0 (Below w.heap.size w w16) := ⟨h11_⟩
 clear BK269
 clear BK270
 clear HB
 clear h0_ h1_ h2_ h3_ h4_ h5_ h6_ h7_ h8_ h9_ h10_ h11_
 have HO276 := n0_
 have HO282 := n1_
 have BK269 := n2_
 have BK270 := n3_
 have BK283 := n4_
 have GW283 := n5_
 have GE283 := n6_
 have NB269_283 := n7_
 have NB283_269 := n8_
 have NB270_283 := n9_
 have NB283_270 := n10_
 have HB := n11_
 clear n0_ n1_ n2_ n3_ n4_ n5_ n6_ n7_ n8_ n9_ n10_ n11_
 have hHeld : w16.cell? ⟨gb269, 0, none⟩ = some (.slice A0_0 l0_0.length c0_0) ∧ w16.cell? ⟨gb269, 1, none⟩ = some (.slice A0_1 l0_1.length c0_1) ∧ w16.cell? ⟨gb269, 2, none⟩ = some (.slice A0_2 l0_2.length c0_2) := hS_
 obtain ⟨Ao17, co17, eo17⟩ := Kd.R_slice HO282.out
 (first | subst eo17 | (injection eo17 with f1_ f2_ f3_; have f4_ := f1_.symm; have f5_ := f3_.symm; clear f1_ f2_ f3_; subst f4_; subst f5_))
 obtain ⟨Ao18, co18, eo18⟩ := Kd.R_slice HO276.out
 (first | subst eo18 | (injection eo18 with f1_ f2_ f3_; have f4_ := f1_.symm; have f5_ := f3_.symm; clear f1_ f2_ f3_; subst f4_; subst f5_))
 refine norm_ (a' := ?_) ?_ ?_
 rotate_left
 ·
  simp only [putAll, Act.put, List.setIfInBounds_toArray, List.set_cons_zero, List.set_cons_succ]
  rfl
 refine one_ (i := 10) (N := none) #[true, true, true, true, true, true, true, true, true, true, true] rfl rfl (one_of HT_.out (by kernel_rfl)) (by decide) (fun K hK => ?_)
 have hs19 : w16.cell? ⟨gb283, 0, none⟩ = some (.slice none 0 0) := (blk_cell BK283.out 0).trans rfl
 have hfs19 := blk_frozen BK283.out 0
 have hns19_0 := NB269_283.out
 have hns19_1 := NB270_283.out
 have hms19_0 := NB283_269.out
 have hms19_1 := NB283_270.out
 have hs20 : w16.cell? ⟨gb283, 1, none⟩ = some (.slice none 0 0) := (blk_cell BK283.out 1).trans rfl
 have hfs20 := blk_frozen BK283.out 1
 have hns20_0 := NB269_283.out
 have hns20_1 := NB270_283.out
 have hms20_0 := NB283_269.out
 have hms20_1 := NB283_270.out
 have hs21 : w16.cell? ⟨gb283, 2, none⟩ = some (.slice none 0 0) := (blk_cell BK283.out 2).trans rfl
 have hfs21 := blk_frozen BK283.out 2
 have hns21_0 := NB269_283.out
 have hns21_1 := NB270_283.out
 have hms21_0 := NB283_269.out
 have hms21_1 := NB283_270.out
 refine skip_ (w1 := ?_) (by rfl) rfl ?_ ?_
 rotate_left
 ·
  go_simp
  rfl
 refine hK.out _ _ ⟨((cell_far (p := ⟨gb283, _, none⟩) NB269_283.out _).trans (((cell_far (p := ⟨gb283, _, none⟩) NB269_283.out _).trans (((cell_far (p := ⟨gb283, _, none⟩) NB269_283.out _).trans (hHeld.1)))))), ((cell_far (p := ⟨gb283, _, none⟩) NB269_283.out _).trans (((cell_far (p := ⟨gb283, _, none⟩) NB269_283.out _).trans (((cell_far (p := ⟨gb283, _, none⟩) NB269_283.out _).trans (hHeld.2.1)))))), ((cell_far (p := ⟨gb283, _, none⟩) NB269_283.out _).trans (((cell_far (p := ⟨gb283, _, none⟩) NB269_283.out _).trans (((cell_far (p := ⟨gb283, _, none⟩) NB269_283.out _).trans (hHeld.2.2))))))⟩ (fun hHeld => ?_)
 clear hK K
 refine done_ (done_of HT_.out (by kernel_rfl)) ?_
 try go_wp2
 go_loopg [4] k (fun kq v4 w' => ∃ (x4_1 : Int) (x284002_1 : List (List Int)) (u284002 : Value), v4 = .int .i64 x4_1 ∧ Aside0 (laganref04_Copied.l0 kq x4_1 l0_0 l0_1 l0_2 y274 y280 x284002_1 = some (r1, r2, r3)) ∧ Aside0 (kq ≤ k) ∧ Aside0 (Kd.R (Kd.int .i64) 3 w' w.heap.size (fun _ => True) (.slice Ao18 y274.length co18) y274) ∧ Aside0 (Kd.R k50 50 w' w.heap.size (fun _ => True) (.slice Ao17 y280.length co17) y280) ∧ Aside0 (Kd.S (Kd.slice 3 (Kd.int .i64)) 22 w' w.heap.size (fun k_ => some k_ ≠ ((.slice Ao18 y274.length co18) : Value).ownBlock) u284002 x284002_1) ∧ Aside0 (w'.heap[gb269]? = some (.cells #[(.slice A0_0 l0_0.length c0_0), (.slice A0_1 l0_1.length c0_1), (.slice A0_2 l0_2.length c0_2)] 26 (0, 0))) ∧ Aside0 (w'.heap[gb270]? = some (.cells #[(.slice none 0 0), (.slice none 0 0), (.slice none 0 0)] 26 (0, 0))) ∧ Aside0 (w'.heap[gb283]? = some (.cells #[(.slice Ao18 y274.length co18), (.slice Ao17 y280.length co17), u284002] 26 (0, 0))) ∧ Aside0 (Below w.heap.size w w'))
 case atStart => exact ⟨(0), (([] : List (List Int))), (.slice none 0 0), (by first | rfl | (simp; done) | (simp [*]; done)), H', ⟨Nat.le_refl _⟩, ⟨by (with_reducible repeat (first | apply Kd.R_alloc | apply Kd.R_drewN | apply Kd.R_drew)); exact Kd.R_mono (Kd.R_far (p := ⟨gb283, 2, none⟩) (Kd.R_far (p := ⟨gb283, 1, none⟩) (Kd.R_far (p := ⟨gb283, 0, none⟩) (Kd.R_types HO276.out BK283.out (by decide)) (fun _ hk => hk.2) (.slice Ao18 y274.length co18)) (fun _ hk => hk.2) (.slice Ao17 y280.length co17)) (fun _ hk => hk.2) (.slice none 0 0)) (fun _ hk => trivial)⟩, ⟨by (with_reducible repeat (first | apply Kd.R_alloc | apply Kd.R_drewN | apply Kd.R_drew)); exact Kd.R_mono (Kd.R_far (p := ⟨gb283, 2, none⟩) (Kd.R_far (p := ⟨gb283, 1, none⟩) (Kd.R_far (p := ⟨gb283, 0, none⟩) (Kd.R_types HO282.out BK283.out (by decide)) (fun _ hk => hk.2) (.slice Ao18 y274.length co18)) (fun _ hk => hk.2) (.slice Ao17 y280.length co17)) (fun _ hk => hk.2) (.slice none 0 0)) (fun _ hk => trivial)⟩, ⟨by first | exact Kd.S_nil _ _ _ _ _ | exact Kd.N_nil _ _ _ _ _ | exact Kd.V_nil _ _ _ _ _ | exact Kd.Q_nil _ _ _ _ _ | exact Kd.R_nil _ _ _ _ _⟩, ⟨by (with_reducible repeat (first | refine blk_drewN ?_ _ | refine blk_drew ?_ | refine blk_alloc ?_ _)); refine blk_far ?_ NB269_283.out _; (with_reducible repeat (first | refine blk_drewN ?_ _ | refine blk_drew ?_ | refine blk_alloc ?_ _)); refine blk_far ?_ NB269_283.out _; (with_reducible repeat (first | refine blk_drewN ?_ _ | refine blk_drew ?_ | refine blk_alloc ?_ _)); refine blk_far ?_ NB269_283.out _; (with_reducible repeat (first | refine blk_drewN ?_ _ | refine blk_drew ?_ | refine blk_alloc ?_ _)); exact BK269.out⟩, ⟨by (with_reducible repeat (first | refine blk_drewN ?_ _ | refine blk_drew ?_ | refine blk_alloc ?_ _)); refine blk_far ?_ NB270_283.out _; (with_reducible repeat (first | refine blk_drewN ?_ _ | refine blk_drew ?_ | refine blk_alloc ?_ _)); refine blk_far ?_ NB270_283.out _; (with_reducible repeat (first | refine blk_drewN ?_ _ | refine blk_drew ?_ | refine blk_alloc ?_ _)); refine blk_far ?_ NB270_283.out _; (with_reducible repeat (first | refine blk_drewN ?_ _ | refine blk_drew ?_ | refine blk_alloc ?_ _)); exact BK270.out⟩, ⟨by (with_reducible repeat (first | refine blk_drewN ?_ _ | refine blk_drew ?_ | refine blk_alloc ?_ _)); refine blk_put (cs := #[.slice Ao18 y274.length co18, .slice Ao17 y280.length co17, .slice none 0 0]) ?_ 2 _ rfl; (with_reducible repeat (first | refine blk_drewN ?_ _ | refine blk_drew ?_ | refine blk_alloc ?_ _)); refine blk_put (cs := #[.slice Ao18 y274.length co18, .slice none 0 0, .slice none 0 0]) ?_ 1 _ rfl; (with_reducible repeat (first | refine blk_drewN ?_ _ | refine blk_drew ?_ | refine blk_alloc ?_ _)); refine blk_put (cs := #[.slice none 0 0, .slice none 0 0, .slice none 0 0]) ?_ 0 _ rfl; (with_reducible repeat (first | refine blk_drewN ?_ _ | refine blk_drew ?_ | refine blk_alloc ?_ _)); exact BK283.out⟩, ⟨by repeat (first | (with_reducible first | exact HB.out | apply below_alloc | apply pw_below_drewN | apply below_drew1 | refine below_set ?_ GE269.out | refine below_set ?_ GE270.out | refine below_set ?_ GE283.out) | exact HB.out)⟩⟩
 clear H'
 try clear c2
 try clear p2
 try clear c3
 obtain ⟨x4_1, x284002_1, u284002, rfl, HA, HK1, HO_284000, HO_284001, HO_284002, BK269, BK270, BK283, HB⟩ := hrel
 cases gk with
 | zero => exact absurd HA.out (by simp [laganref04_Copied.l0])
 | succ k1 =>
  have H := HA.out
  clear HA
  simp only [laganref04_Copied.l0] at H
  by_cases c22 : x4_1 < (l0_2.length : Int)
  rotate_left
  ·
   rw [if_neg c22] at H
   have c22b0 : decide (x4_1 < (l0_2.length : Int)) = false := decide_eq_false c22
   clear c22
   simp only [Option.some.injEq, Prod.mk.injEq] at H
   obtain ⟨rfl, rfl, rfl⟩ := H
   have hnb37 := NB269_270.out
   have hnc37 := NB270_269.out
   have hnb38 := NB269_283.out
   have hnc38 := NB283_269.out
   have hcz39_0 : wr.cell? ⟨gb269, 0, none⟩ = some (.slice A0_0 l0_0.length c0_0) := (blk_cell BK269.out 0).trans rfl
   have hcz39_1 : wr.cell? ⟨gb269, 1, none⟩ = some (.slice A0_1 l0_1.length c0_1) := (blk_cell BK269.out 1).trans rfl
   have hcz39_2 : wr.cell? ⟨gb269, 2, none⟩ = some (.slice A0_2 l0_2.length c0_2) := (blk_cell BK269.out 2).trans rfl
   have hfz39_0 := blk_frozen BK269.out 0
   have hfz39_1 := blk_frozen BK269.out 1
   have hfz39_2 := blk_frozen BK269.out 2
   have hnb40 := NB283_270.out
   have hnc40 := NB270_283.out
   have hcz41_0 : wr.cell? ⟨gb283, 0, none⟩ = some (.slice Ao18 y274.length co18) := (blk_cell BK283.out 0).trans rfl
   have hcz41_1 : wr.cell? ⟨gb283, 1, none⟩ = some (.slice Ao17 y280.length co17) := (blk_cell BK283.out 1).trans rfl
   have hcz41_2 : wr.cell? ⟨gb283, 2, none⟩ = some (u284002) := (blk_cell BK283.out 2).trans rfl
   have hfz41_0 := blk_frozen BK283.out 0
   have hfz41_1 := blk_frozen BK283.out 1
   have hfz41_2 := blk_frozen BK283.out 2
   have hcz42_0 : wr.cell? ⟨gb270, 0, none⟩ = some (.slice none 0 0) := (blk_cell BK270.out 0).trans rfl
   have hcz42_1 : wr.cell? ⟨gb270, 1, none⟩ = some (.slice none 0 0) := (blk_cell BK270.out 1).trans rfl
   have hcz42_2 : wr.cell? ⟨gb270, 2, none⟩ = some (.slice none 0 0) := (blk_cell BK270.out 2).trans rfl
   have hfz42_0 := blk_frozen BK270.out 0
   have hfz42_1 := blk_frozen BK270.out 1
   have hfz42_2 := blk_frozen BK270.out 2
   obtain ⟨Ao43, co43, eo43⟩ := Kd.S_slice HO_284002.out
   subst eo43
   go_wp2
   refine bodyPost_ret (results_cell_row rfl _ _ gb270 26 #[.slice Ao18 y274.length co18, .slice Ao17 y280.length co17, .slice Ao43 x284002_1.length co43] (0, 0) _ rfl (by (with_reducible repeat (first | refine blk_drewN ?_ _ | refine blk_drew ?_ | refine blk_alloc ?_ _)); refine blk_put (cs := #[.slice Ao18 y274.length co18, .slice Ao17 y280.length co17, .slice none 0 0]) ?_ 2 _ rfl; (with_reducible repeat (first | refine blk_drewN ?_ _ | refine blk_drew ?_ | refine blk_alloc ?_ _)); refine blk_put (cs := #[.slice Ao18 y274.length co18, .slice none 0 0, .slice none 0 0]) ?_ 1 _ rfl; (with_reducible repeat (first | refine blk_drewN ?_ _ | refine blk_drew ?_ | refine blk_alloc ?_ _)); refine blk_put (cs := #[.slice none 0 0, .slice none 0 0, .slice none 0 0]) ?_ 0 _ rfl; (with_reducible repeat (first | refine blk_drewN ?_ _ | refine blk_drew ?_ | refine blk_alloc ?_ _)); exact BK270.out) Try.underlying26 rfl (by kernel_rfl)) rfl ?_
   exact ⟨_, _, _, by first | rfl | (simp [errW_none, errW_some] <;> rfl) | (simp [*, errW_none, errW_some] <;> rfl), by (with_reducible repeat (first | apply Kd.R_alloc | apply Kd.R_drewN | apply Kd.R_drew)); exact Kd.R_mono (Kd.R_far (p := ⟨gb270, 2, none⟩) (Kd.R_far (p := ⟨gb270, 1, none⟩) (Kd.R_far (p := ⟨gb270, 0, none⟩) (Kd.R_types HO_284000.out BK270.out (by decide)) (fun _ hk => hk.2) (.slice Ao18 y274.length co18)) (fun _ hk => hk.2) (.slice Ao17 y280.length co17)) (fun _ hk => hk.2) (.slice Ao43 x284002_1.length co43)) (fun _ hk => trivial), by (with_reducible repeat (first | apply Kd.R_alloc | apply Kd.R_drewN | apply Kd.R_drew)); exact Kd.R_mono (Kd.R_far (p := ⟨gb270, 2, none⟩) (Kd.R_far (p := ⟨gb270, 1, none⟩) (Kd.R_far (p := ⟨gb270, 0, none⟩) (Kd.R_types HO_284001.out BK270.out (by decide)) (fun _ hk => hk.2) (.slice Ao18 y274.length co18)) (fun _ hk => hk.2) (.slice Ao17 y280.length co17)) (fun _ hk => hk.2) (.slice Ao43 x284002_1.length co43)) (fun _ hk => trivial), by (with_reducible repeat (first | apply Kd.S_alloc | apply Kd.S_drewN | apply Kd.S_drew)); exact Kd.S_mono (Kd.S_far (p := ⟨gb270, 2, none⟩) (Kd.S_far (p := ⟨gb270, 1, none⟩) (Kd.S_far (p := ⟨gb270, 0, none⟩) (Kd.S_types HO_284002.out BK270.out (by decide)) (fun _ hk => hk.2) (.slice Ao18 y274.length co18)) (fun _ hk => hk.2) (.slice Ao17 y280.length co17)) (fun _ hk => hk.2) (.slice Ao43 x284002_1.length co43)) (fun _ hk => hk.1), by repeat (first | (with_reducible first | exact HB.out | apply below_alloc | apply pw_below_drewN | apply below_drew1 | refine below_set ?_ GE269.out | refine below_set ?_ GE270.out | refine below_set ?_ GE283.out) | exact HB.out)⟩
  rw [if_pos c22] at H
  have c22b0 : decide (x4_1 < (l0_2.length : Int)) = true := decide_eq_true c22
  clear c22
  obtain ⟨y284, hy284⟩ : ∃ y_ : List Int, y_ = (([] : List Int)) := ⟨_, rfl⟩
  replace H : (if 0 ≤ x4_1 then (if y284.length + (rd_L1 l0_2 x4_1).length < 17592186044416 then (if x284002_1.length < 5864062014805 then (laganref04_Copied.l0 k1 (wrap64 (x4_1 + 1)) l0_0 l0_1 l0_2 y274 y280 (x284002_1 ++ [(y284 ++ (rd_L1 l0_2 x4_1))])) else (none)) else (none)) else (none)) = some (r1, r2, r3) := by first | (rw [hy284]; with_reducible exact H) | (have H2_ := (Option.bind_some _ _).symm.trans H; rw [hy284]; with_reducible exact H2_) | (have H2_ := (Option.bind_some _ _).symm.trans H; with_reducible exact H2_) | with_reducible exact H | (rw [hy284]; exact H) | exact H
  have Ny284 := Aside0.mk hy284
  clear hy284
  by_cases c23 : 0 ≤ x4_1
  rotate_left
  ·
   rw [if_neg c23] at H
   exact absurd H (by simp)
  rw [if_pos c23] at H
  have c23b0 : decide (0 ≤ x4_1) = true := decide_eq_true c23
  clear c23
  by_cases c24 : y284.length + (rd_L1 l0_2 x4_1).length < 17592186044416
  rotate_left
  ·
   rw [if_neg c24] at H
   exact absurd H (by simp)
  rw [if_pos c24] at H
  have LMc24 := Aside0.mk c24
  clear c24
  obtain ⟨y288, hy288⟩ : ∃ y_ : List Int, y_ = (y284 ++ (rd_L1 l0_2 x4_1)) := ⟨_, rfl⟩
  replace H : (if x284002_1.length < 5864062014805 then (laganref04_Copied.l0 k1 (wrap64 (x4_1 + 1)) l0_0 l0_1 l0_2 y274 y280 (x284002_1 ++ [y288])) else (none)) = some (r1, r2, r3) := by first | (rw [hy288]; with_reducible exact H) | (have H2_ := (Option.bind_some _ _).symm.trans H; rw [hy288]; with_reducible exact H2_) | (have H2_ := (Option.bind_some _ _).symm.trans H; with_reducible exact H2_) | with_reducible exact H | (rw [hy288]; exact H) | exact H
  have Ny288 := Aside0.mk hy288
  clear hy288
  by_cases c25 : x284002_1.length < 5864062014805
  rotate_left
  ·
   rw [if_neg c25] at H
   exact absurd H (by simp)
  rw [if_pos c25] at H
  have LMc25 := Aside0.mk c25
  clear c25
  obtain ⟨y291, hy291⟩ : ∃ y_ : List (List Int), y_ = (x284002_1 ++ [y288]) := ⟨_, rfl⟩
  replace H : (laganref04_Copied.l0 k1 (wrap64 (x4_1 + 1)) l0_0 l0_1 l0_2 y274 y280 y291) = some (r1, r2, r3) := by first | (rw [hy291]; with_reducible exact H) | (have H2_ := (Option.bind_some _ _).symm.trans H; rw [hy291]; with_reducible exact H2_) | (have H2_ := (Option.bind_some _ _).symm.trans H; with_reducible exact H2_) | with_reducible exact H | (rw [hy291]; exact H) | exact H
  have Ny291 := Aside0.mk hy291
  clear hy291
  have H' := Aside0.mk H
  clear H
  have hnb26 := NB269_270.out
  have hnc26 := NB270_269.out
  have hnb27 := NB269_283.out
  have hnc27 := NB283_269.out
  have hcz28_0 : wr.cell? ⟨gb269, 0, none⟩ = some (.slice A0_0 l0_0.length c0_0) := (blk_cell BK269.out 0).trans rfl
  have hcz28_1 : wr.cell? ⟨gb269, 1, none⟩ = some (.slice A0_1 l0_1.length c0_1) := (blk_cell BK269.out 1).trans rfl
  have hcz28_2 : wr.cell? ⟨gb269, 2, none⟩ = some (.slice A0_2 l0_2.length c0_2) := (blk_cell BK269.out 2).trans rfl
  have hfz28_0 := blk_frozen BK269.out 0
  have hfz28_1 := blk_frozen BK269.out 1
  have hfz28_2 := blk_frozen BK269.out 2
  try go_wp2
  have n0_ := Aside0.mk (Kd.R_drew HO_284000.out)
  have n1_ := Aside0.mk (Kd.R_drew HO_284001.out)
  have n2_ := Aside0.mk (Kd.S_drew HO_284002.out)
  have n3_ := Aside0.mk (blk_drew BK269.out)
  have n4_ := Aside0.mk (blk_drew BK270.out)
  have n5_ := Aside0.mk (blk_drew BK283.out)
  have n6_ := Aside0.mk (below_drew1 HB.out)
  clear HO_284000
  clear HO_284001
  clear HO_284002
  clear BK269
  clear BK270
  clear BK283
  clear HB
  have HO_284000 := n0_
  have HO_284001 := n1_
  have HO_284002 := n2_
  have BK269 := n3_
  have BK270 := n4_
  have BK283 := n5_
  have HB := n6_
  clear n0_ n1_ n2_ n3_ n4_ n5_ n6_
  have p287 : 0 ≤ (x4_1 : Int) := of_decide_eq_true (by first | (with_reducible assumption) | assumption)
  have q287 : x4_1 < (l0_2.length : Int) := of_decide_eq_true (by first | (with_reducible assumption) | assumption)
  obtain ⟨ad287, A287_0, c287_0, e287, hx287_0, hl287_0, hi287_0⟩ := at_L1 HR0_2.out x4_1 p287 q287
  have hw287_0 := hx287_0
  cases e287
  replace hx287_0 := (HB.out.cell (World.block_lt_of_cell? w _ hx287_0)).trans hx287_0
  have HR287_0 := Aside0.mk hi287_0
  have HC287_0 := Aside0.mk hl287_0
  clear hi287_0 hl287_0
  replace p287 := eq_true p287
  replace q287 := eq_true q287
  refine start_ (n := 13) (S := fun w' => w'.cell? ⟨gb283, 0, none⟩ = some (.slice Ao18 y274.length co18) ∧ w'.cell? ⟨gb283, 1, none⟩ = some (.slice Ao17 y280.length co17) ∧ w'.cell? ⟨gb283, 2, none⟩ = some (u284002) ∧ w'.cell? ⟨gb269, 0, none⟩ = some (.slice A0_0 l0_0.length c0_0) ∧ w'.cell? ⟨gb269, 1, none⟩ = some (.slice A0_1 l0_1.length c0_1) ∧ w'.cell? ⟨gb269, 2, none⟩ = some (.slice (some ad287) l0_2.length c0_2) ∧ w'.cell? (ad287.add (x4_1).toNat) = some (.slice A287_0 (rd_L1 l0_2 x4_1).length c287_0)) (ds := [12]) #[false, false, false, false, false, false, false, false, false, false, false, false, false] (by kernel_rfl) rfl rfl ⟨(blk_cell BK283.out 0).trans rfl, (blk_cell BK283.out 1).trans rfl, (blk_cell BK283.out 2).trans rfl, (blk_cell BK269.out 0).trans rfl, (blk_cell BK269.out 1).trans rfl, (blk_cell BK269.out 2).trans rfl, ((HB.out.cell (World.block_lt_of_cell? w _ hw287_0)).trans hw287_0)⟩ (fun hHeld => ?_); refine with_tabW laganref04_Copied.tab5 laganref04_Copied.bits5 (fun HT_ HW_ => ?_)
  generalize wr.drew = w29 at HO_284000 HO_284001 HO_284002 BK269 BK270 BK283 HB HR287_0 hx287_0 hHeld ⊢
  refine pure_ (i := 0) (N := some 21) (v := ?_) (a' := ?_) #[true, false, false, false, false, false, false, false, false, false, false, false, false] rfl rfl (any_of HT_.out (by kernel_rfl)) (fun _ _ _ h => h) (Or.inl ⟨by rfl, ?_⟩) ?_ ?_
  rotate_left
  ·
   intro w'
   go_simp
   with_reducible rfl
  rotate_left
  ·
   simp only [Act.put, List.setIfInBounds_toArray, List.set_cons_zero, List.set_cons_succ, i64_w, i32_w]
   rfl
  refine pure_ (i := 3) (N := some 24) (v := ?_) (a' := ?_) #[true, false, false, true, false, false, false, false, false, false, false, false, false] rfl rfl (any_of HT_.out (by kernel_rfl)) (fun _ _ _ h => h) (Or.inl ⟨by rfl, ?_⟩) ?_ ?_
  rotate_left
  ·
   intro w'
   go_simp
   with_reducible rfl
  rotate_left
  ·
   simp only [Act.put, List.setIfInBounds_toArray, List.set_cons_zero, List.set_cons_succ, i64_w, i32_w]
   rfl
  refine pure_ (i := 5) (N := some 26) (v := ?_) (a' := ?_) #[true, false, false, true, false, true, false, false, false, false, false, false, false] rfl rfl (any_of HT_.out (by kernel_rfl)) (fun _ _ _ h => h) (Or.inl ⟨by rfl, ?_⟩) ?_ ?_
  rotate_left
  ·
   intro w'
   go_simp
   with_reducible rfl
  rotate_left
  ·
   simp only [Act.put, List.setIfInBounds_toArray, List.set_cons_zero, List.set_cons_succ, i64_w, i32_w]
   rfl
  refine take_ (i := 1) (N := some 22) (v := ?_) (a' := ?_) #[true, true, false, true, false, true, false, false, false, false, false, false, false] rfl rfl (take_ofW HT_.out HW_.out (by kernel_rfl)) (fun _ _ _ h => h) (Or.inl ⟨by rfl, ?_⟩) hHeld ?_ ?_
  rotate_left
  ·
   rintro w' ⟨s0, s1, s2, s3, s4, s5, s6⟩
   go_simp
   with_reducible rfl
  rotate_left
  ·
   simp only [Act.put, List.setIfInBounds_toArray, List.set_cons_zero, List.set_cons_succ, i64_w, i32_w]
   rfl
  refine take_ (i := 4) (N := some 25) (v := ?_) (a' := ?_) #[true, true, false, true, true, true, false, false, false, false, false, false, false] rfl rfl (take_ofW HT_.out HW_.out (by kernel_rfl)) (fun _ _ _ h => h) (Or.inl ⟨by rfl, ?_⟩) hHeld ?_ ?_
  rotate_left
  ·
   rintro w' ⟨s0, s1, s2, s3, s4, s5, s6⟩
   go_simp
   with_reducible rfl
  rotate_left
  ·
   simp only [Act.put, List.setIfInBounds_toArray, List.set_cons_zero, List.set_cons_succ, i64_w, i32_w]
   rfl
  refine pure_ (i := 6) (N := some 27) (v := ?_) (a' := ?_) #[true, true, false, true, true, true, true, false, false, false, false, false, false] rfl rfl (any_of HT_.out (by kernel_rfl)) (fun _ _ _ h => h) (Or.inl ⟨by rfl, ?_⟩) ?_ ?_
  rotate_left
  ·
   intro w'
   go_simp
   with_reducible rfl
  rotate_left
  ·
   simp only [Act.put, List.setIfInBounds_toArray, List.set_cons_zero, List.set_cons_succ, i64_w, i32_w]
   rfl
  refine take_ (i := 7) (N := some 28) (v := ?_) (a' := ?_) #[true, true, false, true, true, true, true, true, false, false, false, false, false] rfl rfl (take_ofW HT_.out HW_.out (by kernel_rfl)) (fun _ _ _ h => h) (Or.inl ⟨by rfl, ?_⟩) hHeld ?_ ?_
  rotate_left
  ·
   rintro w' ⟨s0, s1, s2, s3, s4, s5, s6⟩
   go_simp
   with_reducible rfl
  rotate_left
  ·
   simp only [Act.put, List.setIfInBounds_toArray, List.set_cons_zero, List.set_cons_succ, i64_w, i32_w]
   rfl
  refine one_ (i := 2) (N := some 23) #[true, true, true, true, true, true, true, true, false, false, false, false, false] rfl rfl (one_of HT_.out (by kernel_rfl)) (by decide) (fun K hK => ?_)
  refine Kd.R_lit_step (Kd.int .i64) _ 3 ?hg (N := 23) ?hd (xs := ([] : List Int)) (inner := []) (ok := fun _ => True) (okp := fun _ => True) ?hr ?hp (fun _ hk => hk) trivial (Below.refl _ _) (Nat.le_refl _) (by simp) ?_; (case hd => rfl); (case hg => rfl); (case hr => first | (go_simp; done) | (go_simp; rfl)); (case hp => exact (Reps.none _ _))
  intro v285 w30 ho31 hb hg_ hnew_
  clear hg_ hnew_
  (first | rw [← Ny284.out] at ho31 | (simp only [Int.reduceToNat] at ho31; rw [← Ny284.out] at ho31))
  have n0_ := Aside0.mk (Kd.R_elder' (by (with_reducible repeat (first | apply Kd.R_alloc | apply Kd.R_drewN | apply Kd.R_drew)); exact HO_284000.out) (Kd.R_base ho31) hb)
  have n1_ := Aside0.mk (Kd.R_below (by (with_reducible repeat (first | apply Kd.R_alloc | apply Kd.R_drewN | apply Kd.R_drew)); exact HO_284001.out) hb)
  have n2_ := Aside0.mk (Kd.S_elder' (by (with_reducible repeat (first | apply Kd.S_alloc | apply Kd.S_drewN | apply Kd.S_drew)); exact HO_284002.out) (Kd.R_base ho31) hb)
  have n3_ := Aside0.mk (Kd.R_lower (Kd.R_new' ho31 (Kd.R_lt (by (with_reducible repeat (first | apply Kd.R_alloc | apply Kd.R_drewN | apply Kd.R_drew)); exact HO_284000.out))) (below_size (by repeat (first | (with_reducible first | exact HB.out | apply below_alloc | apply pw_below_drewN | apply below_drew1 | refine below_set ?_ GE269.out | refine below_set ?_ GE270.out | refine below_set ?_ GE283.out) | exact HB.out))))
  have n4_ := Aside0.mk (blk_below (g := gb269) (o := .cells #[.slice A0_0 l0_0.length c0_0, .slice A0_1 l0_1.length c0_1, .slice (some ad287) l0_2.length c0_2] 26 (0, 0)) (by (with_reducible repeat (first | refine blk_drewN ?_ _ | refine blk_drew ?_ | refine blk_alloc ?_ _)); exact BK269.out) hb)
  have n5_ := Aside0.mk (blk_below (g := gb270) (o := .cells #[.slice none 0 0, .slice none 0 0, .slice none 0 0] 26 (0, 0)) (by (with_reducible repeat (first | refine blk_drewN ?_ _ | refine blk_drew ?_ | refine blk_alloc ?_ _)); exact BK270.out) hb)
  have n6_ := Aside0.mk (blk_below (g := gb283) (o := .cells #[.slice Ao18 y274.length co18, .slice Ao17 y280.length co17, u284002] 26 (0, 0)) (by (with_reducible repeat (first | refine blk_drewN ?_ _ | refine blk_drew ?_ | refine blk_alloc ?_ _)); exact BK283.out) hb)
  have n7_ := Aside0.mk (below_step (by repeat (first | (with_reducible first | exact HB.out | apply below_alloc | apply pw_below_drewN | apply below_drew1 | refine below_set ?_ GE269.out | refine below_set ?_ GE270.out | refine below_set ?_ GE283.out) | exact HB.out)) hb)
  clear HO_284000
  clear HO_284001
  clear HO_284002
  clear BK269
  clear BK270
  clear BK283
  clear HB
  have HO_284000 := n0_
  have HO_284001 := n1_
  have HO_284002 := n2_
  have HO286 := n3_
  have BK269 := n4_
  have BK270 := n5_
  have BK283 := n6_
  have HB := n7_
  clear n0_ n1_ n2_ n3_ n4_ n5_ n6_ n7_
  clear hb ho31
  refine hK.out _ _ ⟨(blk_cell BK283.out 0).trans rfl, (blk_cell BK283.out 1).trans rfl, (blk_cell BK283.out 2).trans rfl, (blk_cell BK269.out 0).trans rfl, (blk_cell BK269.out 1).trans rfl, (blk_cell BK269.out 2).trans rfl, ((HB.out.cell (World.block_lt_of_cell? w _ hw287_0)).trans hw287_0)⟩ (fun hHeld => ?_)
  clear hK K
  refine norm_ (a' := ?_) ?_ ?_
  rotate_left
  ·
   show Act.put _ (some 23) _ = _
   simp only [Act.put, List.setIfInBounds_toArray, List.set_cons_zero, List.set_cons_succ, i64_w, i32_w]
   rfl
  refine one_ (i := 8) (N := some 29) #[true, true, true, true, true, true, true, true, true, false, false, false, false] rfl rfl (one_of HT_.out (by kernel_rfl)) (by decide) (fun K hK => ?_)
  refine Kd.R_append_rows_step (Kd.int .i64) (w0 := w) w.heap.size (by rfl) (.tmp 23) (.tmp 28) 22 3 (.int .i64 0) 8 rfl Try.underlying22 info3 rfl (by decide) (by omega) v285 y284 (rd_L1 l0_2 x4_1) _ _ _ (fun k_ => some k_ ≠ (.slice Ao18 y274.length co18 : Value).ownBlock) (fun _ => False) rfl rfl ?aO ?aR (fun _ _ h => h) (fun _ h => h.elim) ?aF ?aB ?aS ?aL ?_
  (case aR => repeat (first | exact (Kd.C_below HR287_0.out HB.out) | (with_reducible refine Kd.C_alloc ?_ _) | (with_reducible refine Kd.C_drewN ?_ _) | (with_reducible refine Kd.C_drew ?_)))
  (case aB => exact (by repeat (first | (with_reducible first | exact HB.out | apply below_alloc | apply pw_below_drewN | apply below_drew1 | refine below_set ?_ GE269.out | refine below_set ?_ GE270.out | refine below_set ?_ GE283.out) | exact HB.out)))
  (case aF => exact (fun k_ hk => Kd.fresh' (Kd.R_lt (by (with_reducible repeat (first | apply Kd.R_alloc | apply Kd.R_drewN | apply Kd.R_drew)); exact HO_284000.out)) k_ hk))
  (case aO => exact (by (with_reducible repeat (first | apply Kd.R_alloc | apply Kd.R_drewN | apply Kd.R_drew)); exact Kd.R_mono HO286.out (fun _ hk => hk.2)))
  (case aS => exact (below_size (by repeat (first | (with_reducible first | exact HB.out | apply below_alloc | apply pw_below_drewN | apply below_drew1 | refine below_set ?_ GE269.out | refine below_set ?_ GE270.out | refine below_set ?_ GE283.out) | exact HB.out))))
  (case aL => have := LMc24.out; omega)
  intro v289 w32 ho hb hg hat
  rw [← Ny288.out] at ho
  have n0_ := Aside0.mk (Kd.R_after (ok := (fun _ => True)) (by (with_reducible repeat (first | apply Kd.R_alloc | apply Kd.R_drewN | apply Kd.R_drew)); exact HO_284000.out) hg hat)
  have n1_ := Aside0.mk (Kd.R_over' (by (with_reducible repeat (first | apply Kd.R_alloc | apply Kd.R_drewN | apply Kd.R_drew)); exact HO_284001.out) (Kd.R_typed (by (with_reducible repeat (first | apply Kd.R_alloc | apply Kd.R_drewN | apply Kd.R_drew)); exact HO286.out)) (by decide) hg)
  have n2_ := Aside0.mk (Kd.S_after (ok := (fun k_ => some k_ ≠ (.slice Ao18 y274.length co18 : Value).ownBlock)) (by (with_reducible repeat (first | apply Kd.S_alloc | apply Kd.S_drewN | apply Kd.S_drew)); exact HO_284002.out) hg hat)
  have n3_ := Aside0.mk (blk_grown (g := gb269) (o := .cells #[.slice A0_0 l0_0.length c0_0, .slice A0_1 l0_1.length c0_1, .slice (some ad287) l0_2.length c0_2] 26 (0, 0)) (by (with_reducible repeat (first | refine blk_drewN ?_ _ | refine blk_drew ?_ | refine blk_alloc ?_ _)); exact BK269.out) hg (Kd.R_ne HO286.out BK269.out (by decide)))
  have n4_ := Aside0.mk (blk_grown (g := gb270) (o := .cells #[.slice none 0 0, .slice none 0 0, .slice none 0 0] 26 (0, 0)) (by (with_reducible repeat (first | refine blk_drewN ?_ _ | refine blk_drew ?_ | refine blk_alloc ?_ _)); exact BK270.out) hg (Kd.R_ne HO286.out BK270.out (by decide)))
  have n5_ := Aside0.mk (blk_grown (g := gb283) (o := .cells #[.slice Ao18 y274.length co18, .slice Ao17 y280.length co17, u284002] 26 (0, 0)) (by (with_reducible repeat (first | refine blk_drewN ?_ _ | refine blk_drew ?_ | refine blk_alloc ?_ _)); exact BK283.out) hg (Kd.R_ne HO286.out BK283.out (by decide)))
  have n6_ := Aside0.mk (hb)
  have n7_ := Aside0.mk (ho)
  clear HO_284000
  clear HO_284001
  clear HO_284002
  clear BK269
  clear BK270
  clear BK283
  clear HB
  clear HO286
  have HO_284000 := n0_
  have HO_284001 := n1_
  have HO_284002 := n2_
  have BK269 := n3_
  have BK270 := n4_
  have BK283 := n5_
  have HB := n6_
  have HO290 := n7_
  clear n0_ n1_ n2_ n3_ n4_ n5_ n6_ n7_
  clear ho hb hg hat
  obtain ⟨Ao34, co34, eo34⟩ := Kd.R_slice HO290.out
  (first | subst eo34 | (injection eo34 with f1_ f2_ f3_; have f4_ := f1_.symm; have f5_ := f3_.symm; clear f1_ f2_ f3_; subst f4_; subst f5_))
  refine hK.out _ _ ⟨(blk_cell BK283.out 0).trans rfl, (blk_cell BK283.out 1).trans rfl, (blk_cell BK283.out 2).trans rfl, (blk_cell BK269.out 0).trans rfl, (blk_cell BK269.out 1).trans rfl, (blk_cell BK269.out 2).trans rfl, ((HB.out.cell (World.block_lt_of_cell? w _ hw287_0)).trans hw287_0)⟩ (fun hHeld => ?_)
  clear hK K
  refine norm_ (a' := ?_) ?_ ?_
  rotate_left
  ·
   show Act.put _ (some 29) _ = _
   simp only [Act.put, List.setIfInBounds_toArray, List.set_cons_zero, List.set_cons_succ, i64_w, i32_w]
   rfl
  refine one_ (i := 9) (N := some 30) #[true, true, true, true, true, true, true, true, true, true, false, false, false] rfl rfl (one_of HT_.out (by kernel_rfl)) (by decide) (fun K hK => ?_)
  refine value_ (w1 := ?_) (v := ?_) (by rfl) rfl ?_ ?_
  rotate_left 2
  ·
   go_simp
   constructor
   ·
    rfl
   rfl
  refine hK.out _ _ ⟨(blk_cell (blk_alloc BK283.out _) 0).trans rfl, (blk_cell (blk_alloc BK283.out _) 1).trans rfl, (blk_cell (blk_alloc BK283.out _) 2).trans rfl, (blk_cell (blk_alloc BK269.out _) 0).trans rfl, (blk_cell (blk_alloc BK269.out _) 1).trans rfl, (blk_cell (blk_alloc BK269.out _) 2).trans rfl, (World.cell?_alloc_lt _ _ _ (World.block_lt_of_cell? _ _ (((HB.out.cell (World.block_lt_of_cell? w _ hw287_0)).trans hw287_0)))).trans (((HB.out.cell (World.block_lt_of_cell? w _ hw287_0)).trans hw287_0))⟩ (fun hHeld => ?_)
  clear hK K
  refine norm_ (a' := ?_) ?_ ?_
  rotate_left
  ·
   show Act.put _ (some 30) _ = _
   simp only [Act.put, List.setIfInBounds_toArray, List.set_cons_zero, List.set_cons_succ, i64_w, i32_w]
   rfl
  refine one_ (i := 10) (N := some 31) #[true, true, true, true, true, true, true, true, true, true, true, false, false] rfl rfl (one_of HT_.out (by kernel_rfl)) (by decide) (fun K hK => ?_)
  refine Kd.S_append_step (Kd.slice 3 (Kd.int .i64)) (w0 := w) w.heap.size (by rfl) (.tmp 22) (.tmp 30) 24 22 (.slice none 0 0) 24 rfl Try.underlying24 info22 rfl (by decide) (by omega) u284002 x284002_1 y288 [.slice Ao34 y288.length co34] (fun k_ => some k_ ≠ (.slice Ao18 y274.length co18 : Value).ownBlock) (fun k_ => some k_ = (.slice Ao34 y288.length co34 : Value).ownBlock) rfl rfl ?aP (fun k_ hk_ => ((Kd.R_mono (ok' := fun k_ => ((fun k_ => some k_ ≠ (.slice Ao18 y274.length co18 : Value).ownBlock)) k_ ∧ some k_ ≠ (u284002 : Value).ownBlock) (Kd.R_apart' (HO290.out) (Kd.S_typed HO_284002.out) (by decide)) (fun k_ hk => ⟨hk.1, hk.2⟩))).1 k_ hk_.symm) ?aF ?aO ?aB ?aS ?aL ?_
  (case aP => exact Kd.M_row (Kd.R_mono (Kd.R_tight rfl (Kd.R_mono (ok' := fun k_ => ((fun k_ => some k_ ≠ (.slice Ao18 y274.length co18 : Value).ownBlock)) k_ ∧ some k_ ≠ (u284002 : Value).ownBlock) (Kd.R_apart' (HO290.out) (Kd.S_typed HO_284002.out) (by decide)) (fun k_ hk => ⟨hk.1, hk.2⟩))) (fun _ h_ => h_)))
  (case aB => exact (by repeat (first | (with_reducible first | exact HB.out | apply below_alloc | apply pw_below_drewN | apply below_drew1 | refine below_set ?_ GE269.out | refine below_set ?_ GE270.out | refine below_set ?_ GE283.out) | exact HB.out)))
  (case aF => exact (fun k_ hk => Kd.fresh' (Kd.R_lt (by (with_reducible repeat (first | apply Kd.R_alloc | apply Kd.R_drewN | apply Kd.R_drew)); exact HO_284000.out)) k_ hk))
  (case aO => exact (by (with_reducible repeat (first | apply Kd.S_alloc | apply Kd.S_drewN | apply Kd.S_drew)); exact Kd.S_mono HO_284002.out (fun k_ hk => ⟨hk.1, fun e_ => hk.2 e_⟩)))
  (case aS => exact (below_size (by repeat (first | (with_reducible first | exact HB.out | apply below_alloc | apply pw_below_drewN | apply below_drew1 | refine below_set ?_ GE269.out | refine below_set ?_ GE270.out | refine below_set ?_ GE283.out) | exact HB.out))))
  (case aL => have := LMc25.out; omega)
  intro v292 w33 ho hb hg hat
  rw [← Ny291.out] at ho
  have n0_ := Aside0.mk (Kd.R_over' (by (with_reducible repeat (first | apply Kd.R_alloc | apply Kd.R_drewN | apply Kd.R_drew)); exact HO_284000.out) (Kd.S_typed (by (with_reducible repeat (first | apply Kd.S_alloc | apply Kd.S_drewN | apply Kd.S_drew)); exact HO_284002.out)) (by decide) hg)
  have n1_ := Aside0.mk (Kd.R_over' (by (with_reducible repeat (first | apply Kd.R_alloc | apply Kd.R_drewN | apply Kd.R_drew)); exact HO_284001.out) (Kd.S_typed (by (with_reducible repeat (first | apply Kd.S_alloc | apply Kd.S_drewN | apply Kd.S_drew)); exact HO_284002.out)) (by decide) hg)
  have n2_ := Aside0.mk (blk_grown (g := gb269) (o := .cells #[.slice A0_0 l0_0.length c0_0, .slice A0_1 l0_1.length c0_1, .slice (some ad287) l0_2.length c0_2] 26 (0, 0)) (by (with_reducible repeat (first | refine blk_drewN ?_ _ | refine blk_drew ?_ | refine blk_alloc ?_ _)); exact BK269.out) hg (Kd.S_ne HO_284002.out BK269.out (by decide)))
  have n3_ := Aside0.mk (blk_grown (g := gb270) (o := .cells #[.slice none 0 0, .slice none 0 0, .slice none 0 0] 26 (0, 0)) (by (with_reducible repeat (first | refine blk_drewN ?_ _ | refine blk_drew ?_ | refine blk_alloc ?_ _)); exact BK270.out) hg (Kd.S_ne HO_284002.out BK270.out (by decide)))
  have n4_ := Aside0.mk (blk_grown (g := gb283) (o := .cells #[.slice Ao18 y274.length co18, .slice Ao17 y280.length co17, u284002] 26 (0, 0)) (by (with_reducible repeat (first | refine blk_drewN ?_ _ | refine blk_drew ?_ | refine blk_alloc ?_ _)); exact BK283.out) hg (Kd.S_ne HO_284002.out BK283.out (by decide)))
  have n5_ := Aside0.mk (hb)
  have n6_ := Aside0.mk (ho)
  clear HO_284000
  clear HO_284001
  clear BK269
  clear BK270
  clear BK283
  clear HB
  clear HO_284002
  clear HO290
  have HO_284000 := n0_
  have HO_284001 := n1_
  have BK269 := n2_
  have BK270 := n3_
  have BK283 := n4_
  have HB := n5_
  have HO293 := n6_
  clear n0_ n1_ n2_ n3_ n4_ n5_ n6_
  clear ho hb hg hat
  obtain ⟨Ao35, co35, eo35⟩ := Kd.S_slice HO293.out
  (first | subst eo35 | (injection eo35 with f1_ f2_ f3_; have f4_ := f1_.symm; have f5_ := f3_.symm; clear f1_ f2_ f3_; subst f4_; subst f5_))
  refine hK.out _ _ ⟨(blk_cell BK283.out 0).trans rfl, (blk_cell BK283.out 1).trans rfl, (blk_cell BK283.out 2).trans rfl, (blk_cell BK269.out 0).trans rfl, (blk_cell BK269.out 1).trans rfl, (blk_cell BK269.out 2).trans rfl, ((HB.out.cell (World.block_lt_of_cell? w _ hw287_0)).trans hw287_0)⟩ (fun hHeld => ?_)
  clear hK K
  refine norm_ (a' := ?_) ?_ ?_
  rotate_left
  ·
   show Act.put _ (some 31) _ = _
   simp only [Act.put, List.setIfInBounds_toArray, List.set_cons_zero, List.set_cons_succ, i64_w, i32_w]
   rfl
  refine pure_ (i := 11) (N := some 32) (v := ?_) (a' := ?_) #[true, true, true, true, true, true, true, true, true, true, true, true, false] rfl rfl (any_of HT_.out (by kernel_rfl)) (fun _ _ _ h => h) (Or.inl ⟨by rfl, ?_⟩) ?_ ?_
  rotate_left
  ·
   intro w'
   go_simp
   with_reducible rfl
  rotate_left
  ·
   simp only [Act.put, List.setIfInBounds_toArray, List.set_cons_zero, List.set_cons_succ, i64_w, i32_w]
   rfl
  refine last_ (i := 12) (N := none) #[true, true, true, true, true, true, true, true, true, true, true, true, true] rfl rfl (one_of HT_.out (by kernel_rfl)) (by decide) (fun K hK => ?_)
  have hs36 : w33.cell? ⟨gb283, 2, none⟩ = some (u284002) := (blk_cell BK283.out 2).trans rfl
  have hfs36 := blk_frozen BK283.out 2
  have hns36_0 := NB269_283.out
  have hns36_1 := NB270_283.out
  have hms36_0 := NB283_269.out
  have hms36_1 := NB283_270.out
  refine skip_ (w1 := ?_) (by rfl) rfl ?_ ?_
  rotate_left
  ·
   go_simp
   rfl
  refine hK.out _ _ ?_
  clear hK K
  refine done_ (done_of HT_.out (by kernel_rfl)) ?_
  try go_wp2
  go_roundg k1
  case measure => have := HK1.out; omega
  case rel => exact ⟨(wrap64 (x4_1 + 1)), (y291), (.slice Ao35 y291.length co35), (by first | rfl | (simp; done) | (simp [*]; done)), H', ⟨by have := HK1.out; omega⟩, ⟨by (with_reducible repeat (first | apply Kd.R_alloc | apply Kd.R_drewN | apply Kd.R_drew)); exact Kd.R_mono (Kd.R_far (p := ⟨gb283, 2, none⟩) (Kd.R_types HO_284000.out BK283.out (by decide)) (fun _ hk => hk.2) (.slice Ao35 y291.length co35)) (fun _ hk => trivial)⟩, ⟨by (with_reducible repeat (first | apply Kd.R_alloc | apply Kd.R_drewN | apply Kd.R_drew)); exact Kd.R_mono (Kd.R_far (p := ⟨gb283, 2, none⟩) (Kd.R_types HO_284001.out BK283.out (by decide)) (fun _ hk => hk.2) (.slice Ao35 y291.length co35)) (fun _ hk => trivial)⟩, ⟨by (with_reducible repeat (first | apply Kd.S_alloc | apply Kd.S_drewN | apply Kd.S_drew)); exact Kd.S_mono (Kd.S_far (p := ⟨gb283, 2, none⟩) (Kd.S_types HO293.out BK283.out (by decide)) (fun _ hk => hk.2) (.slice Ao35 y291.length co35)) (fun _ hk => hk.1)⟩, ⟨by (with_reducible repeat (first | refine blk_drewN ?_ _ | refine blk_drew ?_ | refine blk_alloc ?_ _)); refine blk_far ?_ NB269_283.out _; (with_reducible repeat (first | refine blk_drewN ?_ _ | refine blk_drew ?_ | refine blk_alloc ?_ _)); exact BK269.out⟩, ⟨by (with_reducible repeat (first | refine blk_drewN ?_ _ | refine blk_drew ?_ | refine blk_alloc ?_ _)); refine blk_far ?_ NB270_283.out _; (with_reducible repeat (first | refine blk_drewN ?_ _ | refine blk_drew ?_ | refine blk_alloc ?_ _)); exact BK270.out⟩, ⟨by (with_reducible repeat (first | refine blk_drewN ?_ _ | refine blk_drew ?_ | refine blk_alloc ?_ _)); refine blk_put (cs := #[.slice Ao18 y274.length co18, .slice Ao17 y280.length co17, u284002]) ?_ 2 _ rfl; (with_reducible repeat (first | refine blk_drewN ?_ _ | refine blk_drew ?_ | refine blk_alloc ?_ _)); exact BK283.out⟩, ⟨by repeat (first | (with_reducible first | exact HB.out | apply below_alloc | apply pw_below_drewN | apply below_drew1 | refine below_set ?_ GE269.out | refine below_set ?_ GE270.out | refine below_set ?_ GE283.out) | exact HB.out)⟩⟩
end Go.Proofs.Ytkmmihadcbfkoaa.PM
end

section
namespace Go.Proofs.Ytkmmihadcbfkoaa.PM
open Go.RowKit Go.Proofs.YtkmmihadcbfkoaaW.PrintWords Go.Proofs.YtkmmihadcbfkoaaW.PrintLast Go.Proofs.YtkmmihadcbfkoaaW.PrintMore
set_option linter.unusedVariables false
set_option linter.unusedSimpArgs false
def match_other.l0 : Nat → List (List Int) → Int → Int → List Int → List (S50) → List (List Int) → Option (List Int × (List (S50)) × (List (List Int)))
 | 0, _, _, _, _, _, _ => none
 | k + 1, x14, x15, x16, x528000, x528001, x528002 => if x16 < x15 then (if 0 ≤ x16 then (if x16 < (x14.length : Int) then ((match_copied_int_88.f (rd_L1 x14 x16)).bind fun t529 => (if x528002.length < 5864062014805 then (match_other.l0 k x14 x15 (wrap64 (x16 + 1)) x528000 x528001 (x528002 ++ [t529])) else (none))) else (none)) else (none)) else (some (x528000, x528001, x528002))
def match_other.f (k : Nat) (l0_0 : List Int) (l0_1 : List (S50)) (l0_2 : List (List Int)) : Option (List Int × (List (S50)) × (List (List Int))) := (match_copied_int_88.f l0_0).bind fun t521 => ((api_Slot.f l0_1).bind fun t524 => (match_other.l0 k l0_2 (l0_2.length : Int) 0 t521 t524 ([] : List (List Int))))
def match_other.T1 : Bool × List (List Nat × List Nat) := (true, [([], []), ([0], [0]), ([1], [1]), ([], []), ([3], [3]), ([4, 2], [4]), ([2, 5], [2, 5]), ([], []), ([7, 6, 5, 0, 1, 2, 3, 4, 5, 6, 7], [6, 7])])
def match_other.B1 : List Nat := [0, 1, 3, 0, 8, 31, 63, 0, 255]
theorem match_other.tab1 : rtab .any (opsOf Try.f76 1) = match_other.T1 := by kernel_rfl
theorem match_other.bits1 : waitsOk match_other.T1.2 match_other.B1 = true := by kernel_rfl
def match_other.T5 : Bool × List (List Nat × List Nat) := (true, [([], []), ([0], [0]), ([], []), ([2], [2]), ([3], [3]), ([1, 4, 3], [1, 4]), ([0, 1, 2, 3, 4, 5], []), ([6, 5, 5, 0, 1, 2, 3, 4, 5], [5, 6])])
def match_other.B5 : List Nat := [0, 1, 0, 4, 12, 31, 63, 127]
theorem match_other.tab5 : rtab .any (opsOf Try.f76 5) = match_other.T5 := by kernel_rfl
theorem match_other.bits5 : waitsOk match_other.T5.2 match_other.B5 = true := by kernel_rfl
set_option maxHeartbeats 8000000 in
set_option maxRecDepth 100000 in
theorem match_other.calls (k : Nat) (A0_0 : Option Addr) (c0_0 : Nat) (l0_0 : List Int) (A0_1 : Option Addr) (c0_1 : Nat) (l0_1 : List (S50)) (A0_2 : Option Addr) (c0_2 : Nat) (l0_2 : List (List Int)) (r1 : List Int) (r2 : List (S50)) (r3 : List (List Int)) (w : World) (hr0_0 : Kd.C (Kd.int .i64) w A0_0 l0_0.length l0_0) (hc0_0 : l0_0.length ≤ c0_0) (hr0_1 : Kd.C k50 w A0_1 l0_1.length l0_1) (hc0_1 : l0_1.length ≤ c0_1) (hr0_2 : Kd.C (Kd.slice 3 (Kd.int .i64)) w A0_2 l0_2.length l0_2) (hc0_2 : l0_2.length ≤ c0_2) (h : match_other.f k l0_0 l0_1 l0_2 = some (r1, r2, r3)) :
  Calls Try.prog 76 #[.agg #[.slice A0_0 l0_0.length c0_0, .slice A0_1 l0_1.length c0_1, .slice A0_2 l0_2.length c0_2]] w fun e w' => ∃ v0_ v1_ v2_ : Value, e = .returned (.agg #[v0_, v1_, v2_]) ∧ Kd.R (Kd.int .i64) 3 w' w.heap.size (fun _ => True) v0_ r1 ∧ Kd.R k50 50 w' w.heap.size (fun _ => True) v1_ r2 ∧ Kd.S (Kd.slice 3 (Kd.int .i64)) 22 w' w.heap.size (fun k_ => some k_ ≠ (v0_ : Value).ownBlock) v2_ r3 ∧ Below w.heap.size w w' := by
 have hu26 := Try.underlying26
 have HR0_0 := Aside0.mk hr0_0
 have HC0_0 := Aside0.mk hc0_0
 clear hr0_0 hc0_0
 have HR0_1 := Aside0.mk hr0_1
 have HC0_1 := Aside0.mk hc0_1
 clear hr0_1 hc0_1
 have HR0_2 := Aside0.mk hr0_2
 have HC0_2 := Aside0.mk hc0_2
 clear hr0_2 hc0_2
 have HB := Aside0.mk (Below.refl w.heap.size w)
 have H : ((match_copied_int_88.f l0_0).bind fun t521 => ((api_Slot.f l0_1).bind fun t524 => (match_other.l0 k l0_2 (l0_2.length : Int) 0 t521 t524 ([] : List (List Int))))) = some (r1, r2, r3) := h
 clear h
 replace H := Option.bind_eq_some_iff.mp H
 obtain ⟨t521, A20, H⟩ := H
 replace H : ((api_Slot.f l0_1).bind fun t524 => (match_other.l0 k l0_2 (l0_2.length : Int) 0 t521 t524 ([] : List (List Int)))) = some (r1, r2, r3) := H
 have A2 := Aside0.mk A20
 clear A20
 replace H := Option.bind_eq_some_iff.mp H
 obtain ⟨t524, A30, H⟩ := H
 replace H : (match_other.l0 k l0_2 (l0_2.length : Int) 0 t521 t524 ([] : List (List Int))) = some (r1, r2, r3) := H
 have A3 := Aside0.mk A30
 clear A30
 have H' := Aside0.mk H
 clear H
 go_enter Try.func76, Try.ntmps76
 try go_wp2_with (first | ((with_reducible refine gate_dst (N := 1) rfl ?_); refine box_event ?hg (N := 1) ?hd (cs := #[.slice A0_0 l0_0.length c0_0, .slice A0_1 l0_1.length c0_1, .slice A0_2 l0_2.length c0_2]) (t := 26) ?hr ?_; (case hd => rfl); (case hg => rfl); (case hr => first | (go_simp; done) | (go_simp; rfl)); intro gb519 hg w4 hbox hb; have n0_ := Aside0.mk (below_step (by repeat (first | (with_reducible first | exact HB.out | apply below_alloc | apply pw_below_drewN | apply below_drew1) | exact HB.out)) hb); have n1_ := Aside0.mk (hbox); have n2_ := Aside0.mk ((by rw [hg]; exact (below_size (by repeat (first | (with_reducible first | exact HB.out | apply below_alloc | apply pw_below_drewN | apply below_drew1) | exact HB.out))) : w.heap.size ≤ gb519)); have n3_ := Aside0.mk ((by rw [hg]; exact (below_size (by repeat (first | (with_reducible first | exact HB.out | apply below_alloc | apply pw_below_drewN | apply below_drew1) | exact HB.out))) : w.heap.size ≤ gb519)); clear HB; have HB := n0_; have BK519 := n1_; have GW519 := n2_; have GE519 := n3_; clear n0_ n1_ n2_ n3_; clear hb hbox hg) | ((with_reducible refine gate_dst (N := 2) rfl ?_); refine box_event ?hg (N := 2) ?hd (cs := #[.slice none 0 0, .slice none 0 0, .slice none 0 0]) (t := 26) ?hr ?_; (case hd => rfl); (case hg => rfl); (case hr => first | (go_simp; done) | (go_simp; rfl)); intro gb520 hg w5 hbox hb; have n0_ := Aside0.mk (blk_below (g := gb519) (o := .cells #[.slice A0_0 l0_0.length c0_0, .slice A0_1 l0_1.length c0_1, .slice A0_2 l0_2.length c0_2] 26 (0, 0)) (by (with_reducible repeat (first | refine blk_drewN ?_ _ | refine blk_drew ?_ | refine blk_alloc ?_ _)); exact BK519.out) hb); have n1_ := Aside0.mk (below_step (by repeat (first | (with_reducible first | exact HB.out | apply below_alloc | apply pw_below_drewN | apply below_drew1 | refine below_set ?_ GE519.out) | exact HB.out)) hb); have n2_ := Aside0.mk (hbox); have n3_ := Aside0.mk ((by rw [hg]; exact (below_size (by repeat (first | (with_reducible first | exact HB.out | apply below_alloc | apply pw_below_drewN | apply below_drew1 | refine below_set ?_ GE519.out) | exact HB.out))) : w.heap.size ≤ gb520)); have n4_ := Aside0.mk ((by rw [hg]; exact (below_size (by repeat (first | (with_reducible first | exact HB.out | apply below_alloc | apply pw_below_drewN | apply below_drew1 | refine below_set ?_ GE519.out) | exact HB.out))) : w.heap.size ≤ gb520)); have n5_ := Aside0.mk ((by rw [hg]; exact Nat.ne_of_lt (blk_lt (g := gb519) (o := .cells #[.slice A0_0 l0_0.length c0_0, .slice A0_1 l0_1.length c0_1, .slice A0_2 l0_2.length c0_2] 26 (0, 0)) (by (with_reducible repeat (first | refine blk_drewN ?_ _ | refine blk_drew ?_ | refine blk_alloc ?_ _)); exact BK519.out)) : gb519 ≠ gb520)); have n6_ := Aside0.mk ((by rw [hg]; exact Nat.ne_of_gt (blk_lt (g := gb519) (o := .cells #[.slice A0_0 l0_0.length c0_0, .slice A0_1 l0_1.length c0_1, .slice A0_2 l0_2.length c0_2] 26 (0, 0)) (by (with_reducible repeat (first | refine blk_drewN ?_ _ | refine blk_drew ?_ | refine blk_alloc ?_ _)); exact BK519.out)) : gb520 ≠ gb519)); clear BK519; clear HB; have BK519 := n0_; have HB := n1_; have BK520 := n2_; have GW520 := n3_; have GE520 := n4_; have NB519_520 := n5_; have NB520_519 := n6_; clear n0_ n1_ n2_ n3_ n4_ n5_ n6_; clear hb hbox hg))
 have n0_ := Aside0.mk (blk_drew BK519.out)
 have n1_ := Aside0.mk (blk_drew BK520.out)
 have n2_ := Aside0.mk (below_drew1 HB.out)
 clear BK519
 clear BK520
 clear HB
 have BK519 := n0_
 have BK520 := n1_
 have HB := n2_
 clear n0_ n1_ n2_
 refine start_ (n := 9) (S := fun w' => w'.cell? ⟨gb519, 0, none⟩ = some (.slice A0_0 l0_0.length c0_0) ∧ w'.cell? ⟨gb519, 1, none⟩ = some (.slice A0_1 l0_1.length c0_1) ∧ w'.cell? ⟨gb519, 2, none⟩ = some (.slice A0_2 l0_2.length c0_2)) (ds := []) #[false, false, false, false, false, false, false, false, false] (by kernel_rfl) rfl rfl ⟨(blk_cell BK519.out 0).trans rfl, (blk_cell BK519.out 1).trans rfl, (blk_cell BK519.out 2).trans rfl⟩ (fun hHeld => ?_); refine with_tabW match_other.tab1 match_other.bits1 (fun HT_ HW_ => ?_)
 generalize w5.drew = w6 at BK519 BK520 HB hHeld ⊢
 refine pure_ (i := 0) (N := some 6) (v := ?_) (a' := ?_) #[true, false, false, false, false, false, false, false, false] rfl rfl (any_of HT_.out (by kernel_rfl)) (fun _ _ _ h => h) (Or.inl ⟨by rfl, ?_⟩) ?_ ?_
 rotate_left
 ·
  intro w'
  go_simp
  with_reducible rfl
 rotate_left
 ·
  simp only [Act.put, List.setIfInBounds_toArray, List.set_cons_zero, List.set_cons_succ, i64_w, i32_w]
  rfl
 refine pure_ (i := 3) (N := some 9) (v := ?_) (a' := ?_) #[true, false, false, true, false, false, false, false, false] rfl rfl (any_of HT_.out (by kernel_rfl)) (fun _ _ _ h => h) (Or.inl ⟨by rfl, ?_⟩) ?_ ?_
 rotate_left
 ·
  intro w'
  go_simp
  with_reducible rfl
 rotate_left
 ·
  simp only [Act.put, List.setIfInBounds_toArray, List.set_cons_zero, List.set_cons_succ, i64_w, i32_w]
  rfl
 refine take_ (i := 1) (N := some 7) (v := ?_) (a' := ?_) #[true, true, false, true, false, false, false, false, false] rfl rfl (take_ofW HT_.out HW_.out (by kernel_rfl)) (fun _ _ _ h => h) (Or.inl ⟨by rfl, ?_⟩) hHeld ?_ ?_
 rotate_left
 ·
  rintro w' ⟨s0, s1, s2⟩
  go_simp
  with_reducible rfl
 rotate_left
 ·
  simp only [Act.put, List.setIfInBounds_toArray, List.set_cons_zero, List.set_cons_succ, i64_w, i32_w]
  rfl
 refine take_ (i := 4) (N := some 10) (v := ?_) (a' := ?_) #[true, true, false, true, true, false, false, false, false] rfl rfl (take_ofW HT_.out HW_.out (by kernel_rfl)) (fun _ _ _ h => h) (Or.inl ⟨by rfl, ?_⟩) hHeld ?_ ?_
 rotate_left
 ·
  rintro w' ⟨s0, s1, s2⟩
  go_simp
  with_reducible rfl
 rotate_left
 ·
  simp only [Act.put, List.setIfInBounds_toArray, List.set_cons_zero, List.set_cons_succ, i64_w, i32_w]
  rfl
 refine join_ (σ := Value × Value × Nat) 1 #[true, true, true, true, true, true, true, true, false] (fun s_ => [(8, s_.1), (11, s_.2.1), (3, .pointer (some ⟨s_.2.2, 0, none⟩)), (12, .agg #[s_.1, s_.2.1, .slice none 0 0])]) (fun s_ w' => (w'.cell? ⟨gb519, 0, none⟩ = some (.slice A0_0 l0_0.length c0_0) ∧ w'.cell? ⟨gb519, 1, none⟩ = some (.slice A0_1 l0_1.length c0_1) ∧ w'.cell? ⟨gb519, 2, none⟩ = some (.slice A0_2 l0_2.length c0_2)) ∧ (Kd.R (Kd.int .i64) 3 w' w.heap.size (fun _ => True) s_.1 t521) ∧ (Kd.R k50 50 w' w.heap.size (fun _ => True) s_.2.1 t524) ∧ (w'.heap[gb519]? = some (.cells #[.slice A0_0 l0_0.length c0_0, .slice A0_1 l0_1.length c0_1, .slice A0_2 l0_2.length c0_2] 26 (0, 0))) ∧ (w'.heap[gb520]? = some (.cells #[.slice none 0 0, .slice none 0 0, .slice none 0 0] 26 (0, 0))) ∧ (w'.heap[s_.2.2]? = some (.cells #[.slice none 0 0, .slice none 0 0, .slice none 0 0] 26 (0, 0))) ∧ (w.heap.size ≤ s_.2.2) ∧ (w.heap.size ≤ s_.2.2) ∧ (gb519 ≠ s_.2.2) ∧ (s_.2.2 ≠ gb519) ∧ (gb520 ≠ s_.2.2) ∧ (s_.2.2 ≠ gb520) ∧ (Below w.heap.size w w')) ?_ ?_
 rotate_left
 ·
  intro hCont
  refine two_ (i := 2) (j := 7) (Ni := some 8) (Nj := some 3) #[true, true, true, true, true, false, false, false, false] #[true, true, false, true, true, false, false, true, false] rfl rfl rfl rfl (two_of HT_.out (by kernel_rfl)) (by decide) (by decide) (fun K hK => ?_) (fun K hK => ?_)
  ·
   skip
   refine goes_ Try.func88 (by kernel_rfl) rfl #[.slice A0_0 l0_0.length c0_0] (by rfl) rfl rfl (by (try simp only [List.map_toArray, List.map_cons, List.map_nil]); first | done | rfl | (simp only [List.length_drop, List.length_take]; rfl)) ?_
   with_reducible refine (match_copied_int_88.calls _ _ l0_0 t521 _ ?side1 ?side2 A2.out).mono ?_
   (case side1 => repeat (first | exact (Kd.C_below HR0_0.out HB.out) | (with_reducible refine Kd.C_alloc ?_ _) | (with_reducible refine Kd.C_drewN ?_ _) | (with_reducible refine Kd.C_drew ?_)))
   (case side2 => exact HC0_0.out)
   rintro e w7 ⟨v522, rfl, ho0, hb⟩
   refine ⟨_, rfl, ?_⟩
   have n0_ := Aside0.mk (Kd.R_lower ho0 (below_size (by repeat (first | (with_reducible first | exact HB.out | apply below_alloc | apply pw_below_drewN | apply below_drew1 | refine below_set ?_ GE519.out | refine below_set ?_ GE520.out) | exact HB.out))))
   have n1_ := Aside0.mk (blk_below (g := gb519) (o := .cells #[.slice A0_0 l0_0.length c0_0, .slice A0_1 l0_1.length c0_1, .slice A0_2 l0_2.length c0_2] 26 (0, 0)) (by (with_reducible repeat (first | refine blk_drewN ?_ _ | refine blk_drew ?_ | refine blk_alloc ?_ _)); exact BK519.out) hb)
   have n2_ := Aside0.mk (blk_below (g := gb520) (o := .cells #[.slice none 0 0, .slice none 0 0, .slice none 0 0] 26 (0, 0)) (by (with_reducible repeat (first | refine blk_drewN ?_ _ | refine blk_drew ?_ | refine blk_alloc ?_ _)); exact BK520.out) hb)
   have n3_ := Aside0.mk (below_step (by repeat (first | (with_reducible first | exact HB.out | apply below_alloc | apply pw_below_drewN | apply below_drew1 | refine below_set ?_ GE519.out | refine below_set ?_ GE520.out) | exact HB.out)) hb)
   clear BK519
   clear BK520
   clear HB
   have HO523 := n0_
   have BK519 := n1_
   have BK520 := n2_
   have HB := n3_
   clear n0_ n1_ n2_ n3_
   (try clear hb)
   (try clear hb2)
   (try clear hk)
   (try clear hi)
   (try clear ho0)
   refine hK.out _ _ ⟨(blk_cell BK519.out 0).trans rfl, (blk_cell BK519.out 1).trans rfl, (blk_cell BK519.out 2).trans rfl⟩ (fun hHeld => ?_)
   clear hK K
   refine norm_ (a' := ?_) ?_ ?_
   rotate_left
   ·
    show Act.put _ (some 8) _ = _
    simp only [Act.put, List.setIfInBounds_toArray, List.set_cons_zero, List.set_cons_succ, i64_w, i32_w]
    rfl
   refine two_ (i := 5) (j := 7) (Ni := some 11) (Nj := some 3) #[true, true, true, true, true, true, false, false, false] #[true, true, true, true, true, false, false, true, false] rfl rfl rfl rfl (two_of HT_.out (by kernel_rfl)) (by decide) (by decide) (fun K hK => ?_) (fun K hK => ?_)
   ·
    skip
    refine goes_ Try.func92 (by kernel_rfl) rfl #[.slice A0_1 l0_1.length c0_1] (by rfl) rfl rfl (by (try simp only [List.map_toArray, List.map_cons, List.map_nil]); first | done | rfl | (simp only [List.length_drop, List.length_take]; rfl)) ?_
    with_reducible refine (api_Slot.calls _ _ l0_1 t524 _ ?side1 ?side2 A3.out).mono ?_
    (case side1 => repeat (first | exact (Kd.C_below HR0_1.out HB.out) | (with_reducible refine Kd.C_alloc ?_ _) | (with_reducible refine Kd.C_drewN ?_ _) | (with_reducible refine Kd.C_drew ?_)))
    (case side2 => exact HC0_1.out)
    rintro e w8 ⟨v525, rfl, ho0, hb⟩
    refine ⟨_, rfl, ?_⟩
    have n0_ := Aside0.mk (Kd.R_below (by (with_reducible repeat (first | apply Kd.R_alloc | apply Kd.R_drewN | apply Kd.R_drew)); exact HO523.out) hb)
    have n1_ := Aside0.mk (Kd.R_lower ho0 (below_size (by repeat (first | (with_reducible first | exact HB.out | apply below_alloc | apply pw_below_drewN | apply below_drew1 | refine below_set ?_ GE519.out | refine below_set ?_ GE520.out) | exact HB.out))))
    have n2_ := Aside0.mk (blk_below (g := gb519) (o := .cells #[.slice A0_0 l0_0.length c0_0, .slice A0_1 l0_1.length c0_1, .slice A0_2 l0_2.length c0_2] 26 (0, 0)) (by (with_reducible repeat (first | refine blk_drewN ?_ _ | refine blk_drew ?_ | refine blk_alloc ?_ _)); exact BK519.out) hb)
    have n3_ := Aside0.mk (blk_below (g := gb520) (o := .cells #[.slice none 0 0, .slice none 0 0, .slice none 0 0] 26 (0, 0)) (by (with_reducible repeat (first | refine blk_drewN ?_ _ | refine blk_drew ?_ | refine blk_alloc ?_ _)); exact BK520.out) hb)
    have n4_ := Aside0.mk (below_step (by repeat (first | (with_reducible first | exact HB.out | apply below_alloc | apply pw_below_drewN | apply below_drew1 | refine below_set ?_ GE519.out | refine below_set ?_ GE520.out) | exact HB.out)) hb)
    clear HO523
    clear BK519
    clear BK520
    clear HB
    have HO523 := n0_
    have HO526 := n1_
    have BK519 := n2_
    have BK520 := n3_
    have HB := n4_
    clear n0_ n1_ n2_ n3_ n4_
    (try clear hb)
    (try clear hb2)
    (try clear hk)
    (try clear hi)
    (try clear ho0)
    obtain ⟨Ao9, co9, eo9⟩ := Kd.R_slice HO526.out
    (first | subst eo9 | (injection eo9 with f1_ f2_ f3_; have f4_ := f1_.symm; have f5_ := f3_.symm; clear f1_ f2_ f3_; subst f4_; subst f5_))
    obtain ⟨Ao10, co10, eo10⟩ := Kd.R_slice HO523.out
    (first | subst eo10 | (injection eo10 with f1_ f2_ f3_; have f4_ := f1_.symm; have f5_ := f3_.symm; clear f1_ f2_ f3_; subst f4_; subst f5_))
    refine hK.out _ _ ⟨(blk_cell BK519.out 0).trans rfl, (blk_cell BK519.out 1).trans rfl, (blk_cell BK519.out 2).trans rfl⟩ (fun hHeld => ?_)
    clear hK K
    refine norm_ (a' := ?_) ?_ ?_
    rotate_left
    ·
     show Act.put _ (some 11) _ = _
     simp only [Act.put, List.setIfInBounds_toArray, List.set_cons_zero, List.set_cons_succ, i64_w, i32_w]
     rfl
    refine pure_ (i := 6) (N := some 12) (v := ?_) (a' := ?_) #[true, true, true, true, true, true, true, false, false] rfl rfl (any_of HT_.out (by kernel_rfl)) (fun _ _ _ h => h) (Or.inl ⟨by rfl, ?_⟩) ?_ ?_
    rotate_left
    ·
     intro w'
     go_simp
     with_reducible rfl
    rotate_left
    ·
     simp only [Act.put, List.setIfInBounds_toArray, List.set_cons_zero, List.set_cons_succ, i64_w, i32_w]
     rfl
    refine one_ (i := 7) (N := some 3) #[true, true, true, true, true, true, true, true, false] rfl rfl (one_of HT_.out (by kernel_rfl)) (by decide) (fun K hK => ?_)
    refine box_step ?hg (N := 3) ?hd (cs := #[.slice none 0 0, .slice none 0 0, .slice none 0 0]) (t := 26) ?hr ?_; (case hd => rfl); (case hg => rfl); (case hr => first | (go_simp; done) | (go_simp; rfl))
    intro gb527 hg w11 hbox hb
    have n0_ := Aside0.mk (Kd.R_below (by (with_reducible repeat (first | apply Kd.R_alloc | apply Kd.R_drewN | apply Kd.R_drew)); exact HO523.out) hb)
    have n1_ := Aside0.mk (Kd.R_below (by (with_reducible repeat (first | apply Kd.R_alloc | apply Kd.R_drewN | apply Kd.R_drew)); exact HO526.out) hb)
    have n2_ := Aside0.mk (blk_below (g := gb519) (o := .cells #[.slice A0_0 l0_0.length c0_0, .slice A0_1 l0_1.length c0_1, .slice A0_2 l0_2.length c0_2] 26 (0, 0)) (by (with_reducible repeat (first | refine blk_drewN ?_ _ | refine blk_drew ?_ | refine blk_alloc ?_ _)); exact BK519.out) hb)
    have n3_ := Aside0.mk (blk_below (g := gb520) (o := .cells #[.slice none 0 0, .slice none 0 0, .slice none 0 0] 26 (0, 0)) (by (with_reducible repeat (first | refine blk_drewN ?_ _ | refine blk_drew ?_ | refine blk_alloc ?_ _)); exact BK520.out) hb)
    have n4_ := Aside0.mk (below_step (by repeat (first | (with_reducible first | exact HB.out | apply below_alloc | apply pw_below_drewN | apply below_drew1 | refine below_set ?_ GE519.out | refine below_set ?_ GE520.out) | exact HB.out)) hb)
    have n5_ := Aside0.mk (hbox)
    have n6_ := Aside0.mk ((by rw [hg]; exact (below_size (by repeat (first | (with_reducible first | exact HB.out | apply below_alloc | apply pw_below_drewN | apply below_drew1 | refine below_set ?_ GE519.out | refine below_set ?_ GE520.out) | exact HB.out))) : w.heap.size ≤ gb527))
    have n7_ := Aside0.mk ((by rw [hg]; exact (below_size (by repeat (first | (with_reducible first | exact HB.out | apply below_alloc | apply pw_below_drewN | apply below_drew1 | refine below_set ?_ GE519.out | refine below_set ?_ GE520.out) | exact HB.out))) : w.heap.size ≤ gb527))
    have n8_ := Aside0.mk ((by rw [hg]; exact Nat.ne_of_lt (blk_lt (g := gb519) (o := .cells #[.slice A0_0 l0_0.length c0_0, .slice A0_1 l0_1.length c0_1, .slice A0_2 l0_2.length c0_2] 26 (0, 0)) (by (with_reducible repeat (first | refine blk_drewN ?_ _ | refine blk_drew ?_ | refine blk_alloc ?_ _)); exact BK519.out)) : gb519 ≠ gb527))
    have n9_ := Aside0.mk ((by rw [hg]; exact Nat.ne_of_gt (blk_lt (g := gb519) (o := .cells #[.slice A0_0 l0_0.length c0_0, .slice A0_1 l0_1.length c0_1, .slice A0_2 l0_2.length c0_2] 26 (0, 0)) (by (with_reducible repeat (first | refine blk_drewN ?_ _ | refine blk_drew ?_ | refine blk_alloc ?_ _)); exact BK519.out)) : gb527 ≠ gb519))
    have n10_ := Aside0.mk ((by rw [hg]; exact Nat.ne_of_lt (blk_lt (g := gb520) (o := .cells #[.slice none 0 0, .slice none 0 0, .slice none 0 0] 26 (0, 0)) (by (with_reducible repeat (first | refine blk_drewN ?_ _ | refine blk_drew ?_ | refine blk_alloc ?_ _)); exact BK520.out)) : gb520 ≠ gb527))
    have n11_ := Aside0.mk ((by rw [hg]; exact Nat.ne_of_gt (blk_lt (g := gb520) (o := .cells #[.slice none 0 0, .slice none 0 0, .slice none 0 0] 26 (0, 0)) (by (with_reducible repeat (first | refine blk_drewN ?_ _ | refine blk_drew ?_ | refine blk_alloc ?_ _)); exact BK520.out)) : gb527 ≠ gb520))
    clear HO523
    clear HO526
    clear BK519
    clear BK520
    clear HB
    have HO523 := n0_
    have HO526 := n1_
    have BK519 := n2_
    have BK520 := n3_
    have HB := n4_
    have BK527 := n5_
    have GW527 := n6_
    have GE527 := n7_
    have NB519_527 := n8_
    have NB527_519 := n9_
    have NB520_527 := n10_
    have NB527_520 := n11_
    clear n0_ n1_ n2_ n3_ n4_ n5_ n6_ n7_ n8_ n9_ n10_ n11_
    clear hb hbox hg
    refine hK.out _ _ ⟨(blk_cell BK519.out 0).trans rfl, (blk_cell BK519.out 1).trans rfl, (blk_cell BK519.out 2).trans rfl⟩ (fun hHeld => ?_)
    clear hK K
    refine norm_ (a' := ?_) ?_ ?_
    rotate_left
    ·
     show Act.put _ (some 3) _ = _
     simp only [Act.put, List.setIfInBounds_toArray, List.set_cons_zero, List.set_cons_succ, i64_w, i32_w]
     rfl
    exact norm_ (by simp only [putAll, Act.put, List.setIfInBounds_toArray, List.set_cons_zero, List.set_cons_succ]) (hCont (.slice Ao10 t521.length co10, .slice Ao9 t524.length co9, gb527) _ ⟨hHeld, (by (with_reducible repeat (first | apply Kd.R_alloc | apply Kd.R_drewN | apply Kd.R_drew)); exact HO523.out), (by (with_reducible repeat (first | apply Kd.R_alloc | apply Kd.R_drewN | apply Kd.R_drew)); exact HO526.out), (by (with_reducible repeat (first | refine blk_drewN ?_ _ | refine blk_drew ?_ | refine blk_alloc ?_ _)); exact BK519.out), (by (with_reducible repeat (first | refine blk_drewN ?_ _ | refine blk_drew ?_ | refine blk_alloc ?_ _)); exact BK520.out), (by (with_reducible repeat (first | refine blk_drewN ?_ _ | refine blk_drew ?_ | refine blk_alloc ?_ _)); exact BK527.out), GW527.out, GE527.out, NB519_527.out, NB527_519.out, NB520_527.out, NB527_520.out, (by repeat (first | (with_reducible first | exact HB.out | apply below_alloc | apply pw_below_drewN | apply below_drew1 | refine below_set ?_ GE519.out | refine below_set ?_ GE520.out | refine below_set ?_ GE527.out) | exact HB.out))⟩)
   skip
   refine box_step ?hg (N := 3) ?hd (cs := #[.slice none 0 0, .slice none 0 0, .slice none 0 0]) (t := 26) ?hr ?_; (case hd => rfl); (case hg => rfl); (case hr => first | (go_simp; done) | (go_simp; rfl))
   intro gb527 hg w8 hbox hb
   have n0_ := Aside0.mk (Kd.R_below (by (with_reducible repeat (first | apply Kd.R_alloc | apply Kd.R_drewN | apply Kd.R_drew)); exact HO523.out) hb)
   have n1_ := Aside0.mk (blk_below (g := gb519) (o := .cells #[.slice A0_0 l0_0.length c0_0, .slice A0_1 l0_1.length c0_1, .slice A0_2 l0_2.length c0_2] 26 (0, 0)) (by (with_reducible repeat (first | refine blk_drewN ?_ _ | refine blk_drew ?_ | refine blk_alloc ?_ _)); exact BK519.out) hb)
   have n2_ := Aside0.mk (blk_below (g := gb520) (o := .cells #[.slice none 0 0, .slice none 0 0, .slice none 0 0] 26 (0, 0)) (by (with_reducible repeat (first | refine blk_drewN ?_ _ | refine blk_drew ?_ | refine blk_alloc ?_ _)); exact BK520.out) hb)
   have n3_ := Aside0.mk (below_step (by repeat (first | (with_reducible first | exact HB.out | apply below_alloc | apply pw_below_drewN | apply below_drew1 | refine below_set ?_ GE519.out | refine below_set ?_ GE520.out) | exact HB.out)) hb)
   have n4_ := Aside0.mk (hbox)
   have n5_ := Aside0.mk ((by rw [hg]; exact (below_size (by repeat (first | (with_reducible first | exact HB.out | apply below_alloc | apply pw_below_drewN | apply below_drew1 | refine below_set ?_ GE519.out | refine below_set ?_ GE520.out) | exact HB.out))) : w.heap.size ≤ gb527))
   have n6_ := Aside0.mk ((by rw [hg]; exact (below_size (by repeat (first | (with_reducible first | exact HB.out | apply below_alloc | apply pw_below_drewN | apply below_drew1 | refine below_set ?_ GE519.out | refine below_set ?_ GE520.out) | exact HB.out))) : w.heap.size ≤ gb527))
   have n7_ := Aside0.mk ((by rw [hg]; exact Nat.ne_of_lt (blk_lt (g := gb519) (o := .cells #[.slice A0_0 l0_0.length c0_0, .slice A0_1 l0_1.length c0_1, .slice A0_2 l0_2.length c0_2] 26 (0, 0)) (by (with_reducible repeat (first | refine blk_drewN ?_ _ | refine blk_drew ?_ | refine blk_alloc ?_ _)); exact BK519.out)) : gb519 ≠ gb527))
   have n8_ := Aside0.mk ((by rw [hg]; exact Nat.ne_of_gt (blk_lt (g := gb519) (o := .cells #[.slice A0_0 l0_0.length c0_0, .slice A0_1 l0_1.length c0_1, .slice A0_2 l0_2.length c0_2] 26 (0, 0)) (by (with_reducible repeat (first | refine blk_drewN ?_ _ | refine blk_drew ?_ | refine blk_alloc ?_ _)); exact BK519.out)) : gb527 ≠ gb519))
   have n9_ := Aside0.mk ((by rw [hg]; exact Nat.ne_of_lt (blk_lt (g := gb520) (o := .cells #[.slice none 0 0, .slice none 0 0, .slice none 0 0] 26 (0, 0)) (by (with_reducible repeat (first | refine blk_drewN ?_ _ | refine blk_drew ?_ | refine blk_alloc ?_ _)); exact BK520.out)) : gb520 ≠ gb527))
   have n10_ := Aside0.mk ((by rw [hg]; exact Nat.ne_of_gt (blk_lt (g := gb520) (o := .cells #[.slice none 0 0, .slice none 0 0, .slice none 0 0] 26 (0, 0)) (by (with_reducible repeat (first | refine blk_drewN ?_ _ | refine blk_drew ?_ | refine blk_alloc ?_ _)); exact BK520.out)) : gb527 ≠ gb520))
   clear HO523
   clear BK519
   clear BK520
   clear HB
   have HO523 := n0_
   have BK519 := n1_
   have BK520 := n2_
   have HB := n3_
   have BK527 := n4_
   have GW527 := n5_
   have GE527 := n6_
   have NB519_527 := n7_
   have NB527_519 := n8_
   have NB520_527 := n9_
   have NB527_520 := n10_
   clear n0_ n1_ n2_ n3_ n4_ n5_ n6_ n7_ n8_ n9_ n10_
   clear hb hbox hg
   refine hK.out _ _ ⟨(blk_cell BK519.out 0).trans rfl, (blk_cell BK519.out 1).trans rfl, (blk_cell BK519.out 2).trans rfl⟩ (fun hHeld => ?_)
   clear hK K
   refine norm_ (a' := ?_) ?_ ?_
   rotate_left
   ·
    show Act.put _ (some 3) _ = _
    simp only [Act.put, List.setIfInBounds_toArray, List.set_cons_zero, List.set_cons_succ, i64_w, i32_w]
    rfl
   refine one_ (i := 5) (N := some 11) #[true, true, true, true, true, true, false, true, false] rfl rfl (one_of HT_.out (by kernel_rfl)) (by decide) (fun K hK => ?_)
   refine goes_ Try.func92 (by kernel_rfl) rfl #[.slice A0_1 l0_1.length c0_1] (by rfl) rfl rfl (by (try simp only [List.map_toArray, List.map_cons, List.map_nil]); first | done | rfl | (simp only [List.length_drop, List.length_take]; rfl)) ?_
   with_reducible refine (api_Slot.calls _ _ l0_1 t524 _ ?side1 ?side2 A3.out).mono ?_
   (case side1 => repeat (first | exact (Kd.C_below HR0_1.out HB.out) | (with_reducible refine Kd.C_alloc ?_ _) | (with_reducible refine Kd.C_drewN ?_ _) | (with_reducible refine Kd.C_drew ?_)))
   (case side2 => exact HC0_1.out)
   rintro e w9 ⟨v525, rfl, ho0, hb⟩
   refine ⟨_, rfl, ?_⟩
   have n0_ := Aside0.mk (Kd.R_below (by (with_reducible repeat (first | apply Kd.R_alloc | apply Kd.R_drewN | apply Kd.R_drew)); exact HO523.out) hb)
   have n1_ := Aside0.mk (Kd.R_lower ho0 (below_size (by repeat (first | (with_reducible first | exact HB.out | apply below_alloc | apply pw_below_drewN | apply below_drew1 | refine below_set ?_ GE519.out | refine below_set ?_ GE520.out | refine below_set ?_ GE527.out) | exact HB.out))))
   have n2_ := Aside0.mk (blk_below (g := gb519) (o := .cells #[.slice A0_0 l0_0.length c0_0, .slice A0_1 l0_1.length c0_1, .slice A0_2 l0_2.length c0_2] 26 (0, 0)) (by (with_reducible repeat (first | refine blk_drewN ?_ _ | refine blk_drew ?_ | refine blk_alloc ?_ _)); exact BK519.out) hb)
   have n3_ := Aside0.mk (blk_below (g := gb520) (o := .cells #[.slice none 0 0, .slice none 0 0, .slice none 0 0] 26 (0, 0)) (by (with_reducible repeat (first | refine blk_drewN ?_ _ | refine blk_drew ?_ | refine blk_alloc ?_ _)); exact BK520.out) hb)
   have n4_ := Aside0.mk (blk_below (g := gb527) (o := .cells #[.slice none 0 0, .slice none 0 0, .slice none 0 0] 26 (0, 0)) (by (with_reducible repeat (first | refine blk_drewN ?_ _ | refine blk_drew ?_ | refine blk_alloc ?_ _)); exact BK527.out) hb)
   have n5_ := Aside0.mk (below_step (by repeat (first | (with_reducible first | exact HB.out | apply below_alloc | apply pw_below_drewN | apply below_drew1 | refine below_set ?_ GE519.out | refine below_set ?_ GE520.out | refine below_set ?_ GE527.out) | exact HB.out)) hb)
   clear HO523
   clear BK519
   clear BK520
   clear BK527
   clear HB
   have HO523 := n0_
   have HO526 := n1_
   have BK519 := n2_
   have BK520 := n3_
   have BK527 := n4_
   have HB := n5_
   clear n0_ n1_ n2_ n3_ n4_ n5_
   (try clear hb)
   (try clear hb2)
   (try clear hk)
   (try clear hi)
   (try clear ho0)
   obtain ⟨Ao10, co10, eo10⟩ := Kd.R_slice HO526.out
   (first | subst eo10 | (injection eo10 with f1_ f2_ f3_; have f4_ := f1_.symm; have f5_ := f3_.symm; clear f1_ f2_ f3_; subst f4_; subst f5_))
   obtain ⟨Ao11, co11, eo11⟩ := Kd.R_slice HO523.out
   (first | subst eo11 | (injection eo11 with f1_ f2_ f3_; have f4_ := f1_.symm; have f5_ := f3_.symm; clear f1_ f2_ f3_; subst f4_; subst f5_))
   refine hK.out _ _ ⟨(blk_cell BK519.out 0).trans rfl, (blk_cell BK519.out 1).trans rfl, (blk_cell BK519.out 2).trans rfl⟩ (fun hHeld => ?_)
   clear hK K
   refine norm_ (a' := ?_) ?_ ?_
   rotate_left
   ·
    show Act.put _ (some 11) _ = _
    simp only [Act.put, List.setIfInBounds_toArray, List.set_cons_zero, List.set_cons_succ, i64_w, i32_w]
    rfl
   refine pure_ (i := 6) (N := some 12) (v := ?_) (a' := ?_) #[true, true, true, true, true, true, true, true, false] rfl rfl (any_of HT_.out (by kernel_rfl)) (fun _ _ _ h => h) (Or.inl ⟨by rfl, ?_⟩) ?_ ?_
   rotate_left
   ·
    intro w'
    go_simp
    with_reducible rfl
   rotate_left
   ·
    simp only [Act.put, List.setIfInBounds_toArray, List.set_cons_zero, List.set_cons_succ, i64_w, i32_w]
    rfl
   exact norm_ (by simp only [putAll, Act.put, List.setIfInBounds_toArray, List.set_cons_zero, List.set_cons_succ]) (hCont (.slice Ao11 t521.length co11, .slice Ao10 t524.length co10, gb527) _ ⟨hHeld, (by (with_reducible repeat (first | apply Kd.R_alloc | apply Kd.R_drewN | apply Kd.R_drew)); exact HO523.out), (by (with_reducible repeat (first | apply Kd.R_alloc | apply Kd.R_drewN | apply Kd.R_drew)); exact HO526.out), (by (with_reducible repeat (first | refine blk_drewN ?_ _ | refine blk_drew ?_ | refine blk_alloc ?_ _)); exact BK519.out), (by (with_reducible repeat (first | refine blk_drewN ?_ _ | refine blk_drew ?_ | refine blk_alloc ?_ _)); exact BK520.out), (by (with_reducible repeat (first | refine blk_drewN ?_ _ | refine blk_drew ?_ | refine blk_alloc ?_ _)); exact BK527.out), GW527.out, GE527.out, NB519_527.out, NB527_519.out, NB520_527.out, NB527_520.out, (by repeat (first | (with_reducible first | exact HB.out | apply below_alloc | apply pw_below_drewN | apply below_drew1 | refine below_set ?_ GE519.out | refine below_set ?_ GE520.out | refine below_set ?_ GE527.out) | exact HB.out))⟩)
  skip
  refine box_step ?hg (N := 3) ?hd (cs := #[.slice none 0 0, .slice none 0 0, .slice none 0 0]) (t := 26) ?hr ?_; (case hd => rfl); (case hg => rfl); (case hr => first | (go_simp; done) | (go_simp; rfl))
  intro gb527 hg w7 hbox hb
  have n0_ := Aside0.mk (blk_below (g := gb519) (o := .cells #[.slice A0_0 l0_0.length c0_0, .slice A0_1 l0_1.length c0_1, .slice A0_2 l0_2.length c0_2] 26 (0, 0)) (by (with_reducible repeat (first | refine blk_drewN ?_ _ | refine blk_drew ?_ | refine blk_alloc ?_ _)); exact BK519.out) hb)
  have n1_ := Aside0.mk (blk_below (g := gb520) (o := .cells #[.slice none 0 0, .slice none 0 0, .slice none 0 0] 26 (0, 0)) (by (with_reducible repeat (first | refine blk_drewN ?_ _ | refine blk_drew ?_ | refine blk_alloc ?_ _)); exact BK520.out) hb)
  have n2_ := Aside0.mk (below_step (by repeat (first | (with_reducible first | exact HB.out | apply below_alloc | apply pw_below_drewN | apply below_drew1 | refine below_set ?_ GE519.out | refine below_set ?_ GE520.out) | exact HB.out)) hb)
  have n3_ := Aside0.mk (hbox)
  have n4_ := Aside0.mk ((by rw [hg]; exact (below_size (by repeat (first | (with_reducible first | exact HB.out | apply below_alloc | apply pw_below_drewN | apply below_drew1 | refine below_set ?_ GE519.out | refine below_set ?_ GE520.out) | exact HB.out))) : w.heap.size ≤ gb527))
  have n5_ := Aside0.mk ((by rw [hg]; exact (below_size (by repeat (first | (with_reducible first | exact HB.out | apply below_alloc | apply pw_below_drewN | apply below_drew1 | refine below_set ?_ GE519.out | refine below_set ?_ GE520.out) | exact HB.out))) : w.heap.size ≤ gb527))
  have n6_ := Aside0.mk ((by rw [hg]; exact Nat.ne_of_lt (blk_lt (g := gb519) (o := .cells #[.slice A0_0 l0_0.length c0_0, .slice A0_1 l0_1.length c0_1, .slice A0_2 l0_2.length c0_2] 26 (0, 0)) (by (with_reducible repeat (first | refine blk_drewN ?_ _ | refine blk_drew ?_ | refine blk_alloc ?_ _)); exact BK519.out)) : gb519 ≠ gb527))
  have n7_ := Aside0.mk ((by rw [hg]; exact Nat.ne_of_gt (blk_lt (g := gb519) (o := .cells #[.slice A0_0 l0_0.length c0_0, .slice A0_1 l0_1.length c0_1, .slice A0_2 l0_2.length c0_2] 26 (0, 0)) (by (with_reducible repeat (first | refine blk_drewN ?_ _ | refine blk_drew ?_ | refine blk_alloc ?_ _)); exact BK519.out)) : gb527 ≠ gb519))
  have n8_ := Aside0.mk ((by rw [hg]; exact Nat.ne_of_lt (blk_lt (g := gb520) (o := .cells #[.slice none 0 0, .slice none 0 0, .slice none 0 0] 26 (0, 0)) (by (with_reducible repeat (first | refine blk_drewN ?_ _ | refine blk_drew ?_ | refine blk_alloc ?_ _)); exact BK520.out)) : gb520 ≠ gb527))
  have n9_ := Aside0.mk ((by rw [hg]; exact Nat.ne_of_gt (blk_lt (g := gb520) (o := .cells #[.slice none 0 0, .slice none 0 0, .slice none 0 0] 26 (0, 0)) (by (with_reducible repeat (first | refine blk_drewN ?_ _ | refine blk_drew ?_ | refine blk_alloc ?_ _)); exact BK520.out)) : gb527 ≠ gb520))
  clear BK519
  clear BK520
  clear HB
  have BK519 := n0_
  have BK520 := n1_
  have HB := n2_
  have BK527 := n3_
  have GW527 := n4_
  have GE527 := n5_
  have NB519_527 := n6_
  have NB527_519 := n7_
  have NB520_527 := n8_
  have NB527_520 := n9_
  clear n0_ n1_ n2_ n3_ n4_ n5_ n6_ n7_ n8_ n9_
  clear hb hbox hg
  refine hK.out _ _ ⟨(blk_cell BK519.out 0).trans rfl, (blk_cell BK519.out 1).trans rfl, (blk_cell BK519.out 2).trans rfl⟩ (fun hHeld => ?_)
  clear hK K
  refine norm_ (a' := ?_) ?_ ?_
  rotate_left
  ·
   show Act.put _ (some 3) _ = _
   simp only [Act.put, List.setIfInBounds_toArray, List.set_cons_zero, List.set_cons_succ, i64_w, i32_w]
   rfl
  refine one_ (i := 2) (N := some 8) #[true, true, true, true, true, false, false, true, false] rfl rfl (one_of HT_.out (by kernel_rfl)) (by decide) (fun K hK => ?_)
  refine goes_ Try.func88 (by kernel_rfl) rfl #[.slice A0_0 l0_0.length c0_0] (by rfl) rfl rfl (by (try simp only [List.map_toArray, List.map_cons, List.map_nil]); first | done | rfl | (simp only [List.length_drop, List.length_take]; rfl)) ?_
  with_reducible refine (match_copied_int_88.calls _ _ l0_0 t521 _ ?side1 ?side2 A2.out).mono ?_
  (case side1 => repeat (first | exact (Kd.C_below HR0_0.out HB.out) | (with_reducible refine Kd.C_alloc ?_ _) | (with_reducible refine Kd.C_drewN ?_ _) | (with_reducible refine Kd.C_drew ?_)))
  (case side2 => exact HC0_0.out)
  rintro e w8 ⟨v522, rfl, ho0, hb⟩
  refine ⟨_, rfl, ?_⟩
  have n0_ := Aside0.mk (Kd.R_lower ho0 (below_size (by repeat (first | (with_reducible first | exact HB.out | apply below_alloc | apply pw_below_drewN | apply below_drew1 | refine below_set ?_ GE519.out | refine below_set ?_ GE520.out | refine below_set ?_ GE527.out) | exact HB.out))))
  have n1_ := Aside0.mk (blk_below (g := gb519) (o := .cells #[.slice A0_0 l0_0.length c0_0, .slice A0_1 l0_1.length c0_1, .slice A0_2 l0_2.length c0_2] 26 (0, 0)) (by (with_reducible repeat (first | refine blk_drewN ?_ _ | refine blk_drew ?_ | refine blk_alloc ?_ _)); exact BK519.out) hb)
  have n2_ := Aside0.mk (blk_below (g := gb520) (o := .cells #[.slice none 0 0, .slice none 0 0, .slice none 0 0] 26 (0, 0)) (by (with_reducible repeat (first | refine blk_drewN ?_ _ | refine blk_drew ?_ | refine blk_alloc ?_ _)); exact BK520.out) hb)
  have n3_ := Aside0.mk (blk_below (g := gb527) (o := .cells #[.slice none 0 0, .slice none 0 0, .slice none 0 0] 26 (0, 0)) (by (with_reducible repeat (first | refine blk_drewN ?_ _ | refine blk_drew ?_ | refine blk_alloc ?_ _)); exact BK527.out) hb)
  have n4_ := Aside0.mk (below_step (by repeat (first | (with_reducible first | exact HB.out | apply below_alloc | apply pw_below_drewN | apply below_drew1 | refine below_set ?_ GE519.out | refine below_set ?_ GE520.out | refine below_set ?_ GE527.out) | exact HB.out)) hb)
  clear BK519
  clear BK520
  clear BK527
  clear HB
  have HO523 := n0_
  have BK519 := n1_
  have BK520 := n2_
  have BK527 := n3_
  have HB := n4_
  clear n0_ n1_ n2_ n3_ n4_
  (try clear hb)
  (try clear hb2)
  (try clear hk)
  (try clear hi)
  (try clear ho0)
  refine hK.out _ _ ⟨(blk_cell BK519.out 0).trans rfl, (blk_cell BK519.out 1).trans rfl, (blk_cell BK519.out 2).trans rfl⟩ (fun hHeld => ?_)
  clear hK K
  refine norm_ (a' := ?_) ?_ ?_
  rotate_left
  ·
   show Act.put _ (some 8) _ = _
   simp only [Act.put, List.setIfInBounds_toArray, List.set_cons_zero, List.set_cons_succ, i64_w, i32_w]
   rfl
  refine one_ (i := 5) (N := some 11) #[true, true, true, true, true, true, false, true, false] rfl rfl (one_of HT_.out (by kernel_rfl)) (by decide) (fun K hK => ?_)
  refine goes_ Try.func92 (by kernel_rfl) rfl #[.slice A0_1 l0_1.length c0_1] (by rfl) rfl rfl (by (try simp only [List.map_toArray, List.map_cons, List.map_nil]); first | done | rfl | (simp only [List.length_drop, List.length_take]; rfl)) ?_
  with_reducible refine (api_Slot.calls _ _ l0_1 t524 _ ?side1 ?side2 A3.out).mono ?_
  (case side1 => repeat (first | exact (Kd.C_below HR0_1.out HB.out) | (with_reducible refine Kd.C_alloc ?_ _) | (with_reducible refine Kd.C_drewN ?_ _) | (with_reducible refine Kd.C_drew ?_)))
  (case side2 => exact HC0_1.out)
  rintro e w9 ⟨v525, rfl, ho0, hb⟩
  refine ⟨_, rfl, ?_⟩
  have n0_ := Aside0.mk (Kd.R_below (by (with_reducible repeat (first | apply Kd.R_alloc | apply Kd.R_drewN | apply Kd.R_drew)); exact HO523.out) hb)
  have n1_ := Aside0.mk (Kd.R_lower ho0 (below_size (by repeat (first | (with_reducible first | exact HB.out | apply below_alloc | apply pw_below_drewN | apply below_drew1 | refine below_set ?_ GE519.out | refine below_set ?_ GE520.out | refine below_set ?_ GE527.out) | exact HB.out))))
  have n2_ := Aside0.mk (blk_below (g := gb519) (o := .cells #[.slice A0_0 l0_0.length c0_0, .slice A0_1 l0_1.length c0_1, .slice A0_2 l0_2.length c0_2] 26 (0, 0)) (by (with_reducible repeat (first | refine blk_drewN ?_ _ | refine blk_drew ?_ | refine blk_alloc ?_ _)); exact BK519.out) hb)
  have n3_ := Aside0.mk (blk_below (g := gb520) (o := .cells #[.slice none 0 0, .slice none 0 0, .slice none 0 0] 26 (0, 0)) (by (with_reducible repeat (first | refine blk_drewN ?_ _ | refine blk_drew ?_ | refine blk_alloc ?_ _)); exact BK520.out) hb)
  have n4_ := Aside0.mk (blk_below (g := gb527) (o := .cells #[.slice none 0 0, .slice none 0 0, .slice none 0 0] 26 (0, 0)) (by (with_reducible repeat (first | refine blk_drewN ?_ _ | refine blk_drew ?_ | refine blk_alloc ?_ _)); exact BK527.out) hb)
  have n5_ := Aside0.mk (below_step (by repeat (first | (with_reducible first | exact HB.out | apply below_alloc | apply pw_below_drewN | apply below_drew1 | refine below_set ?_ GE519.out | refine below_set ?_ GE520.out | refine below_set ?_ GE527.out) | exact HB.out)) hb)
  clear HO523
  clear BK519
  clear BK520
  clear BK527
  clear HB
  have HO523 := n0_
  have HO526 := n1_
  have BK519 := n2_
  have BK520 := n3_
  have BK527 := n4_
  have HB := n5_
  clear n0_ n1_ n2_ n3_ n4_ n5_
  (try clear hb)
  (try clear hb2)
  (try clear hk)
  (try clear hi)
  (try clear ho0)
  obtain ⟨Ao10, co10, eo10⟩ := Kd.R_slice HO526.out
  (first | subst eo10 | (injection eo10 with f1_ f2_ f3_; have f4_ := f1_.symm; have f5_ := f3_.symm; clear f1_ f2_ f3_; subst f4_; subst f5_))
  obtain ⟨Ao11, co11, eo11⟩ := Kd.R_slice HO523.out
  (first | subst eo11 | (injection eo11 with f1_ f2_ f3_; have f4_ := f1_.symm; have f5_ := f3_.symm; clear f1_ f2_ f3_; subst f4_; subst f5_))
  refine hK.out _ _ ⟨(blk_cell BK519.out 0).trans rfl, (blk_cell BK519.out 1).trans rfl, (blk_cell BK519.out 2).trans rfl⟩ (fun hHeld => ?_)
  clear hK K
  refine norm_ (a' := ?_) ?_ ?_
  rotate_left
  ·
   show Act.put _ (some 11) _ = _
   simp only [Act.put, List.setIfInBounds_toArray, List.set_cons_zero, List.set_cons_succ, i64_w, i32_w]
   rfl
  refine pure_ (i := 6) (N := some 12) (v := ?_) (a' := ?_) #[true, true, true, true, true, true, true, true, false] rfl rfl (any_of HT_.out (by kernel_rfl)) (fun _ _ _ h => h) (Or.inl ⟨by rfl, ?_⟩) ?_ ?_
  rotate_left
  ·
   intro w'
   go_simp
   with_reducible rfl
  rotate_left
  ·
   simp only [Act.put, List.setIfInBounds_toArray, List.set_cons_zero, List.set_cons_succ, i64_w, i32_w]
   rfl
  exact norm_ (by simp only [putAll, Act.put, List.setIfInBounds_toArray, List.set_cons_zero, List.set_cons_succ]) (hCont (.slice Ao11 t521.length co11, .slice Ao10 t524.length co10, gb527) _ ⟨hHeld, (by (with_reducible repeat (first | apply Kd.R_alloc | apply Kd.R_drewN | apply Kd.R_drew)); exact HO523.out), (by (with_reducible repeat (first | apply Kd.R_alloc | apply Kd.R_drewN | apply Kd.R_drew)); exact HO526.out), (by (with_reducible repeat (first | refine blk_drewN ?_ _ | refine blk_drew ?_ | refine blk_alloc ?_ _)); exact BK519.out), (by (with_reducible repeat (first | refine blk_drewN ?_ _ | refine blk_drew ?_ | refine blk_alloc ?_ _)); exact BK520.out), (by (with_reducible repeat (first | refine blk_drewN ?_ _ | refine blk_drew ?_ | refine blk_alloc ?_ _)); exact BK527.out), GW527.out, GE527.out, NB519_527.out, NB527_519.out, NB520_527.out, NB527_520.out, (by repeat (first | (with_reducible first | exact HB.out | apply below_alloc | apply pw_below_drewN | apply below_drew1 | refine below_set ?_ GE519.out | refine below_set ?_ GE520.out | refine below_set ?_ GE527.out) | exact HB.out))⟩)
 rintro ⟨v522, v525, gb527⟩ w12 ⟨hS_, h0_, h1_, h2_, h3_, h4_, h5_, h6_, h7_, h8_, h9_, h10_, h11_⟩
 have n0_ : Aside0 (Kd.R (Kd.int .i64) 3 w12 w.heap.size (fun _ => True) v522 t521) := ⟨h0_⟩
 have n1_ : Aside0 (Kd.R k50 50 w12 w.heap.size (fun _ => True) v525 t524) := ⟨h1_⟩
 have n2_ : Aside0 (w12.heap[gb519]? = some (.cells #[.slice A0_0 l0_0.length c0_0, .slice A0_1 l0_1.length c0_1, .slice A0_2 l0_2.length c0_2] 26 (0, 0))) := ⟨h2_⟩
 have n3_ : Aside0 (w12.heap[gb520]? = some (.cells #[.slice none 0 0, .slice none 0 0, .slice none 0 0] 26 (0, 0))) := ⟨h3_⟩
 have n4_ : Aside0 (w12.heap[gb527]? = some (.cells #[.slice none 0 0, .slice none 0 0, .slice none 0 0] 26 (0, 0))) := ⟨h4_⟩
 have n5_ : Aside0 (w.heap.size ≤ gb527) := ⟨h5_⟩
 have n6_ : Aside0 (w.heap.size ≤ gb527) := ⟨h6_⟩
 have n7_ : Aside0 (gb519 ≠ gb527) := ⟨h7_⟩
 have n8_ : Aside0 (gb527 ≠ gb519) := ⟨h8_⟩
 have n9_ : Aside0 (gb520 ≠ gb527) := ⟨h9_⟩
 have n10_ : Aside0 (gb527 ≠ gb520) := ⟨h10_⟩
 have n11_ : Aside0 (Below w.heap.size w w12) := ⟨h11_⟩
 clear BK519
 clear BK520
 clear HB
 clear h0_ h1_ h2_ h3_ h4_ h5_ h6_ h7_ h8_ h9_ h10_ h11_
 have HO523 := n0_
 have HO526 := n1_
 have BK519 := n2_
 have BK520 := n3_
 have BK527 := n4_
 have GW527 := n5_
 have GE527 := n6_
 have NB519_527 := n7_
 have NB527_519 := n8_
 have NB520_527 := n9_
 have NB527_520 := n10_
 have HB := n11_
 clear n0_ n1_ n2_ n3_ n4_ n5_ n6_ n7_ n8_ n9_ n10_ n11_
 have hHeld : w12.cell? ⟨gb519, 0, none⟩ = some (.slice A0_0 l0_0.length c0_0) ∧ w12.cell? ⟨gb519, 1, none⟩ = some (.slice A0_1 l0_1.length c0_1) ∧ w12.cell? ⟨gb519, 2, none⟩ = some (.slice A0_2 l0_2.length c0_2) := hS_
 obtain ⟨Ao13, co13, eo13⟩ := Kd.R_slice HO526.out
 (first | subst eo13 | (injection eo13 with f1_ f2_ f3_; have f4_ := f1_.symm; have f5_ := f3_.symm; clear f1_ f2_ f3_; subst f4_; subst f5_))
 obtain ⟨Ao14, co14, eo14⟩ := Kd.R_slice HO523.out
 (first | subst eo14 | (injection eo14 with f1_ f2_ f3_; have f4_ := f1_.symm; have f5_ := f3_.symm; clear f1_ f2_ f3_; subst f4_; subst f5_))
 refine norm_ (a' := ?_) ?_ ?_
 rotate_left
 ·
  simp only [putAll, Act.put, List.setIfInBounds_toArray, List.set_cons_zero, List.set_cons_succ]
  rfl
 refine one_ (i := 8) (N := none) #[true, true, true, true, true, true, true, true, true] rfl rfl (one_of HT_.out (by kernel_rfl)) (by decide) (fun K hK => ?_)
 have hs15 : w12.cell? ⟨gb527, 0, none⟩ = some (.slice none 0 0) := (blk_cell BK527.out 0).trans rfl
 have hfs15 := blk_frozen BK527.out 0
 have hns15_0 := NB519_527.out
 have hns15_1 := NB520_527.out
 have hms15_0 := NB527_519.out
 have hms15_1 := NB527_520.out
 have hs16 : w12.cell? ⟨gb527, 1, none⟩ = some (.slice none 0 0) := (blk_cell BK527.out 1).trans rfl
 have hfs16 := blk_frozen BK527.out 1
 have hns16_0 := NB519_527.out
 have hns16_1 := NB520_527.out
 have hms16_0 := NB527_519.out
 have hms16_1 := NB527_520.out
 have hs17 : w12.cell? ⟨gb527, 2, none⟩ = some (.slice none 0 0) := (blk_cell BK527.out 2).trans rfl
 have hfs17 := blk_frozen BK527.out 2
 have hns17_0 := NB519_527.out
 have hns17_1 := NB520_527.out
 have hms17_0 := NB527_519.out
 have hms17_1 := NB527_520.out
 refine skip_ (w1 := ?_) (by rfl) rfl ?_ ?_
 rotate_left
 ·
  go_simp
  rfl
 refine hK.out _ _ ⟨((cell_far (p := ⟨gb527, _, none⟩) NB519_527.out _).trans (((cell_far (p := ⟨gb527, _, none⟩) NB519_527.out _).trans (((cell_far (p := ⟨gb527, _, none⟩) NB519_527.out _).trans (hHeld.1)))))), ((cell_far (p := ⟨gb527, _, none⟩) NB519_527.out _).trans (((cell_far (p := ⟨gb527, _, none⟩) NB519_527.out _).trans (((cell_far (p := ⟨gb527, _, none⟩) NB519_527.out _).trans (hHeld.2.1)))))), ((cell_far (p := ⟨gb527, _, none⟩) NB519_527.out _).trans (((cell_far (p := ⟨gb527, _, none⟩) NB519_527.out _).trans (((cell_far (p := ⟨gb527, _, none⟩) NB519_527.out _).trans (hHeld.2.2))))))⟩ (fun hHeld => ?_)
 clear hK K
 refine done_ (done_of HT_.out (by kernel_rfl)) ?_
 have hnb18 := NB519_520.out
 have hnc18 := NB520_519.out
 have hnb19 := NB519_527.out
 have hnc19 := NB527_519.out
 have hcz20_0 : w12.cell? ⟨gb519, 0, none⟩ = some (.slice A0_0 l0_0.length c0_0) := (blk_cell BK519.out 0).trans rfl
 have hcz20_1 : w12.cell? ⟨gb519, 1, none⟩ = some (.slice A0_1 l0_1.length c0_1) := (blk_cell BK519.out 1).trans rfl
 have hcz20_2 : w12.cell? ⟨gb519, 2, none⟩ = some (.slice A0_2 l0_2.length c0_2) := (blk_cell BK519.out 2).trans rfl
 have hfz20_0 := blk_frozen BK519.out 0
 have hfz20_1 := blk_frozen BK519.out 1
 have hfz20_2 := blk_frozen BK519.out 2
 try go_wp2
 go_loopg [16] k (fun kq v16 w' => ∃ (x16_1 : Int) (x528002_1 : List (List Int)) (u528002 : Value), v16 = .int .i64 x16_1 ∧ Aside0 (match_other.l0 kq l0_2 (l0_2.length : Int) x16_1 t521 t524 x528002_1 = some (r1, r2, r3)) ∧ Aside0 (kq ≤ k) ∧ Aside0 (Kd.R (Kd.int .i64) 3 w' w.heap.size (fun _ => True) (.slice Ao14 t521.length co14) t521) ∧ Aside0 (Kd.R k50 50 w' w.heap.size (fun _ => True) (.slice Ao13 t524.length co13) t524) ∧ Aside0 (Kd.S (Kd.slice 3 (Kd.int .i64)) 22 w' w.heap.size (fun k_ => some k_ ≠ ((.slice Ao14 t521.length co14) : Value).ownBlock) u528002 x528002_1) ∧ Aside0 (w'.heap[gb519]? = some (.cells #[(.slice A0_0 l0_0.length c0_0), (.slice A0_1 l0_1.length c0_1), (.slice A0_2 l0_2.length c0_2)] 26 (0, 0))) ∧ Aside0 (w'.heap[gb520]? = some (.cells #[(.slice none 0 0), (.slice none 0 0), (.slice none 0 0)] 26 (0, 0))) ∧ Aside0 (w'.heap[gb527]? = some (.cells #[(.slice Ao14 t521.length co14), (.slice Ao13 t524.length co13), u528002] 26 (0, 0))) ∧ Aside0 (Below w.heap.size w w'))
 case atStart => exact ⟨(0), (([] : List (List Int))), (.slice none 0 0), (by first | rfl | (simp; done) | (simp [*]; done)), H', ⟨Nat.le_refl _⟩, ⟨by (with_reducible repeat (first | apply Kd.R_alloc | apply Kd.R_drewN | apply Kd.R_drew)); exact Kd.R_mono (Kd.R_far (p := ⟨gb527, 2, none⟩) (Kd.R_far (p := ⟨gb527, 1, none⟩) (Kd.R_far (p := ⟨gb527, 0, none⟩) (Kd.R_types HO523.out BK527.out (by decide)) (fun _ hk => hk.2) (.slice Ao14 t521.length co14)) (fun _ hk => hk.2) (.slice Ao13 t524.length co13)) (fun _ hk => hk.2) (.slice none 0 0)) (fun _ hk => trivial)⟩, ⟨by (with_reducible repeat (first | apply Kd.R_alloc | apply Kd.R_drewN | apply Kd.R_drew)); exact Kd.R_mono (Kd.R_far (p := ⟨gb527, 2, none⟩) (Kd.R_far (p := ⟨gb527, 1, none⟩) (Kd.R_far (p := ⟨gb527, 0, none⟩) (Kd.R_types HO526.out BK527.out (by decide)) (fun _ hk => hk.2) (.slice Ao14 t521.length co14)) (fun _ hk => hk.2) (.slice Ao13 t524.length co13)) (fun _ hk => hk.2) (.slice none 0 0)) (fun _ hk => trivial)⟩, ⟨by first | exact Kd.S_nil _ _ _ _ _ | exact Kd.N_nil _ _ _ _ _ | exact Kd.V_nil _ _ _ _ _ | exact Kd.Q_nil _ _ _ _ _ | exact Kd.R_nil _ _ _ _ _⟩, ⟨by (with_reducible repeat (first | refine blk_drewN ?_ _ | refine blk_drew ?_ | refine blk_alloc ?_ _)); refine blk_far ?_ NB519_527.out _; (with_reducible repeat (first | refine blk_drewN ?_ _ | refine blk_drew ?_ | refine blk_alloc ?_ _)); refine blk_far ?_ NB519_527.out _; (with_reducible repeat (first | refine blk_drewN ?_ _ | refine blk_drew ?_ | refine blk_alloc ?_ _)); refine blk_far ?_ NB519_527.out _; (with_reducible repeat (first | refine blk_drewN ?_ _ | refine blk_drew ?_ | refine blk_alloc ?_ _)); exact BK519.out⟩, ⟨by (with_reducible repeat (first | refine blk_drewN ?_ _ | refine blk_drew ?_ | refine blk_alloc ?_ _)); refine blk_far ?_ NB520_527.out _; (with_reducible repeat (first | refine blk_drewN ?_ _ | refine blk_drew ?_ | refine blk_alloc ?_ _)); refine blk_far ?_ NB520_527.out _; (with_reducible repeat (first | refine blk_drewN ?_ _ | refine blk_drew ?_ | refine blk_alloc ?_ _)); refine blk_far ?_ NB520_527.out _; (with_reducible repeat (first | refine blk_drewN ?_ _ | refine blk_drew ?_ | refine blk_alloc ?_ _)); exact BK520.out⟩, ⟨by (with_reducible repeat (first | refine blk_drewN ?_ _ | refine blk_drew ?_ | refine blk_alloc ?_ _)); refine blk_put (cs := #[.slice Ao14 t521.length co14, .slice Ao13 t524.length co13, .slice none 0 0]) ?_ 2 _ rfl; (with_reducible repeat (first | refine blk_drewN ?_ _ | refine blk_drew ?_ | refine blk_alloc ?_ _)); refine blk_put (cs := #[.slice Ao14 t521.length co14, .slice none 0 0, .slice none 0 0]) ?_ 1 _ rfl; (with_reducible repeat (first | refine blk_drewN ?_ _ | refine blk_drew ?_ | refine blk_alloc ?_ _)); refine blk_put (cs := #[.slice none 0 0, .slice none 0 0, .slice none 0 0]) ?_ 0 _ rfl; (with_reducible repeat (first | refine blk_drewN ?_ _ | refine blk_drew ?_ | refine blk_alloc ?_ _)); exact BK527.out⟩, ⟨by repeat (first | (with_reducible first | exact HB.out | apply below_alloc | apply pw_below_drewN | apply below_drew1 | refine below_set ?_ GE519.out | refine below_set ?_ GE520.out | refine below_set ?_ GE527.out) | exact HB.out)⟩⟩
 clear H'
 try clear c1
 try clear p2
 try clear c7
 try clear c8
 try clear c9
 try clear c18
 try clear c19
 try clear hcz20_0
 try clear hcz20_1
 try clear hcz20_2
 try clear hfz20_0
 try clear hfz20_1
 try clear hfz20_2
 obtain ⟨x16_1, x528002_1, u528002, rfl, HA, HK1, HO_528000, HO_528001, HO_528002, BK519, BK520, BK527, HB⟩ := hrel
 cases gk with
 | zero => exact absurd HA.out (by simp [match_other.l0])
 | succ k1 =>
  have H := HA.out
  clear HA
  simp only [match_other.l0] at H
  by_cases c21 : x16_1 < (l0_2.length : Int)
  rotate_left
  ·
   rw [if_neg c21] at H
   have c21b0 : decide (x16_1 < (l0_2.length : Int)) = false := decide_eq_false c21
   clear c21
   simp only [Option.some.injEq, Prod.mk.injEq] at H
   obtain ⟨rfl, rfl, rfl⟩ := H
   have hnb32 := NB527_519.out
   have hnc32 := NB519_527.out
   have hnb33 := NB527_520.out
   have hnc33 := NB520_527.out
   have hcz34_0 : wr.cell? ⟨gb527, 0, none⟩ = some (.slice Ao14 t521.length co14) := (blk_cell BK527.out 0).trans rfl
   have hcz34_1 : wr.cell? ⟨gb527, 1, none⟩ = some (.slice Ao13 t524.length co13) := (blk_cell BK527.out 1).trans rfl
   have hcz34_2 : wr.cell? ⟨gb527, 2, none⟩ = some (u528002) := (blk_cell BK527.out 2).trans rfl
   have hfz34_0 := blk_frozen BK527.out 0
   have hfz34_1 := blk_frozen BK527.out 1
   have hfz34_2 := blk_frozen BK527.out 2
   have hnb35 := NB520_519.out
   have hnc35 := NB519_520.out
   have hcz36_0 : wr.cell? ⟨gb520, 0, none⟩ = some (.slice none 0 0) := (blk_cell BK520.out 0).trans rfl
   have hcz36_1 : wr.cell? ⟨gb520, 1, none⟩ = some (.slice none 0 0) := (blk_cell BK520.out 1).trans rfl
   have hcz36_2 : wr.cell? ⟨gb520, 2, none⟩ = some (.slice none 0 0) := (blk_cell BK520.out 2).trans rfl
   have hfz36_0 := blk_frozen BK520.out 0
   have hfz36_1 := blk_frozen BK520.out 1
   have hfz36_2 := blk_frozen BK520.out 2
   obtain ⟨Ao37, co37, eo37⟩ := Kd.S_slice HO_528002.out
   subst eo37
   go_wp2
   refine bodyPost_ret (results_cell_row rfl _ _ gb520 26 #[.slice Ao14 t521.length co14, .slice Ao13 t524.length co13, .slice Ao37 x528002_1.length co37] (0, 0) _ rfl (by (with_reducible repeat (first | refine blk_drewN ?_ _ | refine blk_drew ?_ | refine blk_alloc ?_ _)); refine blk_put (cs := #[.slice Ao14 t521.length co14, .slice Ao13 t524.length co13, .slice none 0 0]) ?_ 2 _ rfl; (with_reducible repeat (first | refine blk_drewN ?_ _ | refine blk_drew ?_ | refine blk_alloc ?_ _)); refine blk_put (cs := #[.slice Ao14 t521.length co14, .slice none 0 0, .slice none 0 0]) ?_ 1 _ rfl; (with_reducible repeat (first | refine blk_drewN ?_ _ | refine blk_drew ?_ | refine blk_alloc ?_ _)); refine blk_put (cs := #[.slice none 0 0, .slice none 0 0, .slice none 0 0]) ?_ 0 _ rfl; (with_reducible repeat (first | refine blk_drewN ?_ _ | refine blk_drew ?_ | refine blk_alloc ?_ _)); exact BK520.out) Try.underlying26 rfl (by kernel_rfl)) rfl ?_
   exact ⟨_, _, _, by first | rfl | (simp [errW_none, errW_some] <;> rfl) | (simp [*, errW_none, errW_some] <;> rfl), by (with_reducible repeat (first | apply Kd.R_alloc | apply Kd.R_drewN | apply Kd.R_drew)); exact Kd.R_mono (Kd.R_far (p := ⟨gb520, 2, none⟩) (Kd.R_far (p := ⟨gb520, 1, none⟩) (Kd.R_far (p := ⟨gb520, 0, none⟩) (Kd.R_types HO_528000.out BK520.out (by decide)) (fun _ hk => hk.2) (.slice Ao14 t521.length co14)) (fun _ hk => hk.2) (.slice Ao13 t524.length co13)) (fun _ hk => hk.2) (.slice Ao37 x528002_1.length co37)) (fun _ hk => trivial), by (with_reducible repeat (first | apply Kd.R_alloc | apply Kd.R_drewN | apply Kd.R_drew)); exact Kd.R_mono (Kd.R_far (p := ⟨gb520, 2, none⟩) (Kd.R_far (p := ⟨gb520, 1, none⟩) (Kd.R_far (p := ⟨gb520, 0, none⟩) (Kd.R_types HO_528001.out BK520.out (by decide)) (fun _ hk => hk.2) (.slice Ao14 t521.length co14)) (fun _ hk => hk.2) (.slice Ao13 t524.length co13)) (fun _ hk => hk.2) (.slice Ao37 x528002_1.length co37)) (fun _ hk => trivial), by (with_reducible repeat (first | apply Kd.S_alloc | apply Kd.S_drewN | apply Kd.S_drew)); exact Kd.S_mono (Kd.S_far (p := ⟨gb520, 2, none⟩) (Kd.S_far (p := ⟨gb520, 1, none⟩) (Kd.S_far (p := ⟨gb520, 0, none⟩) (Kd.S_types HO_528002.out BK520.out (by decide)) (fun _ hk => hk.2) (.slice Ao14 t521.length co14)) (fun _ hk => hk.2) (.slice Ao13 t524.length co13)) (fun _ hk => hk.2) (.slice Ao37 x528002_1.length co37)) (fun _ hk => hk.1), by repeat (first | (with_reducible first | exact HB.out | apply below_alloc | apply pw_below_drewN | apply below_drew1 | refine below_set ?_ GE519.out | refine below_set ?_ GE520.out | refine below_set ?_ GE527.out) | exact HB.out)⟩
  rw [if_pos c21] at H
  have c21b0 : decide (x16_1 < (l0_2.length : Int)) = true := decide_eq_true c21
  clear c21
  by_cases c22 : 0 ≤ x16_1
  rotate_left
  ·
   rw [if_neg c22] at H
   exact absurd H (by simp)
  rw [if_pos c22] at H
  have c22b0 : decide (0 ≤ x16_1) = true := decide_eq_true c22
  clear c22
  by_cases c23 : x16_1 < (l0_2.length : Int)
  rotate_left
  ·
   rw [if_neg c23] at H
   exact absurd H (by simp)
  rw [if_pos c23] at H
  have c23b0 : decide (x16_1 < (l0_2.length : Int)) = true := decide_eq_true c23
  clear c23
  replace H := Option.bind_eq_some_iff.mp H
  obtain ⟨t529, A240, H⟩ := H
  replace H : (if x528002_1.length < 5864062014805 then (match_other.l0 k1 l0_2 (l0_2.length : Int) (wrap64 (x16_1 + 1)) t521 t524 (x528002_1 ++ [t529])) else (none)) = some (r1, r2, r3) := H
  have A24 := Aside0.mk A240
  clear A240
  by_cases c25 : x528002_1.length < 5864062014805
  rotate_left
  ·
   rw [if_neg c25] at H
   exact absurd H (by simp)
  rw [if_pos c25] at H
  have LMc25 := Aside0.mk c25
  clear c25
  obtain ⟨y532, hy532⟩ : ∃ y_ : List (List Int), y_ = (x528002_1 ++ [t529]) := ⟨_, rfl⟩
  replace H : (match_other.l0 k1 l0_2 (l0_2.length : Int) (wrap64 (x16_1 + 1)) t521 t524 y532) = some (r1, r2, r3) := by first | (rw [hy532]; with_reducible exact H) | (have H2_ := (Option.bind_some _ _).symm.trans H; rw [hy532]; with_reducible exact H2_) | (have H2_ := (Option.bind_some _ _).symm.trans H; with_reducible exact H2_) | with_reducible exact H | (rw [hy532]; exact H) | exact H
  have Ny532 := Aside0.mk hy532
  clear hy532
  have H' := Aside0.mk H
  clear H
  have p528 : 0 ≤ (x16_1 : Int) := of_decide_eq_true (by first | (with_reducible assumption) | assumption)
  have q528 : x16_1 < (l0_2.length : Int) := of_decide_eq_true (by first | (with_reducible assumption) | assumption)
  obtain ⟨ad528, A528_0, c528_0, e528, hx528_0, hl528_0, hi528_0⟩ := at_L1 HR0_2.out x16_1 p528 q528
  cases e528
  replace hx528_0 := (HB.out.cell (World.block_lt_of_cell? w _ hx528_0)).trans hx528_0
  have HR528_0 := Aside0.mk hi528_0
  have HC528_0 := Aside0.mk hl528_0
  clear hi528_0 hl528_0
  replace p528 := eq_true p528
  replace q528 := eq_true q528
  try go_wp2
  have n0_ := Aside0.mk (Kd.R_drew HO_528000.out)
  have n1_ := Aside0.mk (Kd.R_drew HO_528001.out)
  have n2_ := Aside0.mk (Kd.S_drew HO_528002.out)
  have n3_ := Aside0.mk (blk_drew BK519.out)
  have n4_ := Aside0.mk (blk_drew BK520.out)
  have n5_ := Aside0.mk (blk_drew BK527.out)
  have n6_ := Aside0.mk (below_drew1 HB.out)
  clear HO_528000
  clear HO_528001
  clear HO_528002
  clear BK519
  clear BK520
  clear BK527
  clear HB
  have HO_528000 := n0_
  have HO_528001 := n1_
  have HO_528002 := n2_
  have BK519 := n3_
  have BK520 := n4_
  have BK527 := n5_
  have HB := n6_
  clear n0_ n1_ n2_ n3_ n4_ n5_ n6_
  refine start_ (n := 8) (S := fun w' => w'.cell? ⟨gb527, 0, none⟩ = some (.slice Ao14 t521.length co14) ∧ w'.cell? ⟨gb527, 1, none⟩ = some (.slice Ao13 t524.length co13) ∧ w'.cell? ⟨gb527, 2, none⟩ = some (u528002)) (ds := [7]) #[false, false, false, false, false, false, false, false] (by kernel_rfl) rfl rfl ⟨(blk_cell BK527.out 0).trans rfl, (blk_cell BK527.out 1).trans rfl, (blk_cell BK527.out 2).trans rfl⟩ (fun hHeld => ?_); refine with_tabW match_other.tab5 match_other.bits5 (fun HT_ HW_ => ?_)
  generalize wr.drew = w26 at HO_528000 HO_528001 HO_528002 BK519 BK520 BK527 HB hHeld ⊢
  refine pure_ (i := 0) (N := some 20) (v := ?_) (a' := ?_) #[true, false, false, false, false, false, false, false] rfl rfl (any_of HT_.out (by kernel_rfl)) (fun _ _ _ h => h) (Or.inl ⟨by rfl, ?_⟩) ?_ ?_
  rotate_left
  ·
   intro w'
   go_simp
   with_reducible rfl
  rotate_left
  ·
   simp only [Act.put, List.setIfInBounds_toArray, List.set_cons_zero, List.set_cons_succ, i64_w, i32_w]
   rfl
  refine pure_ (i := 2) (N := some 22) (v := ?_) (a' := ?_) #[true, false, true, false, false, false, false, false] rfl rfl (any_of HT_.out (by kernel_rfl)) (fun _ _ _ h => h) (Or.inl ⟨by rfl, ?_⟩) ?_ ?_
  rotate_left
  ·
   intro w'
   go_simp
   with_reducible rfl
  rotate_left
  ·
   simp only [Act.put, List.setIfInBounds_toArray, List.set_cons_zero, List.set_cons_succ, i64_w, i32_w]
   rfl
  refine take_ (i := 1) (N := some 21) (v := ?_) (a' := ?_) #[true, true, true, false, false, false, false, false] rfl rfl (take_ofW HT_.out HW_.out (by kernel_rfl)) (fun _ _ _ h => h) (Or.inl ⟨by rfl, ?_⟩) hHeld ?_ ?_
  rotate_left
  ·
   rintro w' ⟨s0, s1, s2⟩
   go_simp
   with_reducible rfl
  rotate_left
  ·
   simp only [Act.put, List.setIfInBounds_toArray, List.set_cons_zero, List.set_cons_succ, i64_w, i32_w]
   rfl
  refine one_ (i := 3) (N := some 23) #[true, true, true, true, false, false, false, false] rfl rfl (one_of HT_.out (by kernel_rfl)) (by decide) (fun K hK => ?_)
  refine goes_ Try.func88 (by kernel_rfl) rfl #[.slice A528_0 (rd_L1 l0_2 x16_1).length c528_0] (by rfl) rfl rfl (by (try simp only [List.map_toArray, List.map_cons, List.map_nil]); first | done | rfl | (simp only [List.length_drop, List.length_take]; rfl)) ?_
  with_reducible refine (match_copied_int_88.calls _ _ (rd_L1 l0_2 x16_1) t529 _ ?side1 ?side2 A24.out).mono ?_
  (case side1 => repeat (first | exact (Kd.C_below HR528_0.out HB.out) | (with_reducible refine Kd.C_alloc ?_ _) | (with_reducible refine Kd.C_drewN ?_ _) | (with_reducible refine Kd.C_drew ?_)))
  (case side2 => exact HC528_0.out)
  rintro e w27 ⟨v530, rfl, ho0, hb⟩
  refine ⟨_, rfl, ?_⟩
  have n0_ := Aside0.mk (Kd.R_elder' (by (with_reducible repeat (first | apply Kd.R_alloc | apply Kd.R_drewN | apply Kd.R_drew)); exact HO_528000.out) (Kd.R_base ho0) hb)
  have n1_ := Aside0.mk (Kd.R_below (by (with_reducible repeat (first | apply Kd.R_alloc | apply Kd.R_drewN | apply Kd.R_drew)); exact HO_528001.out) hb)
  have n2_ := Aside0.mk (Kd.S_elder' (by (with_reducible repeat (first | apply Kd.S_alloc | apply Kd.S_drewN | apply Kd.S_drew)); exact HO_528002.out) (Kd.R_base ho0) hb)
  have n3_ := Aside0.mk (Kd.R_lower (Kd.R_new' ho0 (Kd.R_lt (by (with_reducible repeat (first | apply Kd.R_alloc | apply Kd.R_drewN | apply Kd.R_drew)); exact HO_528000.out))) (below_size (by repeat (first | (with_reducible first | exact HB.out | apply below_alloc | apply pw_below_drewN | apply below_drew1 | refine below_set ?_ GE519.out | refine below_set ?_ GE520.out | refine below_set ?_ GE527.out) | exact HB.out))))
  have n4_ := Aside0.mk (blk_below (g := gb519) (o := .cells #[.slice A0_0 l0_0.length c0_0, .slice A0_1 l0_1.length c0_1, .slice (some ad528) l0_2.length c0_2] 26 (0, 0)) (by (with_reducible repeat (first | refine blk_drewN ?_ _ | refine blk_drew ?_ | refine blk_alloc ?_ _)); exact BK519.out) hb)
  have n5_ := Aside0.mk (blk_below (g := gb520) (o := .cells #[.slice none 0 0, .slice none 0 0, .slice none 0 0] 26 (0, 0)) (by (with_reducible repeat (first | refine blk_drewN ?_ _ | refine blk_drew ?_ | refine blk_alloc ?_ _)); exact BK520.out) hb)
  have n6_ := Aside0.mk (blk_below (g := gb527) (o := .cells #[.slice Ao14 t521.length co14, .slice Ao13 t524.length co13, u528002] 26 (0, 0)) (by (with_reducible repeat (first | refine blk_drewN ?_ _ | refine blk_drew ?_ | refine blk_alloc ?_ _)); exact BK527.out) hb)
  have n7_ := Aside0.mk (below_step (by repeat (first | (with_reducible first | exact HB.out | apply below_alloc | apply pw_below_drewN | apply below_drew1 | refine below_set ?_ GE519.out | refine below_set ?_ GE520.out | refine below_set ?_ GE527.out) | exact HB.out)) hb)
  clear HO_528000
  clear HO_528001
  clear HO_528002
  clear BK519
  clear BK520
  clear BK527
  clear HB
  have HO_528000 := n0_
  have HO_528001 := n1_
  have HO_528002 := n2_
  have HO531 := n3_
  have BK519 := n4_
  have BK520 := n5_
  have BK527 := n6_
  have HB := n7_
  clear n0_ n1_ n2_ n3_ n4_ n5_ n6_ n7_
  (try clear hb)
  (try clear hb2)
  (try clear hk)
  (try clear hi)
  (try clear ho0)
  obtain ⟨Ao29, co29, eo29⟩ := Kd.R_slice HO531.out
  (first | subst eo29 | (injection eo29 with f1_ f2_ f3_; have f4_ := f1_.symm; have f5_ := f3_.symm; clear f1_ f2_ f3_; subst f4_; subst f5_))
  refine hK.out _ _ ⟨(blk_cell BK527.out 0).trans rfl, (blk_cell BK527.out 1).trans rfl, (blk_cell BK527.out 2).trans rfl⟩ (fun hHeld => ?_)
  clear hK K
  refine norm_ (a' := ?_) ?_ ?_
  rotate_left
  ·
   show Act.put _ (some 23) _ = _
   simp only [Act.put, List.setIfInBounds_toArray, List.set_cons_zero, List.set_cons_succ, i64_w, i32_w]
   rfl
  refine one_ (i := 4) (N := some 24) #[true, true, true, true, true, false, false, false] rfl rfl (one_of HT_.out (by kernel_rfl)) (by decide) (fun K hK => ?_)
  refine value_ (w1 := ?_) (v := ?_) (by rfl) rfl ?_ ?_
  rotate_left 2
  ·
   go_simp
   constructor
   ·
    rfl
   rfl
  refine hK.out _ _ ⟨(blk_cell (blk_alloc BK527.out _) 0).trans rfl, (blk_cell (blk_alloc BK527.out _) 1).trans rfl, (blk_cell (blk_alloc BK527.out _) 2).trans rfl⟩ (fun hHeld => ?_)
  clear hK K
  refine norm_ (a' := ?_) ?_ ?_
  rotate_left
  ·
   show Act.put _ (some 24) _ = _
   simp only [Act.put, List.setIfInBounds_toArray, List.set_cons_zero, List.set_cons_succ, i64_w, i32_w]
   rfl
  refine one_ (i := 5) (N := some 25) #[true, true, true, true, true, true, false, false] rfl rfl (one_of HT_.out (by kernel_rfl)) (by decide) (fun K hK => ?_)
  refine Kd.S_append_step (Kd.slice 3 (Kd.int .i64)) (w0 := w) w.heap.size (by rfl) (.tmp 21) (.tmp 24) 24 22 (.slice none 0 0) 24 rfl Try.underlying24 info22 rfl (by decide) (by omega) u528002 x528002_1 t529 [.slice Ao29 t529.length co29] (fun k_ => some k_ ≠ (.slice Ao14 t521.length co14 : Value).ownBlock) (fun k_ => some k_ = (.slice Ao29 t529.length co29 : Value).ownBlock) rfl rfl ?aP (fun k_ hk_ => ((Kd.R_mono (ok' := fun k_ => ((fun k_ => some k_ ≠ (.slice Ao14 t521.length co14 : Value).ownBlock)) k_ ∧ some k_ ≠ (u528002 : Value).ownBlock) (Kd.R_apart' (HO531.out) (Kd.S_typed HO_528002.out) (by decide)) (fun k_ hk => ⟨hk.1.2, hk.2⟩))).1 k_ hk_.symm) ?aF ?aO ?aB ?aS ?aL ?_
  (case aP => exact Kd.M_row (Kd.R_mono (Kd.R_tight rfl (Kd.R_mono (ok' := fun k_ => ((fun k_ => some k_ ≠ (.slice Ao14 t521.length co14 : Value).ownBlock)) k_ ∧ some k_ ≠ (u528002 : Value).ownBlock) (Kd.R_apart' (HO531.out) (Kd.S_typed HO_528002.out) (by decide)) (fun k_ hk => ⟨hk.1.2, hk.2⟩))) (fun _ h_ => h_)))
  (case aB => exact (by repeat (first | (with_reducible first | exact HB.out | apply below_alloc | apply pw_below_drewN | apply below_drew1 | refine below_set ?_ GE519.out | refine below_set ?_ GE520.out | refine below_set ?_ GE527.out) | exact HB.out)))
  (case aF => exact (fun k_ hk => Kd.fresh' (Kd.R_lt (by (with_reducible repeat (first | apply Kd.R_alloc | apply Kd.R_drewN | apply Kd.R_drew)); exact HO_528000.out)) k_ hk))
  (case aO => exact (by (with_reducible repeat (first | apply Kd.S_alloc | apply Kd.S_drewN | apply Kd.S_drew)); exact Kd.S_mono HO_528002.out (fun k_ hk => ⟨hk.1, fun e_ => hk.2 e_⟩)))
  (case aS => exact (below_size (by repeat (first | (with_reducible first | exact HB.out | apply below_alloc | apply pw_below_drewN | apply below_drew1 | refine below_set ?_ GE519.out | refine below_set ?_ GE520.out | refine below_set ?_ GE527.out) | exact HB.out))))
  (case aL => have := LMc25.out; omega)
  intro v533 w28 ho hb hg hat
  rw [← Ny532.out] at ho
  have n0_ := Aside0.mk (Kd.R_over' (by (with_reducible repeat (first | apply Kd.R_alloc | apply Kd.R_drewN | apply Kd.R_drew)); exact HO_528000.out) (Kd.S_typed (by (with_reducible repeat (first | apply Kd.S_alloc | apply Kd.S_drewN | apply Kd.S_drew)); exact HO_528002.out)) (by decide) hg)
  have n1_ := Aside0.mk (Kd.R_over' (by (with_reducible repeat (first | apply Kd.R_alloc | apply Kd.R_drewN | apply Kd.R_drew)); exact HO_528001.out) (Kd.S_typed (by (with_reducible repeat (first | apply Kd.S_alloc | apply Kd.S_drewN | apply Kd.S_drew)); exact HO_528002.out)) (by decide) hg)
  have n2_ := Aside0.mk (blk_grown (g := gb519) (o := .cells #[.slice A0_0 l0_0.length c0_0, .slice A0_1 l0_1.length c0_1, .slice (some ad528) l0_2.length c0_2] 26 (0, 0)) (by (with_reducible repeat (first | refine blk_drewN ?_ _ | refine blk_drew ?_ | refine blk_alloc ?_ _)); exact BK519.out) hg (Kd.S_ne HO_528002.out BK519.out (by decide)))
  have n3_ := Aside0.mk (blk_grown (g := gb520) (o := .cells #[.slice none 0 0, .slice none 0 0, .slice none 0 0] 26 (0, 0)) (by (with_reducible repeat (first | refine blk_drewN ?_ _ | refine blk_drew ?_ | refine blk_alloc ?_ _)); exact BK520.out) hg (Kd.S_ne HO_528002.out BK520.out (by decide)))
  have n4_ := Aside0.mk (blk_grown (g := gb527) (o := .cells #[.slice Ao14 t521.length co14, .slice Ao13 t524.length co13, u528002] 26 (0, 0)) (by (with_reducible repeat (first | refine blk_drewN ?_ _ | refine blk_drew ?_ | refine blk_alloc ?_ _)); exact BK527.out) hg (Kd.S_ne HO_528002.out BK527.out (by decide)))
  have n5_ := Aside0.mk (hb)
  have n6_ := Aside0.mk (ho)
  clear HO_528000
  clear HO_528001
  clear BK519
  clear BK520
  clear BK527
  clear HB
  clear HO_528002
  clear HO531
  have HO_528000 := n0_
  have HO_528001 := n1_
  have BK519 := n2_
  have BK520 := n3_
  have BK527 := n4_
  have HB := n5_
  have HO534 := n6_
  clear n0_ n1_ n2_ n3_ n4_ n5_ n6_
  clear ho hb hg hat
  obtain ⟨Ao30, co30, eo30⟩ := Kd.S_slice HO534.out
  (first | subst eo30 | (injection eo30 with f1_ f2_ f3_; have f4_ := f1_.symm; have f5_ := f3_.symm; clear f1_ f2_ f3_; subst f4_; subst f5_))
  refine hK.out _ _ ⟨(blk_cell BK527.out 0).trans rfl, (blk_cell BK527.out 1).trans rfl, (blk_cell BK527.out 2).trans rfl⟩ (fun hHeld => ?_)
  clear hK K
  refine norm_ (a' := ?_) ?_ ?_
  rotate_left
  ·
   show Act.put _ (some 25) _ = _
   simp only [Act.put, List.setIfInBounds_toArray, List.set_cons_zero, List.set_cons_succ, i64_w, i32_w]
   rfl
  refine pure_ (i := 6) (N := some 26) (v := ?_) (a' := ?_) #[true, true, true, true, true, true, true, false] rfl rfl (any_of HT_.out (by kernel_rfl)) (fun _ _ _ h => h) (Or.inl ⟨by rfl, ?_⟩) ?_ ?_
  rotate_left
  ·
   intro w'
   go_simp
   with_reducible rfl
  rotate_left
  ·
   simp only [Act.put, List.setIfInBounds_toArray, List.set_cons_zero, List.set_cons_succ, i64_w, i32_w]
   rfl
  refine last_ (i := 7) (N := none) #[true, true, true, true, true, true, true, true] rfl rfl (one_of HT_.out (by kernel_rfl)) (by decide) (fun K hK => ?_)
  have hs31 : w28.cell? ⟨gb527, 2, none⟩ = some (u528002) := (blk_cell BK527.out 2).trans rfl
  have hfs31 := blk_frozen BK527.out 2
  have hns31_0 := NB519_527.out
  have hns31_1 := NB520_527.out
  have hms31_0 := NB527_519.out
  have hms31_1 := NB527_520.out
  refine skip_ (w1 := ?_) (by rfl) rfl ?_ ?_
  rotate_left
  ·
   go_simp
   rfl
  refine hK.out _ _ ?_
  clear hK K
  refine done_ (done_of HT_.out (by kernel_rfl)) ?_
  try go_wp2
  go_roundg k1
  case measure => have := HK1.out; omega
  case rel => exact ⟨(wrap64 (x16_1 + 1)), (y532), (.slice Ao30 y532.length co30), (by first | rfl | (simp; done) | (simp [*]; done)), H', ⟨by have := HK1.out; omega⟩, ⟨by (with_reducible repeat (first | apply Kd.R_alloc | apply Kd.R_drewN | apply Kd.R_drew)); exact Kd.R_mono (Kd.R_far (p := ⟨gb527, 2, none⟩) (Kd.R_types HO_528000.out BK527.out (by decide)) (fun _ hk => hk.2) (.slice Ao30 y532.length co30)) (fun _ hk => trivial)⟩, ⟨by (with_reducible repeat (first | apply Kd.R_alloc | apply Kd.R_drewN | apply Kd.R_drew)); exact Kd.R_mono (Kd.R_far (p := ⟨gb527, 2, none⟩) (Kd.R_types HO_528001.out BK527.out (by decide)) (fun _ hk => hk.2) (.slice Ao30 y532.length co30)) (fun _ hk => trivial)⟩, ⟨by (with_reducible repeat (first | apply Kd.S_alloc | apply Kd.S_drewN | apply Kd.S_drew)); exact Kd.S_mono (Kd.S_far (p := ⟨gb527, 2, none⟩) (Kd.S_types HO534.out BK527.out (by decide)) (fun _ hk => hk.2) (.slice Ao30 y532.length co30)) (fun _ hk => hk.1)⟩, ⟨by (with_reducible repeat (first | refine blk_drewN ?_ _ | refine blk_drew ?_ | refine blk_alloc ?_ _)); refine blk_far ?_ NB519_527.out _; (with_reducible repeat (first | refine blk_drewN ?_ _ | refine blk_drew ?_ | refine blk_alloc ?_ _)); exact BK519.out⟩, ⟨by (with_reducible repeat (first | refine blk_drewN ?_ _ | refine blk_drew ?_ | refine blk_alloc ?_ _)); refine blk_far ?_ NB520_527.out _; (with_reducible repeat (first | refine blk_drewN ?_ _ | refine blk_drew ?_ | refine blk_alloc ?_ _)); exact BK520.out⟩, ⟨by (with_reducible repeat (first | refine blk_drewN ?_ _ | refine blk_drew ?_ | refine blk_alloc ?_ _)); refine blk_put (cs := #[.slice Ao14 t521.length co14, .slice Ao13 t524.length co13, u528002]) ?_ 2 _ rfl; (with_reducible repeat (first | refine blk_drewN ?_ _ | refine blk_drew ?_ | refine blk_alloc ?_ _)); exact BK527.out⟩, ⟨by repeat (first | (with_reducible first | exact HB.out | apply below_alloc | apply pw_below_drewN | apply below_drew1 | refine below_set ?_ GE519.out | refine below_set ?_ GE520.out | refine below_set ?_ GE527.out) | exact HB.out)⟩⟩
end Go.Proofs.Ytkmmihadcbfkoaa.PM
end

section
namespace Go.Proofs.Ytkmmihadcbfkoaa
open Go.RowKit Go.Proofs.YtkmmihadcbfkoaaW.PrintWords PM
set_option linter.unusedVariables false
set_option linter.unusedSimpArgs false
theorem cop88 (l : List Int) (h : l.length ≤ 1000000) : match_copied_int_88.f l = some l := by
 unfold match_copied_int_88.f
 rw [Option.bind_some, if_pos (by simp; omega)]
 rfl
theorem copS (l : List S50) (h : l.length ≤ 1000000) : api_Slot.f l = some l := by
 unfold api_Slot.f
 rw [Option.bind_some, if_pos (by simp; omega)]
 rfl
variable {F : List Int} {S : List S50} {T : List (List Int)}
theorem other_ev (T : List (List Int)) (hT : T.length ≤ 1000000) (hr : ∀ l, l ∈ T → l.length ≤ 1000000) (a : List Int) (b : List S50) (m : Nat) : ∀ (i : Nat) (acc : List (List Int)), T.length - i = m → i ≤ T.length → acc.length = i →
  Ev (fun k => match_other.l0 k T (T.length : Int) (i : Int) a b acc) (a, b, acc ++ T.drop i) := by
 induction m with
 | zero =>
  intro i acc hm hi ha
  refine Ev.into (fun k => by rw [match_other.l0]) (Ev.neg (by omega) ?_)
  rw [List.drop_eq_nil_of_le (by omega), List.append_nil]
  exact Ev.const _
 | succ m ih =>
  intro i acc hm hi ha
  have hlt : i < T.length := by omega
  have hw := wrap_pm (i := (i : Int)) (by omega) (by omega)
  have hrd : rd_L1 T (i : Int) = T[i] := by simp [rd_L1, List.getD_eq_getElem?_getD, List.getElem?_eq_getElem hlt]
  refine Ev.into (fun k => by rw [match_other.l0]) (Ev.pos (by omega) (Ev.pos (by omega) (Ev.pos (by omega) ?_)))
  rw [hrd, cop88 _ (hr _ (List.getElem_mem hlt)), hw.1, show (i : Int) + 1 = ((i + 1 : Nat) : Int) by omega]
  simp only [Option.bind_some]
  refine Ev.pos (by omega) ?_
  have := ih (i + 1) (acc ++ [T[i]]) (by omega) (by omega) (by simp; omega)
  rw [List.append_assoc, List.singleton_append, List.getElem_cons_drop] at this
  exact this
theorem other_is (hF : F.length ≤ 1000000) (hS : S.length ≤ 1000000) (hT : T.length ≤ 1000000) (hr : ∀ l, l ∈ T → l.length ≤ 1000000) : Ev (fun k => match_other.f k F S T) (F, S, T) := by
 unfold match_other.f
 rw [cop88 F hF, copS S hS]
 have := other_ev T hT hr F S T.length 0 [] (by omega) (by omega) rfl
 simpa using this
theorem cop_ev (T : List (List Int)) (hT : T.length ≤ 1000000) (hr : ∀ l, l ∈ T → l.length ≤ 1000000) (F : List Int) (S : List S50) (a : List Int) (b : List S50) (m : Nat) : ∀ (i : Nat) (acc : List (List Int)), T.length - i = m → i ≤ T.length → acc.length = i →
  Ev (fun k => laganref04_Copied.l0 k (i : Int) F S T a b acc) (a, b, acc ++ T.drop i) := by
 induction m with
 | zero =>
  intro i acc hm hi ha
  refine Ev.into (fun k => by rw [laganref04_Copied.l0]) (Ev.neg (by omega) ?_)
  rw [List.drop_eq_nil_of_le (by omega), List.append_nil]
  exact Ev.const _
 | succ m ih =>
  intro i acc hm hi ha
  have hlt : i < T.length := by omega
  have hw := wrap_pm (i := (i : Int)) (by omega) (by omega)
  have hrd : rd_L1 T (i : Int) = T[i] := by simp [rd_L1, List.getD_eq_getElem?_getD, List.getElem?_eq_getElem hlt]
  have hl := hr _ (List.getElem_mem hlt)
  refine Ev.into (fun k => by rw [laganref04_Copied.l0]) (Ev.pos (by omega) ?_)
  rw [hrd, hw.1, show (i : Int) + 1 = ((i + 1 : Nat) : Int) by omega]
  simp only [Option.bind_some]
  refine Ev.pos (by omega) (Ev.pos (by simp; omega) (Ev.pos (by omega) ?_))
  have := ih (i + 1) (acc ++ [T[i]]) (by omega) (by omega) (by simp; omega)
  rw [List.append_assoc, List.singleton_append, List.getElem_cons_drop] at this
  simpa using this
theorem cop_is (hF : F.length ≤ 1000000) (hS : S.length ≤ 1000000) (hT : T.length ≤ 1000000) (hr : ∀ l, l ∈ T → l.length ≤ 1000000) : Ev (fun k => laganref04_Copied.f k F S T) (F, S, T) := by
 unfold laganref04_Copied.f
 have := cop_ev T hT hr F S F S T.length 0 [] (by omega) (by omega) rfl
 simp only [Option.bind_some]
 refine Ev.pos (by simp; omega) (Ev.pos (by simp; omega) ?_)
 simpa using this
/-- The board in which a find fits other slots. -/
def fittedP (F : List Int) (S : List S50) (T : List (List Int)) (find slot : Int) (g : List Int → List Int) : List Int × List S50 × List (List Int) × Int :=
 if askB F S T find slot false false = 0 then
  if slot ∈ T.getD find.toNat [] then (F, S, T.set find.toNat (g (T.getD find.toNat [])), 0) else ([], [], [], 5)
 else ([], [], [], askB F S T find slot false false)
def fixedP (F : List Int) (S : List S50) (T : List (List Int)) (find slot : Int) := fittedP F S T find slot (fun _ => [slot])
theorem rows_le (hk : BOK F S T) : ∀ l, l ∈ T → l.length ≤ 1000 := by
 intro l hl
 obtain ⟨j, hj, he⟩ := List.getElem_of_mem hl
 have := hk.row j hj
 rwa [List.getD_eq_getElem?_getD, List.getElem?_eq_getElem hj, Option.getD_some, he] at this
end Go.Proofs.Ytkmmihadcbfkoaa
end

section
namespace Go.Proofs.Ytkmmihadcbfkoaa
open Go.RowKit Go.Proofs.YtkmmihadcbfkoaaW.PrintWords Go.Proofs.YtkmmihadcbfkoaaW.PrintLast Go.Proofs.YtkmmihadcbfkoaaW.PrintMore PM
set_option linter.unusedVariables false
set_option linter.unusedSimpArgs false
/-- What Without, Barred and Fixed return: a board of their own. -/
def OwnPost (r : List Int × List S50 × List (List Int) × Int) (w : World) (e : Ending) (w' : World) : Prop :=
 ∃ v0 v1 v2 : Value, e = .returned (.tuple #[.agg #[v0, v1, v2], .int .i64 r.2.2.2]) ∧ Kd.R (Kd.int .i64) 3 w' w.heap.size (fun _ => True) v0 r.1 ∧ Kd.R k50 50 w' w.heap.size (fun _ => True) v1 r.2.1 ∧ Kd.S (Kd.slice 3 (Kd.int .i64)) 22 w' w.heap.size (fun k_ => some k_ ≠ (v0 : Value).ownBlock) v2 r.2.2.1 ∧ Below w.heap.size w w'
theorem R_box {α : Type} {d : Kd α} {e : Nat} {w : World} {base : Nat} {ok : Nat → Prop} {v : Value} {xs : List α} (h : Kd.R d e w base ok v xs) {g t : Nat} {cells : Array Value} (hb : w.heap[g]? = some (.cells cells t (0, 0))) (ht : ∀ q, q ∈ e :: d.E → q ≠ t) (i : Nat) (u : Value) : Kd.R d e (w.setCell ⟨g, i, none⟩ u) base ok v xs :=
 Kd.R_mono (Kd.R_far (p := ⟨g, i, none⟩) (Kd.R_types h hb ht) (fun _ hk => hk.2) u) (fun _ hk => hk.1)
theorem S_box {α : Type} {d : Kd α} {e : Nat} {w : World} {base : Nat} {ok : Nat → Prop} {v : Value} {xs : List α} (h : Kd.S d e w base ok v xs) {g t : Nat} {cells : Array Value} (hb : w.heap[g]? = some (.cells cells t (0, 0))) (ht : ∀ q, q ∈ e :: d.E → q ≠ t) (i : Nat) (u : Value) : Kd.S d e (w.setCell ⟨g, i, none⟩ u) base ok v xs :=
 Kd.S_mono (Kd.S_far (p := ⟨g, i, none⟩) (Kd.S_types h hb ht) (fun _ hk => hk.2) u) (fun _ hk => hk.1)
theorem kd_block {α : Type} {d : Kd α} {e : Nat} {w : World} {base : Nat} {ok : Nat → Prop} {g n c : Nat} {xs : List α} (h : Kd.R d e w base ok (.slice (some ⟨g, 0, none⟩) n c) xs) (hp : 0 < xs.length) : ∃ cells, w.heap[g]? = some (.cells cells e (0, 0)) := by
 obtain ⟨g', cap, he, _, _, cells, hc⟩ := Kd.R_form h hp
 injection he with h1
 injection h1 with h1
 injection h1 with h1
 subst h1
 exact ⟨cells, hc⟩
theorem ks_block {α : Type} {d : Kd α} {e : Nat} {w : World} {base : Nat} {ok : Nat → Prop} {g n c : Nat} {xs : List α} (h : Kd.S d e w base ok (.slice (some ⟨g, 0, none⟩) n c) xs) (hp : 0 < xs.length) : ∃ cells, w.heap[g]? = some (.cells cells e (0, 0)) := by
 obtain ⟨g', cap, he, _, _, cells, hc⟩ := Kd.S_form h hp
 injection he with h1
 injection h1 with h1
 injection h1 with h1
 subst h1
 exact ⟨cells, hc⟩
/-- A box of three slices written anew. -/
theorem own_put3 {w : World} {g : Nat} {a b c : Value} (h : w.heap[g]? = some (.cells #[a, b, c] 26 (0, 0))) (u0 u1 u2 : Value) :
  (((w.setCell ⟨g, 0, none⟩ u0).setCell ⟨g, 1, none⟩ u1).setCell ⟨g, 2, none⟩ u2).heap[g]? = some (.cells #[u0, u1, u2] 26 (0, 0)) :=
 blk_put (cs := #[u0, u1, c]) (blk_put (cs := #[u0, b, c]) (blk_put (cs := #[a, b, c]) h 0 u0 rfl) 1 u1 rfl) 2 u2 rfl
theorem own_box3R {α : Type} {d : Kd α} {e : Nat} {w : World} {base : Nat} {ok : Nat → Prop} {v : Value} {xs : List α} (h : Kd.R d e w base ok v xs) {g : Nat} {a b c : Value} (hb : w.heap[g]? = some (.cells #[a, b, c] 26 (0, 0))) (ht : ∀ q, q ∈ e :: d.E → q ≠ 26) (u0 u1 u2 : Value) :
  Kd.R d e (((w.setCell ⟨g, 0, none⟩ u0).setCell ⟨g, 1, none⟩ u1).setCell ⟨g, 2, none⟩ u2) base ok v xs :=
 R_box (R_box (R_box h hb ht 0 u0) (blk_put hb 0 u0 rfl) ht 1 u1) (blk_put (blk_put hb 0 u0 rfl) 1 u1 rfl) ht 2 u2
theorem own_box3S {α : Type} {d : Kd α} {e : Nat} {w : World} {base : Nat} {ok : Nat → Prop} {v : Value} {xs : List α} (h : Kd.S d e w base ok v xs) {g : Nat} {a b c : Value} (hb : w.heap[g]? = some (.cells #[a, b, c] 26 (0, 0))) (ht : ∀ q, q ∈ e :: d.E → q ≠ 26) (u0 u1 u2 : Value) :
  Kd.S d e (((w.setCell ⟨g, 0, none⟩ u0).setCell ⟨g, 1, none⟩ u1).setCell ⟨g, 2, none⟩ u2) base ok v xs :=
 S_box (S_box (S_box h hb ht 0 u0) (blk_put hb 0 u0 rfl) ht 1 u1) (blk_put (blk_put hb 0 u0 rfl) 1 u1 rfl) ht 2 u2
theorem own_box3B {B : Nat} {a w : World} (h : Below B a w) {g : Nat} (hg : B ≤ g) (u0 u1 u2 : Value) :
  Below B a (((w.setCell ⟨g, 0, none⟩ u0).setCell ⟨g, 1, none⟩ u1).setCell ⟨g, 2, none⟩ u2) :=
 setCell_below (setCell_below (setCell_below h hg _) hg _) hg _
end Go.Proofs.Ytkmmihadcbfkoaa
end

section
namespace Go.Proofs
open Go.Shelf
end Go.Proofs
namespace Go.Proofs.Ytkmmihadcbfkoaa
open Go.RowKit Go.Sort Go.Shelf Go.Lib Go.Proofs.YtkmmihadcbfkoaaW.PrintWords
set_option linter.unusedVariables false
set_option linter.unusedSimpArgs false
/-- A function value with which fitted may be called: what it makes of a row, in a later world. -/
def FitsAt (gf : Nat) (lb : Array Value) (fl : List Int → List Int) (w : World) : Prop :=
 ∀ (W : World) (oki : Nat → Prop) (g c : Nat) (row : List Int), Below w.heap.size w W → Kd.R (Kd.int .i64) 3 W w.heap.size oki (.slice (some ⟨g, 0, none⟩) row.length c) row → row.length ≤ 1000 →
  Calls Try.prog gf (#[.slice (some ⟨g, 0, none⟩) row.length c] ++ lb) W fun e w1 => ∃ v1, e = .returned v1 ∧ W.grownBy w1 (some g) ∧ Kd.R (Kd.int .i64) 3 w1 w.heap.size (fun k => oki k ∨ W.heap.size ≤ k) v1 (fl row)
theorem fits65 (slot : Int) (B : Nat) (w : World) (hB : B < w.heap.size) (hcell : w.cell? ⟨B, 0, none⟩ = some (.int .i64 slot)) :
  FitsAt 65 #[.pointer (some ⟨B, 0, none⟩)] (fun _ => [slot]) w := by
 intro W oki g c row hb hR hl
 have hcW : W.cell? ⟨B, 0, none⟩ = some (.int .i64 slot) := (hb.cell (p := ⟨B, 0, none⟩) hB).trans hcell
 have hsz := hb.size
 clear hR
 show Calls Try.prog 65 #[.slice (some ⟨g, 0, none⟩) row.length c, .pointer (some ⟨B, 0, none⟩)] W _
 go_enter Try.func65, Try.ntmps65
 go_wp2
 go_ret
 have ho : (W.alloc (.cells #[.int .i64 slot] 3)).ownsRow w.heap.size 3 1 (.slice (some ⟨W.heap.size, 0, none⟩) 1 1) 1 [.int .i64 slot] :=
  ⟨rfl, .inr ⟨W.heap.size, 1, #[.int .i64 slot], rfl, hsz, World.alloc_heap_new W _, by decide, by decide, rfl, rfl⟩⟩
 exact ⟨.slice (some ⟨W.heap.size, 0, none⟩) 1 1, rfl, grown_of_below ((Below.refl _ _).alloc (Nat.le_refl _) _) _, Kd.R_of_own (xs := [slot]) ho (fun k hk => Or.inr (Nat.le_of_eq (Option.some.inj hk)))⟩
end Go.Proofs.Ytkmmihadcbfkoaa
end
