/-
  MatchOthers holds: for every board, find and slot, the law returns true and what it is given reads as it did. (part 5 of 6 of the texts that it stands on)
-/
import Derived.Test.YtkmmihadcbfkoaaZOthersd
section
namespace Go.Proofs.Ytkmmihadcbfkoaa.PM
open Go.RowKit Go.Proofs.YtkmmihadcbfkoaaW.PrintWords Go.Proofs.YtkmmihadcbfkoaaW.PrintLast Go.Proofs.YtkmmihadcbfkoaaW.PrintMore
set_option linter.unusedVariables false
set_option linter.unusedSimpArgs false
def laganref04_Without.j0 : Nat → Int → Int → Bool → List Int → List (S50) → List (List Int) → Option (List Int × (List (S50)) × (List (List Int)) × Int)
 | 0, _, _, _, _, _, _ => none
 | k + 1, x1, x6, x22, x726000, x726001, x726002 => if x22 = true then (if 1 = 0 then ((laganref04_Copied.f k x726000 x726001 x726002).bind fun bt728 => (if 0 ≤ x1 then (if x1 ≤ (bt728.1.length : Int) then (if 0 ≤ (wrap64 (x1 + 1)) then (if (wrap64 (x1 + 1)) ≤ (bt728.1.length : Int) then (if x1 ≤ (bt728.2.2.length : Int) then (if (wrap64 (x1 + 1)) ≤ (bt728.2.2.length : Int) then (some ((bt728.1.eraseIdx (x1 : Int).toNat), bt728.2.1, (bt728.2.2.eraseIdx (x1 : Int).toNat), 0)) else (none)) else (none)) else (none)) else (none)) else (none)) else (none))) else (some (([] : List Int), ([] : List (S50)), ([] : List (List Int)), 1))) else (if x6 = 0 then ((laganref04_Copied.f k x726000 x726001 x726002).bind fun bt760 => (if 0 ≤ x1 then (if x1 ≤ (bt760.1.length : Int) then (if 0 ≤ (wrap64 (x1 + 1)) then (if (wrap64 (x1 + 1)) ≤ (bt760.1.length : Int) then (if x1 ≤ (bt760.2.2.length : Int) then (if (wrap64 (x1 + 1)) ≤ (bt760.2.2.length : Int) then (some ((bt760.1.eraseIdx (x1 : Int).toNat), bt760.2.1, (bt760.2.2.eraseIdx (x1 : Int).toNat), 0)) else (none)) else (none)) else (none)) else (none)) else (none)) else (none))) else (some (([] : List Int), ([] : List (S50)), ([] : List (List Int)), x6)))
def laganref04_Without.f (k : Nat) (l0_0 : List Int) (l0_1 : List (S50)) (l0_2 : List (List Int)) (a1 : Int) : Option (List Int × (List (S50)) × (List (List Int)) × Int) := (laganref04_CheckBoard.f k l0_0 l0_1 l0_2).bind fun t727 => (if t727 = 0 then (if a1 < 0 then (laganref04_Without.j0 k a1 t727 true l0_0 l0_1 l0_2) else (laganref04_Without.j0 k a1 t727 (decide (a1 ≥ (l0_0.length : Int))) l0_0 l0_1 l0_2)) else (laganref04_Without.j0 k a1 t727 false l0_0 l0_1 l0_2))
def laganref04_Without.T7 : Bool × List (List Nat × List Nat) := (true, [([], []), ([0], [0]), ([], []), ([1, 2], [1, 2]), ([], []), ([4], [4]), ([], []), ([6], [6]), ([5, 7], [5, 7]), ([3, 8], [3, 8]), ([0, 1, 2, 3, 4, 5, 6, 7, 8, 9], []), ([10, 9, 9, 0, 1, 2, 3, 4, 5, 6, 7, 8, 9], [9, 10])])
def laganref04_Without.B7 : List Nat := [0, 1, 0, 7, 0, 16, 0, 64, 240, 511, 1023, 2047]
theorem laganref04_Without.tab7 : rtab .any (opsOf Try.f42 7) = laganref04_Without.T7 := by kernel_rfl
theorem laganref04_Without.bits7 : waitsOk laganref04_Without.T7.2 laganref04_Without.B7 = true := by kernel_rfl
def laganref04_Without.T8 : Bool × List (List Nat × List Nat) := (true, [([], []), ([0], [0]), ([], []), ([1, 2], [1, 2]), ([], []), ([4], [4]), ([], []), ([6], [6]), ([5, 7], [5, 7]), ([3, 8], [3, 8]), ([0, 1, 2, 3, 4, 5, 6, 7, 8, 9], []), ([10, 9, 9, 0, 1, 2, 3, 4, 5, 6, 7, 8, 9], [9, 10])])
def laganref04_Without.B8 : List Nat := [0, 1, 0, 7, 0, 16, 0, 64, 240, 511, 1023, 2047]
theorem laganref04_Without.tab8 : rtab .any (opsOf Try.f42 8) = laganref04_Without.T8 := by kernel_rfl
theorem laganref04_Without.bits8 : waitsOk laganref04_Without.T8.2 laganref04_Without.B8 = true := by kernel_rfl
set_option maxHeartbeats 8000000 in
set_option maxRecDepth 100000 in
theorem laganref04_Without.calls (k : Nat) (A0_0 : Option Addr) (c0_0 : Nat) (l0_0 : List Int) (A0_1 : Option Addr) (c0_1 : Nat) (l0_1 : List (S50)) (A0_2 : Option Addr) (c0_2 : Nat) (l0_2 : List (List Int)) (a1 : Int) (r1 : List Int) (r2 : List (S50)) (r3 : List (List Int)) (r4 : Int) (w : World) (hr0_0 : Kd.C (Kd.int .i64) w A0_0 l0_0.length l0_0) (hc0_0 : l0_0.length ≤ c0_0) (hr0_1 : Kd.C k50 w A0_1 l0_1.length l0_1) (hc0_1 : l0_1.length ≤ c0_1) (hr0_2 : Kd.C (Kd.slice 3 (Kd.int .i64)) w A0_2 l0_2.length l0_2) (hc0_2 : l0_2.length ≤ c0_2) (h : laganref04_Without.f k l0_0 l0_1 l0_2 a1 = some (r1, r2, r3, r4)) :
  Calls Try.prog 42 #[.agg #[.slice A0_0 l0_0.length c0_0, .slice A0_1 l0_1.length c0_1, .slice A0_2 l0_2.length c0_2], .int .i64 a1] w fun e w' => ∃ v0_ v1_ v2_ : Value, e = .returned (.tuple #[.agg #[v0_, v1_, v2_], .int .i64 r4]) ∧ Kd.R (Kd.int .i64) 3 w' w.heap.size (fun _ => True) v0_ r1 ∧ Kd.R k50 50 w' w.heap.size (fun _ => True) v1_ r2 ∧ Kd.S (Kd.slice 3 (Kd.int .i64)) 22 w' w.heap.size (fun k_ => some k_ ≠ (v0_ : Value).ownBlock) v2_ r3 ∧ Below w.heap.size w w' := by
 have hu26 := Try.underlying26
 have HR0_0 := Aside0.mk hr0_0
 have HC0_0 := Aside0.mk hc0_0
 clear hr0_0 hc0_0
 have HR0_1 := Aside0.mk hr0_1
 have HC0_1 := Aside0.mk hc0_1
 clear hr0_1 hc0_1
 have HR0_2 := Aside0.mk hr0_2
 have HC0_2 := Aside0.mk hc0_2
 clear hr0_2 hc0_2
 have HB := Aside0.mk (Below.refl w.heap.size w)
 have H : ((laganref04_CheckBoard.f k l0_0 l0_1 l0_2).bind fun t727 => (if t727 = 0 then (if a1 < 0 then (laganref04_Without.j0 k a1 t727 true l0_0 l0_1 l0_2) else (laganref04_Without.j0 k a1 t727 (decide (a1 ≥ (l0_0.length : Int))) l0_0 l0_1 l0_2)) else (laganref04_Without.j0 k a1 t727 false l0_0 l0_1 l0_2))) = some (r1, r2, r3, r4) := h
 clear h
 replace H := Option.bind_eq_some_iff.mp H
 obtain ⟨t727, A30, H⟩ := H
 replace H : (if t727 = 0 then (if a1 < 0 then (laganref04_Without.j0 k a1 t727 true l0_0 l0_1 l0_2) else (laganref04_Without.j0 k a1 t727 (decide (a1 ≥ (l0_0.length : Int))) l0_0 l0_1 l0_2)) else (laganref04_Without.j0 k a1 t727 false l0_0 l0_1 l0_2)) = some (r1, r2, r3, r4) := H
 have A3 := Aside0.mk A30
 clear A30
 have HC4 := Aside0.mk H
 clear H
 go_enter Try.func42, Try.ntmps42
 go_upto_region 2 with (first | ((with_reducible refine gate_dst (N := 2) rfl ?_); (try (refine gate_guard (by rfl) ?_; dsimp only)); refine box_event ?hg (N := 2) ?hd (cs := #[.slice A0_0 l0_0.length c0_0, .slice A0_1 l0_1.length c0_1, .slice A0_2 l0_2.length c0_2]) (t := 26) ?hr ?_; (case hd => rfl); (case hg => rfl); (case hr => first | (go_simp; done) | (go_simp; rfl)); intro gb725 hg w5 hbox hb; have n0_ := Aside0.mk (below_step (by repeat (first | (with_reducible first | exact HB.out | apply below_alloc | apply pw_below_drewN | apply below_drew1) | exact HB.out)) hb); have n1_ := Aside0.mk (hbox); have n2_ := Aside0.mk ((by rw [hg]; exact (below_size (by repeat (first | (with_reducible first | exact HB.out | apply below_alloc | apply pw_below_drewN | apply below_drew1) | exact HB.out))) : w.heap.size ≤ gb725)); have n3_ := Aside0.mk ((by rw [hg]; exact (below_size (by repeat (first | (with_reducible first | exact HB.out | apply below_alloc | apply pw_below_drewN | apply below_drew1) | exact HB.out))) : w.heap.size ≤ gb725)); clear HB; have HB := n0_; have BK725 := n1_; have GW725 := n2_; have GE725 := n3_; clear n0_ n1_ n2_ n3_; clear hb hbox hg) | ((with_reducible refine gate_dst (N := 4) rfl ?_); (try (refine gate_guard (by rfl) ?_; dsimp only)); refine box_event ?hg (N := 4) ?hd (cs := #[.slice none 0 0, .slice none 0 0, .slice none 0 0]) (t := 26) ?hr ?_; (case hd => rfl); (case hg => rfl); (case hr => first | (go_simp; done) | (go_simp; rfl)); intro gb726 hg w6 hbox hb; have n0_ := Aside0.mk (blk_below (g := gb725) (o := .cells #[.slice A0_0 l0_0.length c0_0, .slice A0_1 l0_1.length c0_1, .slice A0_2 l0_2.length c0_2] 26 (0, 0)) (by (with_reducible repeat (first | refine blk_drewN ?_ _ | refine blk_drew ?_ | refine blk_alloc ?_ _)); exact BK725.out) hb); have n1_ := Aside0.mk (below_step (by repeat (first | (with_reducible first | exact HB.out | apply below_alloc | apply pw_below_drewN | apply below_drew1 | refine below_set ?_ GE725.out) | exact HB.out)) hb); have n2_ := Aside0.mk (hbox); have n3_ := Aside0.mk ((by rw [hg]; exact (below_size (by repeat (first | (with_reducible first | exact HB.out | apply below_alloc | apply pw_below_drewN | apply below_drew1 | refine below_set ?_ GE725.out) | exact HB.out))) : w.heap.size ≤ gb726)); have n4_ := Aside0.mk ((by rw [hg]; exact (below_size (by repeat (first | (with_reducible first | exact HB.out | apply below_alloc | apply pw_below_drewN | apply below_drew1 | refine below_set ?_ GE725.out) | exact HB.out))) : w.heap.size ≤ gb726)); have n5_ := Aside0.mk ((by rw [hg]; exact Nat.ne_of_lt (blk_lt (g := gb725) (o := .cells #[.slice A0_0 l0_0.length c0_0, .slice A0_1 l0_1.length c0_1, .slice A0_2 l0_2.length c0_2] 26 (0, 0)) (by (with_reducible repeat (first | refine blk_drewN ?_ _ | refine blk_drew ?_ | refine blk_alloc ?_ _)); exact BK725.out)) : gb725 ≠ gb726)); have n6_ := Aside0.mk ((by rw [hg]; exact Nat.ne_of_gt (blk_lt (g := gb725) (o := .cells #[.slice A0_0 l0_0.length c0_0, .slice A0_1 l0_1.length c0_1, .slice A0_2 l0_2.length c0_2] 26 (0, 0)) (by (with_reducible repeat (first | refine blk_drewN ?_ _ | refine blk_drew ?_ | refine blk_alloc ?_ _)); exact BK725.out)) : gb726 ≠ gb725)); clear BK725; clear HB; have BK725 := n0_; have HB := n1_; have BK726 := n2_; have GW726 := n3_; have GE726 := n4_; have NB725_726 := n5_; have NB726_725 := n6_; clear n0_ n1_ n2_ n3_ n4_ n5_ n6_; clear hb hbox hg; have hnb7 := NB725_726.out; have hnc7 := NB726_725.out; have hcz8_0 : w6.cell? ⟨gb725, 0, none⟩ = some (.slice A0_0 l0_0.length c0_0) := (blk_cell BK725.out 0).trans rfl; have hcz8_1 : w6.cell? ⟨gb725, 1, none⟩ = some (.slice A0_1 l0_1.length c0_1) := (blk_cell BK725.out 1).trans rfl; have hcz8_2 : w6.cell? ⟨gb725, 2, none⟩ = some (.slice A0_2 l0_2.length c0_2) := (blk_cell BK725.out 2).trans rfl; have hfz8_0 := blk_frozen BK725.out 0; have hfz8_1 := blk_frozen BK725.out 1; have hfz8_2 := blk_frozen BK725.out 2) | ((with_reducible refine gate_callee (f := 19) rfl ?_); refine goesL_ (some 9) rfl rfl Try.func19 (by kernel_rfl) rfl #[.agg #[.slice A0_0 l0_0.length c0_0, .slice A0_1 l0_1.length c0_1, .slice A0_2 l0_2.length c0_2]] rfl (by (try simp only [List.map_toArray, List.map_cons, List.map_nil]); first | done | rfl | (simp only [List.length_drop, List.length_take]; rfl)) ?_; (with_reducible refine (laganref04_CheckBoard.calls k _ _ l0_0 _ _ l0_1 _ _ l0_2 t727 _ ?side1 ?side2 ?side3 ?side4 ?side5 ?side6 A3.out).mono ?_); (case side1 => repeat (first | exact (Kd.C_below HR0_0.out HB.out) | (with_reducible refine Kd.C_alloc ?_ _) | (with_reducible refine Kd.C_drewN ?_ _) | (with_reducible refine Kd.C_drew ?_))); (case side2 => exact HC0_0.out); (case side3 => repeat (first | exact (Kd.C_below HR0_1.out HB.out) | (with_reducible refine Kd.C_alloc ?_ _) | (with_reducible refine Kd.C_drewN ?_ _) | (with_reducible refine Kd.C_drew ?_))); (case side4 => exact HC0_1.out); (case side5 => repeat (first | exact (Kd.C_below HR0_2.out HB.out) | (with_reducible refine Kd.C_alloc ?_ _) | (with_reducible refine Kd.C_drewN ?_ _) | (with_reducible refine Kd.C_drew ?_))); (case side6 => exact HC0_2.out); rintro e w9 ⟨rfl, hb⟩; refine ⟨_, rfl, ?_⟩; have n0_ := Aside0.mk (blk_below (g := gb725) (o := .cells #[.slice A0_0 l0_0.length c0_0, .slice A0_1 l0_1.length c0_1, .slice A0_2 l0_2.length c0_2] 26 (0, 0)) (by (with_reducible repeat (first | refine blk_drewN ?_ _ | refine blk_drew ?_ | refine blk_alloc ?_ _)); exact BK725.out) hb); have n1_ := Aside0.mk (blk_below (g := gb726) (o := .cells #[.slice none 0 0, .slice none 0 0, .slice none 0 0] 26 (0, 0)) (by (with_reducible repeat (first | refine blk_drewN ?_ _ | refine blk_drew ?_ | refine blk_alloc ?_ _)); exact BK726.out) hb); have n2_ := Aside0.mk (below_step (by repeat (first | (with_reducible first | exact HB.out | apply below_alloc | apply pw_below_drewN | apply below_drew1 | refine below_set ?_ GE725.out | refine below_set ?_ GE726.out) | exact HB.out)) hb); clear BK725; clear BK726; clear HB; have BK725 := n0_; have BK726 := n1_; have HB := n2_; clear n0_ n1_ n2_; (try clear hb); (try clear hb2); (try clear hk); (try clear hi)))
 (try simp only [Act.put, List.setIfInBounds_toArray, List.set_cons_zero, List.set_cons_succ])
 go_cut [22] (fun v22 wc => ∃ (kq : Nat) (x22_3 : Bool), v22 = .bool x22_3 ∧ Aside0 (laganref04_Without.j0 kq a1 t727 x22_3 l0_0 l0_1 l0_2 = some (r1, r2, r3, r4)) ∧ Aside0 (kq ≤ k) ∧ Aside0 (wc.heap[gb725]? = some (.cells #[(.slice A0_0 l0_0.length c0_0), (.slice A0_1 l0_1.length c0_1), (.slice A0_2 l0_2.length c0_2)] 26 (0, 0))) ∧ Aside0 (wc.heap[gb726]? = some (.cells #[(.slice none 0 0), (.slice none 0 0), (.slice none 0 0)] 26 (0, 0))) ∧ Aside0 (Below w.heap.size w wc))
 case first =>
  have H := HC4.out
  clear HC4
  by_cases c10 : t727 = 0
  rotate_left
  ·
   rw [if_neg c10] at H
   have c10b0 : (t727 == 0) = false := beq_eq_false_iff_ne.mpr c10
   have c10b1 : (t727 != 0) = true := bne_iff_ne.mpr c10
   (first | rw [c10b0] | (simp only [i64_w, i32_w]; rw [c10b0]) | skip)
   have H' := Aside0.mk H
   clear H
   go_wp2
   go_meet
   case rel => exact ⟨_, (false), (by first | rfl | (simp; done) | (simp [*]; done)), H', ⟨by first | omega | exact Nat.le_refl _⟩, ⟨by (with_reducible repeat (first | refine blk_drewN ?_ _ | refine blk_drew ?_ | refine blk_alloc ?_ _)); exact BK725.out⟩, ⟨by (with_reducible repeat (first | refine blk_drewN ?_ _ | refine blk_drew ?_ | refine blk_alloc ?_ _)); exact BK726.out⟩, ⟨by repeat (first | (with_reducible first | exact HB.out | apply below_alloc | apply pw_below_drewN | apply below_drew1 | refine below_set ?_ GE725.out | refine below_set ?_ GE726.out) | exact HB.out)⟩⟩
  rw [if_pos c10] at H
  have c10b0 : (t727 == 0) = true := beq_iff_eq.mpr c10
  have c10b1 : (t727 != 0) = false := bne_eq_false_iff_eq.mpr c10
  clear c10
  (first | rw [c10b0] | (simp only [i64_w, i32_w]; rw [c10b0]) | skip)
  by_cases c11 : a1 < 0
  ·
   rw [if_pos c11] at H
   have c11b0 : decide (a1 < 0) = true := decide_eq_true c11
   clear c11
   have H' := Aside0.mk H
   clear H
   go_wp2
   go_meet
   case rel => exact ⟨_, (true), (by first | rfl | (simp; done) | (simp [*]; done)), H', ⟨by first | omega | exact Nat.le_refl _⟩, ⟨by (with_reducible repeat (first | refine blk_drewN ?_ _ | refine blk_drew ?_ | refine blk_alloc ?_ _)); exact BK725.out⟩, ⟨by (with_reducible repeat (first | refine blk_drewN ?_ _ | refine blk_drew ?_ | refine blk_alloc ?_ _)); exact BK726.out⟩, ⟨by repeat (first | (with_reducible first | exact HB.out | apply below_alloc | apply pw_below_drewN | apply below_drew1 | refine below_set ?_ GE725.out | refine below_set ?_ GE726.out) | exact HB.out)⟩⟩
  rw [if_neg c11] at H
  have c11b0 : decide (a1 < 0) = false := decide_eq_false c11
  clear c11
  have H' := Aside0.mk H
  clear H
  have hnb12 := NB725_726.out
  have hnc12 := NB726_725.out
  have hcz13_0 : w9.cell? ⟨gb725, 0, none⟩ = some (.slice A0_0 l0_0.length c0_0) := (blk_cell BK725.out 0).trans rfl
  have hcz13_1 : w9.cell? ⟨gb725, 1, none⟩ = some (.slice A0_1 l0_1.length c0_1) := (blk_cell BK725.out 1).trans rfl
  have hcz13_2 : w9.cell? ⟨gb725, 2, none⟩ = some (.slice A0_2 l0_2.length c0_2) := (blk_cell BK725.out 2).trans rfl
  have hfz13_0 := blk_frozen BK725.out 0
  have hfz13_1 := blk_frozen BK725.out 1
  have hfz13_2 := blk_frozen BK725.out 2
  go_wp2
  go_meet
  case rel => exact ⟨_, (decide (a1 ≥ (l0_0.length : Int))), (by first | rfl | (simp; done) | (simp [*]; done)), H', ⟨by first | omega | exact Nat.le_refl _⟩, ⟨by (with_reducible repeat (first | refine blk_drewN ?_ _ | refine blk_drew ?_ | refine blk_alloc ?_ _)); exact BK725.out⟩, ⟨by (with_reducible repeat (first | refine blk_drewN ?_ _ | refine blk_drew ?_ | refine blk_alloc ?_ _)); exact BK726.out⟩, ⟨by repeat (first | (with_reducible first | exact HB.out | apply below_alloc | apply pw_below_drewN | apply below_drew1 | refine below_set ?_ GE725.out | refine below_set ?_ GE726.out) | exact HB.out)⟩⟩
 case rest =>
  clear HC4
  try clear c1
  try clear p2
  try clear c4
  try clear c7
  try clear c10
  try clear c10b0
  try clear c10b1
  try clear c11
  try clear c11b0
  try clear c12
  try clear hcz13_0
  try clear hcz13_1
  try clear hcz13_2
  try clear hcz8_0
  try clear hcz8_1
  try clear hcz8_2
  try clear hfz13_0
  try clear hfz13_1
  try clear hfz13_2
  try clear hfz8_0
  try clear hfz8_1
  try clear hfz8_2
  obtain ⟨kq, x22_3, rfl, HA, HJ3, BK725, BK726, HB⟩ := hcut
  cases kq with
  | zero => exact absurd HA.out (by simp [laganref04_Without.j0])
  | succ kj3 =>
   have H := HA.out
   clear HA
   simp only [laganref04_Without.j0] at H
   by_cases c14 : x22_3 = true
   ·
    subst c14
    have H1 : (if 1 = 0 then ((laganref04_Copied.f kj3 l0_0 l0_1 l0_2).bind fun bt728 => (if 0 ≤ a1 then (if a1 ≤ (bt728.1.length : Int) then (if 0 ≤ (wrap64 (a1 + 1)) then (if (wrap64 (a1 + 1)) ≤ (bt728.1.length : Int) then (if a1 ≤ (bt728.2.2.length : Int) then (if (wrap64 (a1 + 1)) ≤ (bt728.2.2.length : Int) then (some ((bt728.1.eraseIdx (a1 : Int).toNat), bt728.2.1, (bt728.2.2.eraseIdx (a1 : Int).toNat), 0)) else (none)) else (none)) else (none)) else (none)) else (none)) else (none))) else (some (([] : List Int), ([] : List (S50)), ([] : List (List Int)), 1))) = some (r1, r2, r3, r4) := by rw [if_pos rfl] at H; exact H
    clear H
    have H := H1
    clear H1
    by_cases c15 : 1 = 0
    rotate_left
    ·
     rw [if_neg c15] at H
     have c15b0 : (1 == 0) = false := beq_eq_false_iff_ne.mpr c15
     have c15b1 : (1 != 0) = true := bne_iff_ne.mpr c15
     simp only [Option.some.injEq, Prod.mk.injEq] at H
     obtain ⟨rfl, rfl, rfl, rfl⟩ := H
     have hnb52 := NB726_725.out
     have hnc52 := NB725_726.out
     have hcz53_0 : wc.cell? ⟨gb726, 0, none⟩ = some (.slice none 0 0) := (blk_cell BK726.out 0).trans rfl
     have hcz53_1 : wc.cell? ⟨gb726, 1, none⟩ = some (.slice none 0 0) := (blk_cell BK726.out 1).trans rfl
     have hcz53_2 : wc.cell? ⟨gb726, 2, none⟩ = some (.slice none 0 0) := (blk_cell BK726.out 2).trans rfl
     have hfz53_0 := blk_frozen BK726.out 0
     have hfz53_1 := blk_frozen BK726.out 1
     have hfz53_2 := blk_frozen BK726.out 2
     go_wp2
     refine bodyPost_ret (results_ct rfl _ _ gb726 26 #[.slice none 0 0, .slice none 0 0, .slice none 0 0] (0, 0) _ rfl (by (with_reducible repeat (first | refine blk_drewN ?_ _ | refine blk_drew ?_ | refine blk_alloc ?_ _)); refine blk_put (cs := #[.slice none 0 0, .slice none 0 0, .slice none 0 0]) ?_ 2 _ rfl; (with_reducible repeat (first | refine blk_drewN ?_ _ | refine blk_drew ?_ | refine blk_alloc ?_ _)); refine blk_put (cs := #[.slice none 0 0, .slice none 0 0, .slice none 0 0]) ?_ 1 _ rfl; (with_reducible repeat (first | refine blk_drewN ?_ _ | refine blk_drew ?_ | refine blk_alloc ?_ _)); refine blk_put (cs := #[.slice none 0 0, .slice none 0 0, .slice none 0 0]) ?_ 0 _ rfl; (with_reducible repeat (first | refine blk_drewN ?_ _ | refine blk_drew ?_ | refine blk_alloc ?_ _)); exact BK726.out) Try.underlying26 rfl (by kernel_rfl)) rfl ?_
     exact ⟨_, _, _, by first | rfl | (simp [errW_none, errW_some] <;> rfl) | (simp [*, errW_none, errW_some] <;> rfl), by first | exact Kd.R_nil _ _ _ _ _ | exact Kd.N_nil _ _ _ _ _ | exact Kd.V_nil _ _ _ _ _ | exact Kd.Q_nil _ _ _ _ _ | exact Kd.S_nil _ _ _ _ _, by first | exact Kd.R_nil _ _ _ _ _ | exact Kd.N_nil _ _ _ _ _ | exact Kd.V_nil _ _ _ _ _ | exact Kd.Q_nil _ _ _ _ _ | exact Kd.S_nil _ _ _ _ _, by first | exact Kd.S_nil _ _ _ _ _ | exact Kd.N_nil _ _ _ _ _ | exact Kd.V_nil _ _ _ _ _ | exact Kd.Q_nil _ _ _ _ _ | exact Kd.R_nil _ _ _ _ _, by repeat (first | (with_reducible first | exact HB.out | apply below_alloc | apply pw_below_drewN | apply below_drew1 | refine below_set ?_ GE725.out | refine below_set ?_ GE726.out) | exact HB.out)⟩
    rw [if_pos c15] at H
    have c15b0 : (1 == 0) = true := beq_iff_eq.mpr c15
    have c15b1 : (1 != 0) = false := bne_eq_false_iff_eq.mpr c15
    clear c15
    replace H := Option.bind_eq_some_iff.mp H
    obtain ⟨⟨t728, t731, t734⟩, A160, H⟩ := H
    replace H : (if 0 ≤ a1 then (if a1 ≤ (t728.length : Int) then (if 0 ≤ (wrap64 (a1 + 1)) then (if (wrap64 (a1 + 1)) ≤ (t728.length : Int) then (if a1 ≤ (t734.length : Int) then (if (wrap64 (a1 + 1)) ≤ (t734.length : Int) then (some ((t728.eraseIdx (a1 : Int).toNat), t731, (t734.eraseIdx (a1 : Int).toNat), 0)) else (none)) else (none)) else (none)) else (none)) else (none)) else (none)) = some (r1, r2, r3, r4) := H
    have A16 := Aside0.mk A160
    clear A160
    by_cases c17 : 0 ≤ a1
    rotate_left
    ·
     rw [if_neg c17] at H
     exact absurd H (by simp)
    rw [if_pos c17] at H
    have c17b0 := eq_true c17
    have c17b1 : decide (0 ≤ a1) = true := decide_eq_true c17
    clear c17
    by_cases c18 : a1 ≤ (t728.length : Int)
    rotate_left
    ·
     rw [if_neg c18] at H
     exact absurd H (by simp)
    rw [if_pos c18] at H
    have c18b0 := eq_true c18
    have c18b1 : decide (a1 ≤ (t728.length : Int)) = true := decide_eq_true c18
    clear c18
    obtain ⟨y738, hy738⟩ : ∃ y_ : List Int, y_ = (t728.take (a1 : Int).toNat) := ⟨_, rfl⟩
    replace H : (if 0 ≤ (wrap64 (a1 + 1)) then (if (wrap64 (a1 + 1)) ≤ (t728.length : Int) then (if a1 ≤ (t734.length : Int) then (if (wrap64 (a1 + 1)) ≤ (t734.length : Int) then (some ((t728.eraseIdx (a1 : Int).toNat), t731, (t734.eraseIdx (a1 : Int).toNat), 0)) else (none)) else (none)) else (none)) else (none)) = some (r1, r2, r3, r4) := by first | (rw [hy738]; with_reducible exact H) | (have H2_ := (Option.bind_some _ _).symm.trans H; rw [hy738]; with_reducible exact H2_) | (have H2_ := (Option.bind_some _ _).symm.trans H; with_reducible exact H2_) | with_reducible exact H | (rw [hy738]; exact H) | exact H
    have Ny738 := Aside0.mk hy738
    clear hy738
    obtain ⟨ji19, hji19⟩ : ∃ j_ : Int, (wrap64 (a1 + 1)) = j_ := ⟨_, rfl⟩
    replace H : (if 0 ≤ (ji19) then (if (ji19) ≤ (t728.length : Int) then (if a1 ≤ (t734.length : Int) then (if (ji19) ≤ (t734.length : Int) then (some ((t728.eraseIdx (a1 : Int).toNat), t731, (t734.eraseIdx (a1 : Int).toNat), 0)) else (none)) else (none)) else (none)) else (none)) = some (r1, r2, r3, r4) := by first | (rw [hji19] at H; exact H) | (simp only [hji19] at H ⊢; exact H)
    (try rw [hji19] at A16)
    have hji19w : (IntKind.i64.wrap (a1 + 1)) = ji19 := (i64_w _).trans hji19
    by_cases c20 : 0 ≤ (ji19)
    rotate_left
    ·
     rw [if_neg c20] at H
     exact absurd H (by simp)
    rw [if_pos c20] at H
    have c20b0 := eq_true c20
    have c20b1 : decide (0 ≤ (ji19)) = true := decide_eq_true c20
    clear c20
    by_cases c21 : (ji19) ≤ (t728.length : Int)
    rotate_left
    ·
     rw [if_neg c21] at H
     exact absurd H (by simp)
    rw [if_pos c21] at H
    have c21b0 := eq_true c21
    have c21b1 : decide ((ji19) ≤ (t728.length : Int)) = true := decide_eq_true c21
    clear c21
    obtain ⟨y742, hy742⟩ : ∃ y_ : List Int, y_ = (t728.drop ((ji19) : Int).toNat) := ⟨_, rfl⟩
    replace H : (if a1 ≤ (t734.length : Int) then (if (ji19) ≤ (t734.length : Int) then (some ((t728.eraseIdx (a1 : Int).toNat), t731, (t734.eraseIdx (a1 : Int).toNat), 0)) else (none)) else (none)) = some (r1, r2, r3, r4) := by first | (rw [hy742]; with_reducible exact H) | (have H2_ := (Option.bind_some _ _).symm.trans H; rw [hy742]; with_reducible exact H2_) | (have H2_ := (Option.bind_some _ _).symm.trans H; with_reducible exact H2_) | with_reducible exact H | (rw [hy742]; exact H) | exact H
    have Ny742 := Aside0.mk hy742
    clear hy742
    obtain ⟨y746, hy746⟩ : ∃ y_ : List Int, y_ = (t728.eraseIdx (a1 : Int).toNat) := ⟨_, rfl⟩
    replace H : (if a1 ≤ (t734.length : Int) then (if (ji19) ≤ (t734.length : Int) then (some (y746, t731, (t734.eraseIdx (a1 : Int).toNat), 0)) else (none)) else (none)) = some (r1, r2, r3, r4) := by first | (rw [hy746]; with_reducible exact H) | (have H2_ := (Option.bind_some _ _).symm.trans H; rw [hy746]; with_reducible exact H2_) | (have H2_ := (Option.bind_some _ _).symm.trans H; with_reducible exact H2_) | with_reducible exact H | (rw [hy746]; exact H) | exact H
    have Ny746 := Aside0.mk hy746
    clear hy746
    have c22b0 := eq_true (of_decide_eq_true (by first | (with_reducible assumption) | assumption) : 0 ≤ a1)
    by_cases c23 : a1 ≤ (t734.length : Int)
    rotate_left
    ·
     rw [if_neg c23] at H
     exact absurd H (by simp)
    rw [if_pos c23] at H
    have c23b0 := eq_true c23
    have c23b1 : decide (a1 ≤ (t734.length : Int)) = true := decide_eq_true c23
    clear c23
    obtain ⟨y749, hy749⟩ : ∃ y_ : List (List Int), y_ = (t734.take (a1 : Int).toNat) := ⟨_, rfl⟩
    replace H : (if (ji19) ≤ (t734.length : Int) then (some (y746, t731, (t734.eraseIdx (a1 : Int).toNat), 0)) else (none)) = some (r1, r2, r3, r4) := by first | (rw [hy749]; with_reducible exact H) | (have H2_ := (Option.bind_some _ _).symm.trans H; rw [hy749]; with_reducible exact H2_) | (have H2_ := (Option.bind_some _ _).symm.trans H; with_reducible exact H2_) | with_reducible exact H | (rw [hy749]; exact H) | exact H
    have Ny749 := Aside0.mk hy749
    clear hy749
    have c24b0 := eq_true (of_decide_eq_true (by first | (with_reducible assumption) | assumption) : 0 ≤ (ji19))
    by_cases c25 : (ji19) ≤ (t734.length : Int)
    rotate_left
    ·
     rw [if_neg c25] at H
     exact absurd H (by simp)
    rw [if_pos c25] at H
    have c25b0 := eq_true c25
    have c25b1 : decide ((ji19) ≤ (t734.length : Int)) = true := decide_eq_true c25
    clear c25
    obtain ⟨y753, hy753⟩ : ∃ y_ : List (List Int), y_ = (t734.drop ((ji19) : Int).toNat) := ⟨_, rfl⟩
    replace H : (some (y746, t731, (t734.eraseIdx (a1 : Int).toNat), 0)) = some (r1, r2, r3, r4) := by first | (rw [hy753]; with_reducible exact H) | (have H2_ := (Option.bind_some _ _).symm.trans H; rw [hy753]; with_reducible exact H2_) | (have H2_ := (Option.bind_some _ _).symm.trans H; with_reducible exact H2_) | with_reducible exact H | (rw [hy753]; exact H) | exact H
    have Ny753 := Aside0.mk hy753
    clear hy753
    obtain ⟨y757, hy757⟩ : ∃ y_ : List (List Int), y_ = (t734.eraseIdx (a1 : Int).toNat) := ⟨_, rfl⟩
    replace H : (some (y746, t731, y757, 0)) = some (r1, r2, r3, r4) := by first | (rw [hy757]; with_reducible exact H) | (have H2_ := (Option.bind_some _ _).symm.trans H; rw [hy757]; with_reducible exact H2_) | (have H2_ := (Option.bind_some _ _).symm.trans H; with_reducible exact H2_) | with_reducible exact H | (rw [hy757]; exact H) | exact H
    have Ny757 := Aside0.mk hy757
    clear hy757
    simp only [Option.some.injEq, Prod.mk.injEq] at H
    obtain ⟨rfl, rfl, rfl, rfl⟩ := H
    have hnb26 := NB725_726.out
    have hnc26 := NB726_725.out
    have hcz27_0 : wc.cell? ⟨gb725, 0, none⟩ = some (.slice A0_0 l0_0.length c0_0) := (blk_cell BK725.out 0).trans rfl
    have hcz27_1 : wc.cell? ⟨gb725, 1, none⟩ = some (.slice A0_1 l0_1.length c0_1) := (blk_cell BK725.out 1).trans rfl
    have hcz27_2 : wc.cell? ⟨gb725, 2, none⟩ = some (.slice A0_2 l0_2.length c0_2) := (blk_cell BK725.out 2).trans rfl
    have hfz27_0 := blk_frozen BK725.out 0
    have hfz27_1 := blk_frozen BK725.out 1
    have hfz27_2 := blk_frozen BK725.out 2
    try go_wp2_with (first | ((with_reducible refine gate_callee (f := 26) rfl ?_); refine goesL_ (some 28) rfl rfl Try.func26 (by kernel_rfl) rfl #[.agg #[.slice A0_0 l0_0.length c0_0, .slice A0_1 l0_1.length c0_1, .slice A0_2 l0_2.length c0_2]] rfl (by (try simp only [List.map_toArray, List.map_cons, List.map_nil]); first | done | rfl | (simp only [List.length_drop, List.length_take]; rfl)) ?_; (with_reducible refine (laganref04_Copied.calls kj3 _ _ l0_0 _ _ l0_1 _ _ l0_2 t728 t731 t734 _ ?side1 ?side2 ?side3 ?side4 ?side5 ?side6 A16.out).mono ?_); (case side1 => repeat (first | exact (Kd.C_below HR0_0.out HB.out) | (with_reducible refine Kd.C_alloc ?_ _) | (with_reducible refine Kd.C_drewN ?_ _) | (with_reducible refine Kd.C_drew ?_))); (case side2 => exact HC0_0.out); (case side3 => repeat (first | exact (Kd.C_below HR0_1.out HB.out) | (with_reducible refine Kd.C_alloc ?_ _) | (with_reducible refine Kd.C_drewN ?_ _) | (with_reducible refine Kd.C_drew ?_))); (case side4 => exact HC0_1.out); (case side5 => repeat (first | exact (Kd.C_below HR0_2.out HB.out) | (with_reducible refine Kd.C_alloc ?_ _) | (with_reducible refine Kd.C_drewN ?_ _) | (with_reducible refine Kd.C_drew ?_))); (case side6 => exact HC0_2.out); rintro e w28 ⟨v729, v732, v735, rfl, ho0, ho1, ho2, hb⟩; refine ⟨_, rfl, ?_⟩; have n0_ := Aside0.mk (Kd.R_lower ho0 (below_size (by repeat (first | (with_reducible first | exact HB.out | apply below_alloc | apply pw_below_drewN | apply below_drew1 | refine below_set ?_ GE725.out | refine below_set ?_ GE726.out) | exact HB.out)))); have n1_ := Aside0.mk (Kd.R_lower ho1 (below_size (by repeat (first | (with_reducible first | exact HB.out | apply below_alloc | apply pw_below_drewN | apply below_drew1 | refine below_set ?_ GE725.out | refine below_set ?_ GE726.out) | exact HB.out)))); have n2_ := Aside0.mk (Kd.S_lower ho2 (below_size (by repeat (first | (with_reducible first | exact HB.out | apply below_alloc | apply pw_below_drewN | apply below_drew1 | refine below_set ?_ GE725.out | refine below_set ?_ GE726.out) | exact HB.out)))); have n3_ := Aside0.mk (blk_below (g := gb725) (o := .cells #[.slice A0_0 l0_0.length c0_0, .slice A0_1 l0_1.length c0_1, .slice A0_2 l0_2.length c0_2] 26 (0, 0)) (by (with_reducible repeat (first | refine blk_drewN ?_ _ | refine blk_drew ?_ | refine blk_alloc ?_ _)); exact BK725.out) hb); have n4_ := Aside0.mk (blk_below (g := gb726) (o := .cells #[.slice none 0 0, .slice none 0 0, .slice none 0 0] 26 (0, 0)) (by (with_reducible repeat (first | refine blk_drewN ?_ _ | refine blk_drew ?_ | refine blk_alloc ?_ _)); exact BK726.out) hb); have n5_ := Aside0.mk (below_step (by repeat (first | (with_reducible first | exact HB.out | apply below_alloc | apply pw_below_drewN | apply below_drew1 | refine below_set ?_ GE725.out | refine below_set ?_ GE726.out) | exact HB.out)) hb); clear BK725; clear BK726; clear HB; have HO730 := n0_; have HO733 := n1_; have HO736 := n2_; have BK725 := n3_; have BK726 := n4_; have HB := n5_; clear n0_ n1_ n2_ n3_ n4_ n5_; (try clear hb); (try clear hb2); (try clear hk); (try clear hi); (try clear ho0); (try clear ho1); (try clear ho2)) | ((with_reducible refine gate_dst (N := 7) rfl ?_); (try (refine gate_guard (by rfl) ?_; dsimp only)); refine box_event ?hg (N := 7) ?hd (cs := #[.slice none 0 0, .slice none 0 0, .slice none 0 0]) (t := 26) ?hr ?_; (case hd => rfl); (case hg => rfl); (case hr => first | (go_simp; done) | (go_simp; rfl)); intro gb737 hg w29 hbox hb; have n0_ := Aside0.mk (Kd.R_below (by (with_reducible repeat (first | apply Kd.R_alloc | apply Kd.R_drewN | apply Kd.R_drew)); exact HO730.out) hb); have n1_ := Aside0.mk (Kd.R_below (by (with_reducible repeat (first | apply Kd.R_alloc | apply Kd.R_drewN | apply Kd.R_drew)); exact HO733.out) hb); have n2_ := Aside0.mk (Kd.S_below (by (with_reducible repeat (first | apply Kd.S_alloc | apply Kd.S_drewN | apply Kd.S_drew)); exact HO736.out) hb); have n3_ := Aside0.mk (blk_below (g := gb725) (o := .cells #[.slice A0_0 l0_0.length c0_0, .slice A0_1 l0_1.length c0_1, .slice A0_2 l0_2.length c0_2] 26 (0, 0)) (by (with_reducible repeat (first | refine blk_drewN ?_ _ | refine blk_drew ?_ | refine blk_alloc ?_ _)); exact BK725.out) hb); have n4_ := Aside0.mk (blk_below (g := gb726) (o := .cells #[.slice none 0 0, .slice none 0 0, .slice none 0 0] 26 (0, 0)) (by (with_reducible repeat (first | refine blk_drewN ?_ _ | refine blk_drew ?_ | refine blk_alloc ?_ _)); exact BK726.out) hb); have n5_ := Aside0.mk (below_step (by repeat (first | (with_reducible first | exact HB.out | apply below_alloc | apply pw_below_drewN | apply below_drew1 | refine below_set ?_ GE725.out | refine below_set ?_ GE726.out) | exact HB.out)) hb); have n6_ := Aside0.mk (hbox); have n7_ := Aside0.mk ((by rw [hg]; exact (below_size (by repeat (first | (with_reducible first | exact HB.out | apply below_alloc | apply pw_below_drewN | apply below_drew1 | refine below_set ?_ GE725.out | refine below_set ?_ GE726.out) | exact HB.out))) : w.heap.size ≤ gb737)); have n8_ := Aside0.mk ((by rw [hg]; exact (below_size (by repeat (first | (with_reducible first | exact HB.out | apply below_alloc | apply pw_below_drewN | apply below_drew1 | refine below_set ?_ GE725.out | refine below_set ?_ GE726.out) | exact HB.out))) : w.heap.size ≤ gb737)); have n9_ := Aside0.mk ((by rw [hg]; exact Nat.ne_of_lt (blk_lt (g := gb725) (o := .cells #[.slice A0_0 l0_0.length c0_0, .slice A0_1 l0_1.length c0_1, .slice A0_2 l0_2.length c0_2] 26 (0, 0)) (by (with_reducible repeat (first | refine blk_drewN ?_ _ | refine blk_drew ?_ | refine blk_alloc ?_ _)); exact BK725.out)) : gb725 ≠ gb737)); have n10_ := Aside0.mk ((by rw [hg]; exact Nat.ne_of_gt (blk_lt (g := gb725) (o := .cells #[.slice A0_0 l0_0.length c0_0, .slice A0_1 l0_1.length c0_1, .slice A0_2 l0_2.length c0_2] 26 (0, 0)) (by (with_reducible repeat (first | refine blk_drewN ?_ _ | refine blk_drew ?_ | refine blk_alloc ?_ _)); exact BK725.out)) : gb737 ≠ gb725)); have n11_ := Aside0.mk ((by rw [hg]; exact Nat.ne_of_lt (blk_lt (g := gb726) (o := .cells #[.slice none 0 0, .slice none 0 0, .slice none 0 0] 26 (0, 0)) (by (with_reducible repeat (first | refine blk_drewN ?_ _ | refine blk_drew ?_ | refine blk_alloc ?_ _)); exact BK726.out)) : gb726 ≠ gb737)); have n12_ := Aside0.mk ((by rw [hg]; exact Nat.ne_of_gt (blk_lt (g := gb726) (o := .cells #[.slice none 0 0, .slice none 0 0, .slice none 0 0] 26 (0, 0)) (by (with_reducible repeat (first | refine blk_drewN ?_ _ | refine blk_drew ?_ | refine blk_alloc ?_ _)); exact BK726.out)) : gb737 ≠ gb726)); clear HO730; clear HO733; clear HO736; clear BK725; clear BK726; clear HB; have HO730 := n0_; have HO733 := n1_; have HO736 := n2_; have BK725 := n3_; have BK726 := n4_; have HB := n5_; have BK737 := n6_; have GW737 := n7_; have GE737 := n8_; have NB725_737 := n9_; have NB737_725 := n10_; have NB726_737 := n11_; have NB737_726 := n12_; clear n0_ n1_ n2_ n3_ n4_ n5_ n6_ n7_ n8_ n9_ n10_ n11_ n12_; clear hb hbox hg; obtain ⟨Ao30, co30, eo30⟩ := Kd.R_slice HO730.out; subst eo30; have hnb31 := NB737_725.out; have hnc31 := NB725_737.out; have hnb32 := NB737_726.out; have hnc32 := NB726_737.out; have hcz33_0 : w29.cell? ⟨gb737, 0, none⟩ = some (.slice none 0 0) := (blk_cell BK737.out 0).trans rfl; have hcz33_1 : w29.cell? ⟨gb737, 1, none⟩ = some (.slice none 0 0) := (blk_cell BK737.out 1).trans rfl; have hcz33_2 : w29.cell? ⟨gb737, 2, none⟩ = some (.slice none 0 0) := (blk_cell BK737.out 2).trans rfl; have hfz33_0 := blk_frozen BK737.out 0; have hfz33_1 := blk_frozen BK737.out 1; have hfz33_2 := blk_frozen BK737.out 2; obtain ⟨Ao34, co34, eo34⟩ := Kd.R_slice HO733.out; subst eo34; obtain ⟨Ao35, co35, eo35⟩ := Kd.S_slice HO736.out; subst eo35))
   replace c14 := Bool.eq_false_iff.mpr c14
   subst c14
   have H1 : (if t727 = 0 then ((laganref04_Copied.f kj3 l0_0 l0_1 l0_2).bind fun bt760 => (if 0 ≤ a1 then (if a1 ≤ (bt760.1.length : Int) then (if 0 ≤ (wrap64 (a1 + 1)) then (if (wrap64 (a1 + 1)) ≤ (bt760.1.length : Int) then (if a1 ≤ (bt760.2.2.length : Int) then (if (wrap64 (a1 + 1)) ≤ (bt760.2.2.length : Int) then (some ((bt760.1.eraseIdx (a1 : Int).toNat), bt760.2.1, (bt760.2.2.eraseIdx (a1 : Int).toNat), 0)) else (none)) else (none)) else (none)) else (none)) else (none)) else (none))) else (some (([] : List Int), ([] : List (S50)), ([] : List (List Int)), t727))) = some (r1, r2, r3, r4) := by rw [if_neg (show ¬ (false = true) by decide)] at H; exact H
   clear H
   have H := H1
   clear H1
   by_cases c54 : t727 = 0
   rotate_left
   ·
    rw [if_neg c54] at H
    have c54b0 : (t727 == 0) = false := beq_eq_false_iff_ne.mpr c54
    have c54b1 : (t727 != 0) = true := bne_iff_ne.mpr c54
    simp only [Option.some.injEq, Prod.mk.injEq] at H
    obtain ⟨rfl, rfl, rfl, rfl⟩ := H
    have hnb91 := NB726_725.out
    have hnc91 := NB725_726.out
    have hcz92_0 : wc.cell? ⟨gb726, 0, none⟩ = some (.slice none 0 0) := (blk_cell BK726.out 0).trans rfl
    have hcz92_1 : wc.cell? ⟨gb726, 1, none⟩ = some (.slice none 0 0) := (blk_cell BK726.out 1).trans rfl
    have hcz92_2 : wc.cell? ⟨gb726, 2, none⟩ = some (.slice none 0 0) := (blk_cell BK726.out 2).trans rfl
    have hfz92_0 := blk_frozen BK726.out 0
    have hfz92_1 := blk_frozen BK726.out 1
    have hfz92_2 := blk_frozen BK726.out 2
    go_wp2
    refine bodyPost_ret (results_ct rfl _ _ gb726 26 #[.slice none 0 0, .slice none 0 0, .slice none 0 0] (0, 0) _ rfl (by (with_reducible repeat (first | refine blk_drewN ?_ _ | refine blk_drew ?_ | refine blk_alloc ?_ _)); refine blk_put (cs := #[.slice none 0 0, .slice none 0 0, .slice none 0 0]) ?_ 2 _ rfl; (with_reducible repeat (first | refine blk_drewN ?_ _ | refine blk_drew ?_ | refine blk_alloc ?_ _)); refine blk_put (cs := #[.slice none 0 0, .slice none 0 0, .slice none 0 0]) ?_ 1 _ rfl; (with_reducible repeat (first | refine blk_drewN ?_ _ | refine blk_drew ?_ | refine blk_alloc ?_ _)); refine blk_put (cs := #[.slice none 0 0, .slice none 0 0, .slice none 0 0]) ?_ 0 _ rfl; (with_reducible repeat (first | refine blk_drewN ?_ _ | refine blk_drew ?_ | refine blk_alloc ?_ _)); exact BK726.out) Try.underlying26 rfl (by kernel_rfl)) rfl ?_
    exact ⟨_, _, _, by first | rfl | (simp [errW_none, errW_some] <;> rfl) | (simp [*, errW_none, errW_some] <;> rfl), by first | exact Kd.R_nil _ _ _ _ _ | exact Kd.N_nil _ _ _ _ _ | exact Kd.V_nil _ _ _ _ _ | exact Kd.Q_nil _ _ _ _ _ | exact Kd.S_nil _ _ _ _ _, by first | exact Kd.R_nil _ _ _ _ _ | exact Kd.N_nil _ _ _ _ _ | exact Kd.V_nil _ _ _ _ _ | exact Kd.Q_nil _ _ _ _ _ | exact Kd.S_nil _ _ _ _ _, by first | exact Kd.S_nil _ _ _ _ _ | exact Kd.N_nil _ _ _ _ _ | exact Kd.V_nil _ _ _ _ _ | exact Kd.Q_nil _ _ _ _ _ | exact Kd.R_nil _ _ _ _ _, by repeat (first | (with_reducible first | exact HB.out | apply below_alloc | apply pw_below_drewN | apply below_drew1 | refine below_set ?_ GE725.out | refine below_set ?_ GE726.out) | exact HB.out)⟩
   rw [if_pos c54] at H
   have c54b0 : (t727 == 0) = true := beq_iff_eq.mpr c54
   have c54b1 : (t727 != 0) = false := bne_eq_false_iff_eq.mpr c54
   clear c54
   replace H := Option.bind_eq_some_iff.mp H
   obtain ⟨⟨t760, t763, t766⟩, A550, H⟩ := H
   replace H : (if 0 ≤ a1 then (if a1 ≤ (t760.length : Int) then (if 0 ≤ (wrap64 (a1 + 1)) then (if (wrap64 (a1 + 1)) ≤ (t760.length : Int) then (if a1 ≤ (t766.length : Int) then (if (wrap64 (a1 + 1)) ≤ (t766.length : Int) then (some ((t760.eraseIdx (a1 : Int).toNat), t763, (t766.eraseIdx (a1 : Int).toNat), 0)) else (none)) else (none)) else (none)) else (none)) else (none)) else (none)) = some (r1, r2, r3, r4) := H
   have A55 := Aside0.mk A550
   clear A550
   by_cases c56 : 0 ≤ a1
   rotate_left
   ·
    rw [if_neg c56] at H
    exact absurd H (by simp)
   rw [if_pos c56] at H
   have c56b0 := eq_true c56
   have c56b1 : decide (0 ≤ a1) = true := decide_eq_true c56
   clear c56
   by_cases c57 : a1 ≤ (t760.length : Int)
   rotate_left
   ·
    rw [if_neg c57] at H
    exact absurd H (by simp)
   rw [if_pos c57] at H
   have c57b0 := eq_true c57
   have c57b1 : decide (a1 ≤ (t760.length : Int)) = true := decide_eq_true c57
   clear c57
   obtain ⟨y770, hy770⟩ : ∃ y_ : List Int, y_ = (t760.take (a1 : Int).toNat) := ⟨_, rfl⟩
   replace H : (if 0 ≤ (wrap64 (a1 + 1)) then (if (wrap64 (a1 + 1)) ≤ (t760.length : Int) then (if a1 ≤ (t766.length : Int) then (if (wrap64 (a1 + 1)) ≤ (t766.length : Int) then (some ((t760.eraseIdx (a1 : Int).toNat), t763, (t766.eraseIdx (a1 : Int).toNat), 0)) else (none)) else (none)) else (none)) else (none)) = some (r1, r2, r3, r4) := by first | (rw [hy770]; with_reducible exact H) | (have H2_ := (Option.bind_some _ _).symm.trans H; rw [hy770]; with_reducible exact H2_) | (have H2_ := (Option.bind_some _ _).symm.trans H; with_reducible exact H2_) | with_reducible exact H | (rw [hy770]; exact H) | exact H
   have Ny770 := Aside0.mk hy770
   clear hy770
   obtain ⟨ji58, hji58⟩ : ∃ j_ : Int, (wrap64 (a1 + 1)) = j_ := ⟨_, rfl⟩
   replace H : (if 0 ≤ (ji58) then (if (ji58) ≤ (t760.length : Int) then (if a1 ≤ (t766.length : Int) then (if (ji58) ≤ (t766.length : Int) then (some ((t760.eraseIdx (a1 : Int).toNat), t763, (t766.eraseIdx (a1 : Int).toNat), 0)) else (none)) else (none)) else (none)) else (none)) = some (r1, r2, r3, r4) := by first | (rw [hji58] at H; exact H) | (simp only [hji58] at H ⊢; exact H)
   (try rw [hji58] at A55)
   have hji58w : (IntKind.i64.wrap (a1 + 1)) = ji58 := (i64_w _).trans hji58
   by_cases c59 : 0 ≤ (ji58)
   rotate_left
   ·
    rw [if_neg c59] at H
    exact absurd H (by simp)
   rw [if_pos c59] at H
   have c59b0 := eq_true c59
   have c59b1 : decide (0 ≤ (ji58)) = true := decide_eq_true c59
   clear c59
   by_cases c60 : (ji58) ≤ (t760.length : Int)
   rotate_left
   ·
    rw [if_neg c60] at H
    exact absurd H (by simp)
   rw [if_pos c60] at H
   have c60b0 := eq_true c60
   have c60b1 : decide ((ji58) ≤ (t760.length : Int)) = true := decide_eq_true c60
   clear c60
   obtain ⟨y774, hy774⟩ : ∃ y_ : List Int, y_ = (t760.drop ((ji58) : Int).toNat) := ⟨_, rfl⟩
   replace H : (if a1 ≤ (t766.length : Int) then (if (ji58) ≤ (t766.length : Int) then (some ((t760.eraseIdx (a1 : Int).toNat), t763, (t766.eraseIdx (a1 : Int).toNat), 0)) else (none)) else (none)) = some (r1, r2, r3, r4) := by first | (rw [hy774]; with_reducible exact H) | (have H2_ := (Option.bind_some _ _).symm.trans H; rw [hy774]; with_reducible exact H2_) | (have H2_ := (Option.bind_some _ _).symm.trans H; with_reducible exact H2_) | with_reducible exact H | (rw [hy774]; exact H) | exact H
   have Ny774 := Aside0.mk hy774
   clear hy774
   obtain ⟨y778, hy778⟩ : ∃ y_ : List Int, y_ = (t760.eraseIdx (a1 : Int).toNat) := ⟨_, rfl⟩
   replace H : (if a1 ≤ (t766.length : Int) then (if (ji58) ≤ (t766.length : Int) then (some (y778, t763, (t766.eraseIdx (a1 : Int).toNat), 0)) else (none)) else (none)) = some (r1, r2, r3, r4) := by first | (rw [hy778]; with_reducible exact H) | (have H2_ := (Option.bind_some _ _).symm.trans H; rw [hy778]; with_reducible exact H2_) | (have H2_ := (Option.bind_some _ _).symm.trans H; with_reducible exact H2_) | with_reducible exact H | (rw [hy778]; exact H) | exact H
   have Ny778 := Aside0.mk hy778
   clear hy778
   have c61b0 := eq_true (of_decide_eq_true (by first | (with_reducible assumption) | assumption) : 0 ≤ a1)
   by_cases c62 : a1 ≤ (t766.length : Int)
   rotate_left
   ·
    rw [if_neg c62] at H
    exact absurd H (by simp)
   rw [if_pos c62] at H
   have c62b0 := eq_true c62
   have c62b1 : decide (a1 ≤ (t766.length : Int)) = true := decide_eq_true c62
   clear c62
   obtain ⟨y781, hy781⟩ : ∃ y_ : List (List Int), y_ = (t766.take (a1 : Int).toNat) := ⟨_, rfl⟩
   replace H : (if (ji58) ≤ (t766.length : Int) then (some (y778, t763, (t766.eraseIdx (a1 : Int).toNat), 0)) else (none)) = some (r1, r2, r3, r4) := by first | (rw [hy781]; with_reducible exact H) | (have H2_ := (Option.bind_some _ _).symm.trans H; rw [hy781]; with_reducible exact H2_) | (have H2_ := (Option.bind_some _ _).symm.trans H; with_reducible exact H2_) | with_reducible exact H | (rw [hy781]; exact H) | exact H
   have Ny781 := Aside0.mk hy781
   clear hy781
   have c63b0 := eq_true (of_decide_eq_true (by first | (with_reducible assumption) | assumption) : 0 ≤ (ji58))
   by_cases c64 : (ji58) ≤ (t766.length : Int)
   rotate_left
   ·
    rw [if_neg c64] at H
    exact absurd H (by simp)
   rw [if_pos c64] at H
   have c64b0 := eq_true c64
   have c64b1 : decide ((ji58) ≤ (t766.length : Int)) = true := decide_eq_true c64
   clear c64
   obtain ⟨y785, hy785⟩ : ∃ y_ : List (List Int), y_ = (t766.drop ((ji58) : Int).toNat) := ⟨_, rfl⟩
   replace H : (some (y778, t763, (t766.eraseIdx (a1 : Int).toNat), 0)) = some (r1, r2, r3, r4) := by first | (rw [hy785]; with_reducible exact H) | (have H2_ := (Option.bind_some _ _).symm.trans H; rw [hy785]; with_reducible exact H2_) | (have H2_ := (Option.bind_some _ _).symm.trans H; with_reducible exact H2_) | with_reducible exact H | (rw [hy785]; exact H) | exact H
   have Ny785 := Aside0.mk hy785
   clear hy785
   obtain ⟨y789, hy789⟩ : ∃ y_ : List (List Int), y_ = (t766.eraseIdx (a1 : Int).toNat) := ⟨_, rfl⟩
   replace H : (some (y778, t763, y789, 0)) = some (r1, r2, r3, r4) := by first | (rw [hy789]; with_reducible exact H) | (have H2_ := (Option.bind_some _ _).symm.trans H; rw [hy789]; with_reducible exact H2_) | (have H2_ := (Option.bind_some _ _).symm.trans H; with_reducible exact H2_) | with_reducible exact H | (rw [hy789]; exact H) | exact H
   have Ny789 := Aside0.mk hy789
   clear hy789
   simp only [Option.some.injEq, Prod.mk.injEq] at H
   obtain ⟨rfl, rfl, rfl, rfl⟩ := H
   have hnb65 := NB725_726.out
   have hnc65 := NB726_725.out
   have hcz66_0 : wc.cell? ⟨gb725, 0, none⟩ = some (.slice A0_0 l0_0.length c0_0) := (blk_cell BK725.out 0).trans rfl
   have hcz66_1 : wc.cell? ⟨gb725, 1, none⟩ = some (.slice A0_1 l0_1.length c0_1) := (blk_cell BK725.out 1).trans rfl
   have hcz66_2 : wc.cell? ⟨gb725, 2, none⟩ = some (.slice A0_2 l0_2.length c0_2) := (blk_cell BK725.out 2).trans rfl
   have hfz66_0 := blk_frozen BK725.out 0
   have hfz66_1 := blk_frozen BK725.out 1
   have hfz66_2 := blk_frozen BK725.out 2
   try go_wp2_with (first | ((with_reducible refine gate_callee (f := 26) rfl ?_); refine goesL_ (some 28) rfl rfl Try.func26 (by kernel_rfl) rfl #[.agg #[.slice A0_0 l0_0.length c0_0, .slice A0_1 l0_1.length c0_1, .slice A0_2 l0_2.length c0_2]] rfl (by (try simp only [List.map_toArray, List.map_cons, List.map_nil]); first | done | rfl | (simp only [List.length_drop, List.length_take]; rfl)) ?_; (with_reducible refine (laganref04_Copied.calls kj3 _ _ l0_0 _ _ l0_1 _ _ l0_2 t760 t763 t766 _ ?side1 ?side2 ?side3 ?side4 ?side5 ?side6 A55.out).mono ?_); (case side1 => repeat (first | exact (Kd.C_below HR0_0.out HB.out) | (with_reducible refine Kd.C_alloc ?_ _) | (with_reducible refine Kd.C_drewN ?_ _) | (with_reducible refine Kd.C_drew ?_))); (case side2 => exact HC0_0.out); (case side3 => repeat (first | exact (Kd.C_below HR0_1.out HB.out) | (with_reducible refine Kd.C_alloc ?_ _) | (with_reducible refine Kd.C_drewN ?_ _) | (with_reducible refine Kd.C_drew ?_))); (case side4 => exact HC0_1.out); (case side5 => repeat (first | exact (Kd.C_below HR0_2.out HB.out) | (with_reducible refine Kd.C_alloc ?_ _) | (with_reducible refine Kd.C_drewN ?_ _) | (with_reducible refine Kd.C_drew ?_))); (case side6 => exact HC0_2.out); rintro e w67 ⟨v761, v764, v767, rfl, ho0, ho1, ho2, hb⟩; refine ⟨_, rfl, ?_⟩; have n0_ := Aside0.mk (Kd.R_lower ho0 (below_size (by repeat (first | (with_reducible first | exact HB.out | apply below_alloc | apply pw_below_drewN | apply below_drew1 | refine below_set ?_ GE725.out | refine below_set ?_ GE726.out) | exact HB.out)))); have n1_ := Aside0.mk (Kd.R_lower ho1 (below_size (by repeat (first | (with_reducible first | exact HB.out | apply below_alloc | apply pw_below_drewN | apply below_drew1 | refine below_set ?_ GE725.out | refine below_set ?_ GE726.out) | exact HB.out)))); have n2_ := Aside0.mk (Kd.S_lower ho2 (below_size (by repeat (first | (with_reducible first | exact HB.out | apply below_alloc | apply pw_below_drewN | apply below_drew1 | refine below_set ?_ GE725.out | refine below_set ?_ GE726.out) | exact HB.out)))); have n3_ := Aside0.mk (blk_below (g := gb725) (o := .cells #[.slice A0_0 l0_0.length c0_0, .slice A0_1 l0_1.length c0_1, .slice A0_2 l0_2.length c0_2] 26 (0, 0)) (by (with_reducible repeat (first | refine blk_drewN ?_ _ | refine blk_drew ?_ | refine blk_alloc ?_ _)); exact BK725.out) hb); have n4_ := Aside0.mk (blk_below (g := gb726) (o := .cells #[.slice none 0 0, .slice none 0 0, .slice none 0 0] 26 (0, 0)) (by (with_reducible repeat (first | refine blk_drewN ?_ _ | refine blk_drew ?_ | refine blk_alloc ?_ _)); exact BK726.out) hb); have n5_ := Aside0.mk (below_step (by repeat (first | (with_reducible first | exact HB.out | apply below_alloc | apply pw_below_drewN | apply below_drew1 | refine below_set ?_ GE725.out | refine below_set ?_ GE726.out) | exact HB.out)) hb); clear BK725; clear BK726; clear HB; have HO762 := n0_; have HO765 := n1_; have HO768 := n2_; have BK725 := n3_; have BK726 := n4_; have HB := n5_; clear n0_ n1_ n2_ n3_ n4_ n5_; (try clear hb); (try clear hb2); (try clear hk); (try clear hi); (try clear ho0); (try clear ho1); (try clear ho2)) | ((with_reducible refine gate_dst (N := 7) rfl ?_); (try (refine gate_guard (by rfl) ?_; dsimp only)); refine box_event ?hg (N := 7) ?hd (cs := #[.slice none 0 0, .slice none 0 0, .slice none 0 0]) (t := 26) ?hr ?_; (case hd => rfl); (case hg => rfl); (case hr => first | (go_simp; done) | (go_simp; rfl)); intro gb769 hg w68 hbox hb; have n0_ := Aside0.mk (Kd.R_below (by (with_reducible repeat (first | apply Kd.R_alloc | apply Kd.R_drewN | apply Kd.R_drew)); exact HO762.out) hb); have n1_ := Aside0.mk (Kd.R_below (by (with_reducible repeat (first | apply Kd.R_alloc | apply Kd.R_drewN | apply Kd.R_drew)); exact HO765.out) hb); have n2_ := Aside0.mk (Kd.S_below (by (with_reducible repeat (first | apply Kd.S_alloc | apply Kd.S_drewN | apply Kd.S_drew)); exact HO768.out) hb); have n3_ := Aside0.mk (blk_below (g := gb725) (o := .cells #[.slice A0_0 l0_0.length c0_0, .slice A0_1 l0_1.length c0_1, .slice A0_2 l0_2.length c0_2] 26 (0, 0)) (by (with_reducible repeat (first | refine blk_drewN ?_ _ | refine blk_drew ?_ | refine blk_alloc ?_ _)); exact BK725.out) hb); have n4_ := Aside0.mk (blk_below (g := gb726) (o := .cells #[.slice none 0 0, .slice none 0 0, .slice none 0 0] 26 (0, 0)) (by (with_reducible repeat (first | refine blk_drewN ?_ _ | refine blk_drew ?_ | refine blk_alloc ?_ _)); exact BK726.out) hb); have n5_ := Aside0.mk (below_step (by repeat (first | (with_reducible first | exact HB.out | apply below_alloc | apply pw_below_drewN | apply below_drew1 | refine below_set ?_ GE725.out | refine below_set ?_ GE726.out) | exact HB.out)) hb); have n6_ := Aside0.mk (hbox); have n7_ := Aside0.mk ((by rw [hg]; exact (below_size (by repeat (first | (with_reducible first | exact HB.out | apply below_alloc | apply pw_below_drewN | apply below_drew1 | refine below_set ?_ GE725.out | refine below_set ?_ GE726.out) | exact HB.out))) : w.heap.size ≤ gb769)); have n8_ := Aside0.mk ((by rw [hg]; exact (below_size (by repeat (first | (with_reducible first | exact HB.out | apply below_alloc | apply pw_below_drewN | apply below_drew1 | refine below_set ?_ GE725.out | refine below_set ?_ GE726.out) | exact HB.out))) : w.heap.size ≤ gb769)); have n9_ := Aside0.mk ((by rw [hg]; exact Nat.ne_of_lt (blk_lt (g := gb725) (o := .cells #[.slice A0_0 l0_0.length c0_0, .slice A0_1 l0_1.length c0_1, .slice A0_2 l0_2.length c0_2] 26 (0, 0)) (by (with_reducible repeat (first | refine blk_drewN ?_ _ | refine blk_drew ?_ | refine blk_alloc ?_ _)); exact BK725.out)) : gb725 ≠ gb769)); have n10_ := Aside0.mk ((by rw [hg]; exact Nat.ne_of_gt (blk_lt (g := gb725) (o := .cells #[.slice A0_0 l0_0.length c0_0, .slice A0_1 l0_1.length c0_1, .slice A0_2 l0_2.length c0_2] 26 (0, 0)) (by (with_reducible repeat (first | refine blk_drewN ?_ _ | refine blk_drew ?_ | refine blk_alloc ?_ _)); exact BK725.out)) : gb769 ≠ gb725)); have n11_ := Aside0.mk ((by rw [hg]; exact Nat.ne_of_lt (blk_lt (g := gb726) (o := .cells #[.slice none 0 0, .slice none 0 0, .slice none 0 0] 26 (0, 0)) (by (with_reducible repeat (first | refine blk_drewN ?_ _ | refine blk_drew ?_ | refine blk_alloc ?_ _)); exact BK726.out)) : gb726 ≠ gb769)); have n12_ := Aside0.mk ((by rw [hg]; exact Nat.ne_of_gt (blk_lt (g := gb726) (o := .cells #[.slice none 0 0, .slice none 0 0, .slice none 0 0] 26 (0, 0)) (by (with_reducible repeat (first | refine blk_drewN ?_ _ | refine blk_drew ?_ | refine blk_alloc ?_ _)); exact BK726.out)) : gb769 ≠ gb726)); clear HO762; clear HO765; clear HO768; clear BK725; clear BK726; clear HB; have HO762 := n0_; have HO765 := n1_; have HO768 := n2_; have BK725 := n3_; have BK726 := n4_; have HB := n5_; have BK769 := n6_; have GW769 := n7_; have GE769 := n8_; have NB725_769 := n9_; have NB769_725 := n10_; have NB726_769 := n11_; have NB769_726 := n12_; clear n0_ n1_ n2_ n3_ n4_ n5_ n6_ n7_ n8_ n9_ n10_ n11_ n12_; clear hb hbox hg; obtain ⟨Ao69, co69, eo69⟩ := Kd.R_slice HO762.out; subst eo69; have hnb70 := NB769_725.out; have hnc70 := NB725_769.out; have hnb71 := NB769_726.out; have hnc71 := NB726_769.out; have hcz72_0 : w68.cell? ⟨gb769, 0, none⟩ = some (.slice none 0 0) := (blk_cell BK769.out 0).trans rfl; have hcz72_1 : w68.cell? ⟨gb769, 1, none⟩ = some (.slice none 0 0) := (blk_cell BK769.out 1).trans rfl; have hcz72_2 : w68.cell? ⟨gb769, 2, none⟩ = some (.slice none 0 0) := (blk_cell BK769.out 2).trans rfl; have hfz72_0 := blk_frozen BK769.out 0; have hfz72_1 := blk_frozen BK769.out 1; have hfz72_2 := blk_frozen BK769.out 2; obtain ⟨Ao73, co73, eo73⟩ := Kd.R_slice HO765.out; subst eo73; obtain ⟨Ao74, co74, eo74⟩ := Kd.S_slice HO768.out; subst eo74))
   have n0_ : Aside0 (Kd.R (Kd.int .i64) 3 (((w68.setCell ⟨gb769, 0, none⟩ (.slice Ao69 t760.length co69)).setCell ⟨gb769, 1, none⟩ (.slice Ao73 t763.length co73)).setCell ⟨gb769, 2, none⟩ (.slice Ao74 t766.length co74)) w.heap.size (fun _ => True) (.slice Ao69 t760.length co69) t760) := ⟨by (with_reducible repeat (first | apply Kd.R_alloc | apply Kd.R_drewN | apply Kd.R_drew)); exact Kd.R_mono (Kd.R_far (p := ⟨gb769, 2, none⟩) (Kd.R_far (p := ⟨gb769, 1, none⟩) (Kd.R_far (p := ⟨gb769, 0, none⟩) (Kd.R_types HO762.out BK769.out (by decide)) (fun _ hk => hk.2) (.slice Ao69 t760.length co69)) (fun _ hk => hk.2) (.slice Ao73 t763.length co73)) (fun _ hk => hk.2) (.slice Ao74 t766.length co74)) (fun _ hk => trivial)⟩
   have n1_ : Aside0 (Kd.R k50 50 (((w68.setCell ⟨gb769, 0, none⟩ (.slice Ao69 t760.length co69)).setCell ⟨gb769, 1, none⟩ (.slice Ao73 t763.length co73)).setCell ⟨gb769, 2, none⟩ (.slice Ao74 t766.length co74)) w.heap.size (fun _ => True) (.slice Ao73 t763.length co73) t763) := ⟨by (with_reducible repeat (first | apply Kd.R_alloc | apply Kd.R_drewN | apply Kd.R_drew)); exact Kd.R_mono (Kd.R_far (p := ⟨gb769, 2, none⟩) (Kd.R_far (p := ⟨gb769, 1, none⟩) (Kd.R_far (p := ⟨gb769, 0, none⟩) (Kd.R_types HO765.out BK769.out (by decide)) (fun _ hk => hk.2) (.slice Ao69 t760.length co69)) (fun _ hk => hk.2) (.slice Ao73 t763.length co73)) (fun _ hk => hk.2) (.slice Ao74 t766.length co74)) (fun _ hk => trivial)⟩
   have n2_ : Aside0 (Kd.S (Kd.slice 3 (Kd.int .i64)) 22 (((w68.setCell ⟨gb769, 0, none⟩ (.slice Ao69 t760.length co69)).setCell ⟨gb769, 1, none⟩ (.slice Ao73 t763.length co73)).setCell ⟨gb769, 2, none⟩ (.slice Ao74 t766.length co74)) w.heap.size (fun k_ => some k_ ≠ (.slice Ao69 t760.length co69 : Value).ownBlock) (.slice Ao74 t766.length co74) t766) := ⟨by (with_reducible repeat (first | apply Kd.S_alloc | apply Kd.S_drewN | apply Kd.S_drew)); exact Kd.S_mono (Kd.S_far (p := ⟨gb769, 2, none⟩) (Kd.S_far (p := ⟨gb769, 1, none⟩) (Kd.S_far (p := ⟨gb769, 0, none⟩) (Kd.S_types HO768.out BK769.out (by decide)) (fun _ hk => hk.2) (.slice Ao69 t760.length co69)) (fun _ hk => hk.2) (.slice Ao73 t763.length co73)) (fun _ hk => hk.2) (.slice Ao74 t766.length co74)) (fun _ hk => hk.1)⟩
   have n3_ : Aside0 ((((w68.setCell ⟨gb769, 0, none⟩ (.slice Ao69 t760.length co69)).setCell ⟨gb769, 1, none⟩ (.slice Ao73 t763.length co73)).setCell ⟨gb769, 2, none⟩ (.slice Ao74 t766.length co74)).heap[gb725]? = some (.cells #[.slice A0_0 l0_0.length c0_0, .slice A0_1 l0_1.length c0_1, .slice A0_2 l0_2.length c0_2] 26 (0, 0))) := ⟨by (with_reducible repeat (first | refine blk_drewN ?_ _ | refine blk_drew ?_ | refine blk_alloc ?_ _)); refine blk_far ?_ NB725_769.out _; (with_reducible repeat (first | refine blk_drewN ?_ _ | refine blk_drew ?_ | refine blk_alloc ?_ _)); refine blk_far ?_ NB725_769.out _; (with_reducible repeat (first | refine blk_drewN ?_ _ | refine blk_drew ?_ | refine blk_alloc ?_ _)); refine blk_far ?_ NB725_769.out _; (with_reducible repeat (first | refine blk_drewN ?_ _ | refine blk_drew ?_ | refine blk_alloc ?_ _)); exact BK725.out⟩
   have n4_ : Aside0 ((((w68.setCell ⟨gb769, 0, none⟩ (.slice Ao69 t760.length co69)).setCell ⟨gb769, 1, none⟩ (.slice Ao73 t763.length co73)).setCell ⟨gb769, 2, none⟩ (.slice Ao74 t766.length co74)).heap[gb726]? = some (.cells #[.slice none 0 0, .slice none 0 0, .slice none 0 0] 26 (0, 0))) := ⟨by (with_reducible repeat (first | refine blk_drewN ?_ _ | refine blk_drew ?_ | refine blk_alloc ?_ _)); refine blk_far ?_ NB726_769.out _; (with_reducible repeat (first | refine blk_drewN ?_ _ | refine blk_drew ?_ | refine blk_alloc ?_ _)); refine blk_far ?_ NB726_769.out _; (with_reducible repeat (first | refine blk_drewN ?_ _ | refine blk_drew ?_ | refine blk_alloc ?_ _)); refine blk_far ?_ NB726_769.out _; (with_reducible repeat (first | refine blk_drewN ?_ _ | refine blk_drew ?_ | refine blk_alloc ?_ _)); exact BK726.out⟩
   have n5_ : Aside0 ((((w68.setCell ⟨gb769, 0, none⟩ (.slice Ao69 t760.length co69)).setCell ⟨gb769, 1, none⟩ (.slice Ao73 t763.length co73)).setCell ⟨gb769, 2, none⟩ (.slice Ao74 t766.length co74)).heap[gb769]? = some (.cells #[.slice Ao69 t760.length co69, .slice Ao73 t763.length co73, .slice Ao74 t766.length co74] 26 (0, 0))) := ⟨by (with_reducible repeat (first | refine blk_drewN ?_ _ | refine blk_drew ?_ | refine blk_alloc ?_ _)); refine blk_put (cs := #[.slice Ao69 t760.length co69, .slice Ao73 t763.length co73, .slice none 0 0]) ?_ 2 _ rfl; (with_reducible repeat (first | refine blk_drewN ?_ _ | refine blk_drew ?_ | refine blk_alloc ?_ _)); refine blk_put (cs := #[.slice Ao69 t760.length co69, .slice none 0 0, .slice none 0 0]) ?_ 1 _ rfl; (with_reducible repeat (first | refine blk_drewN ?_ _ | refine blk_drew ?_ | refine blk_alloc ?_ _)); refine blk_put (cs := #[.slice none 0 0, .slice none 0 0, .slice none 0 0]) ?_ 0 _ rfl; (with_reducible repeat (first | refine blk_drewN ?_ _ | refine blk_drew ?_ | refine blk_alloc ?_ _)); exact BK769.out⟩
   have n6_ : Aside0 (Below w.heap.size w (((w68.setCell ⟨gb769, 0, none⟩ (.slice Ao69 t760.length co69)).setCell ⟨gb769, 1, none⟩ (.slice Ao73 t763.length co73)).setCell ⟨gb769, 2, none⟩ (.slice Ao74 t766.length co74))) := ⟨by repeat (first | (with_reducible first | exact HB.out | apply below_alloc | apply pw_below_drewN | apply below_drew1 | refine below_set ?_ GE725.out | refine below_set ?_ GE726.out | refine below_set ?_ GE769.out) | exact HB.out)⟩
   (try clear HO762)
   (try clear HO765)
   (try clear HO768)
   (try clear BK725)
   (try clear BK726)
   (try clear BK769)
   (try clear HB)
   generalize (((w68.setCell ⟨gb769, 0, none⟩ (.slice Ao69 t760.length co69)).setCell ⟨gb769, 1, none⟩ (.slice Ao73 t763.length co73)).setCell ⟨gb769, 2, none⟩ (.slice Ao74 t766.length co74)) = w75 at n0_ n1_ n2_ n3_ n4_ n5_ n6_ ⊢
   have HO762 := n0_
   have HO765 := n1_
   have HO768 := n2_
   have BK725 := n3_
   have BK726 := n4_
   have BK769 := n5_
   have HB := n6_
   clear n0_ n1_ n2_ n3_ n4_ n5_ n6_
   have n0_ := Aside0.mk (Kd.R_drew HO762.out)
   have n1_ := Aside0.mk (Kd.R_drew HO765.out)
   have n2_ := Aside0.mk (Kd.S_drew HO768.out)
   have n3_ := Aside0.mk (blk_drew BK725.out)
   have n4_ := Aside0.mk (blk_drew BK726.out)
   have n5_ := Aside0.mk (blk_drew BK769.out)
   have n6_ := Aside0.mk (below_drew1 HB.out)
   clear HO762
   clear HO765
   clear HO768
   clear BK725
   clear BK726
   clear BK769
   clear HB
   have HO762 := n0_
   have HO765 := n1_
   have HO768 := n2_
   have BK725 := n3_
   have BK726 := n4_
   have BK769 := n5_
   have HB := n6_
   clear n0_ n1_ n2_ n3_ n4_ n5_ n6_
   have q77 : (a1 : Int) ≤ ((t760.length : Int) : Int) := of_decide_eq_true (by first | (with_reducible assumption) | assumption)
   obtain ⟨i077, hi077, _, hsz77, _⟩ := info_parts info3
   have hroom77 : t760.length ≤ co69 := (Kd.R_reads' HO762.out).2.1
   have hC77 : Kd.C (Kd.int .i64) _ Ao69 t760.length t760 := (Kd.R_reads' HO762.out).2.2
   have hcut77 := cut_to (P := Try.prog) 22 3 .i64 Try.underlying22 hi077 Ao69 t760.length co69 a1 (of_decide_eq_true (by first | (with_reducible assumption) | assumption)) q77 hroom77
   have hr77 := Kd.C_take (m := (a1 : Int).toNat) hC77 (by omega)
   have hy77 : y770.length = (a1 : Int).toNat := (by rw [Ny770.out, List.length_take]; omega)
   rw [← Ny770.out] at hr77
   rw [← hy77] at hcut77
   have HR773 := Aside0.mk hr77
   have HC773 := Aside0.mk (show y770.length ≤ co69 from by omega)
   clear hr77 hC77 hroom77 hi077 hsz77
   have KY77 := Aside0.mk hy77
   clear hy77
   have KL77 := Aside0.mk (show (a1 : Int).toNat ≤ t760.length from by omega)
   replace q77 := eq_true q77
   have q78 : ((ji58) : Int) ≤ ((t760.length : Int) : Int) := of_decide_eq_true (by first | (with_reducible assumption) | assumption)
   obtain ⟨i078, hi078, _, hsz78, _⟩ := info_parts info3
   have hroom78 : t760.length ≤ co69 := (Kd.R_reads' HO762.out).2.1
   have hC78 : Kd.C (Kd.int .i64) _ Ao69 t760.length t760 := (Kd.R_reads' HO762.out).2.2
   have q078 : (0 : Int) ≤ ((ji58) : Int) := of_decide_eq_true (by first | (with_reducible assumption) | assumption)
   have hcut78 := cut_from (P := Try.prog) 22 3 .i64 Try.underlying22 hi078 1 hsz78 Ao69 t760.length co69 (ji58) q078 q78
   have hr78 := Kd.C_drop (m := ((ji58) : Int).toNat) (c := co69) hC78 (by omega) hroom78
   obtain ⟨A78, hA78⟩ : ∃ A1, A1 = (if co69 = ((ji58) : Int).toNat then Ao69 else (Ao69 : Option Addr).map (·.add (((ji58) : Int).toNat * 1))) := ⟨_, rfl⟩
   obtain ⟨c78, hc78⟩ : ∃ c1, c1 = co69 - ((ji58) : Int).toNat := ⟨_, rfl⟩
   have hy78 : y774.length = t760.length - ((ji58) : Int).toNat := (by rw [Ny774.out, List.length_drop] <;> omega)
   rw [show (t760).drop ((ji58) : Int).toNat = y774 from Ny774.out.symm] at hr78
   replace hr78 : Kd.C (Kd.int .i64) _ A78 y774.length y774 := (by rw [hA78]; exact hr78)
   rw [← hy78, ← hA78, ← hc78] at hcut78
   have HR777 := Aside0.mk hr78
   have HC777 := Aside0.mk (show y774.length ≤ c78 from by rw [hy78, hc78]; exact Nat.sub_le_sub_right hroom78 _)
   clear hr78 hC78 hroom78 hi078 hsz78 hc78
   have KY78 := Aside0.mk hy78
   have KA78 := Aside0.mk hA78
   clear hy78 hA78
   have KL78 := Aside0.mk (show ((ji58) : Int).toNat ≤ t760.length from by omega)
   replace q78 := eq_true q78
   obtain ⟨go80, co80, eo80, gb80, gl80, cl80, HG80⟩ := Kd.R_form HO762.out (by have hj_ : 0 ≤ (a1 : Int) := of_decide_eq_true (by first | (with_reducible assumption) | assumption); have hl_ : (ji58 : Int) ≤ (t760.length : Int) := of_decide_eq_true (by first | (with_reducible assumption) | assumption); have hh_ : (a1 : Int) ≤ (t760.length : Int) := of_decide_eq_true (by first | (with_reducible assumption) | assumption); rw [← hji58] at hl_; unfold wrap64 at hl_; omega)
   (first | cases eo80 | (injection eo80 with ea_ en_ ec_; (first | subst ea_ | (injection ea_ with ea_; subst ea_)); subst ec_; clear en_))
   have GB80 := Aside0.mk gb80
   have GG80 := Aside0.mk HG80
   clear gb80 gl80 HG80
   refine start_ (n := 12) (S := fun w' => w'.cell? ⟨gb769, 0, none⟩ = some (.slice (some ⟨go80, 0, none⟩) t760.length co69) ∧ w'.cell? ⟨gb769, 1, none⟩ = some (.slice Ao73 t763.length co73) ∧ w'.cell? ⟨gb769, 2, none⟩ = some (.slice Ao74 t766.length co74)) (ds := [11]) #[false, false, false, false, false, false, false, false, false, false, false, false] (by kernel_rfl) rfl rfl ⟨(blk_cell BK769.out 0).trans rfl, (blk_cell BK769.out 1).trans rfl, (blk_cell BK769.out 2).trans rfl⟩ (fun hHeld => ?_); refine with_tabW laganref04_Without.tab7 laganref04_Without.bits7 (fun HT_ HW_ => ?_)
   generalize w75.drew = w76 at HO762 HO765 HO768 BK725 BK726 BK769 HB GG80 HR773 HR777 hHeld ⊢
   refine pure_ (i := 0) (N := some 29) (v := ?_) (a' := ?_) #[true, false, false, false, false, false, false, false, false, false, false, false] rfl rfl (any_of HT_.out (by kernel_rfl)) (fun _ _ _ h => h) (Or.inl ⟨by rfl, ?_⟩) ?_ ?_
   rotate_left
   ·
    intro w'
    go_simp
    with_reducible rfl
   rotate_left
   ·
    simp only [Act.put, List.setIfInBounds_toArray, List.set_cons_zero, List.set_cons_succ, i64_w, i32_w]
    rfl
   refine pure_ (i := 2) (N := some 31) (v := ?_) (a' := ?_) #[true, false, true, false, false, false, false, false, false, false, false, false] rfl rfl (any_of HT_.out (by kernel_rfl)) (fun _ _ _ h => h) (Or.inl ⟨by rfl, ?_⟩) ?_ ?_
   rotate_left
   ·
    intro w'
    go_simp
    with_reducible rfl
   rotate_left
   ·
    simp only [Act.put, List.setIfInBounds_toArray, List.set_cons_zero, List.set_cons_succ, i64_w, i32_w]
    rfl
   refine pure_ (i := 4) (N := some 33) (v := ?_) (a' := ?_) #[true, false, true, false, true, false, false, false, false, false, false, false] rfl rfl (any_of HT_.out (by kernel_rfl)) (fun _ _ _ h => h) (Or.inl ⟨by rfl, ?_⟩) ?_ ?_
   rotate_left
   ·
    intro w'
    go_simp
    with_reducible rfl
   rotate_left
   ·
    simp only [Act.put, List.setIfInBounds_toArray, List.set_cons_zero, List.set_cons_succ, i64_w, i32_w]
    rfl
   refine pure_ (i := 6) (N := some 35) (v := ?_) (a' := ?_) #[true, false, true, false, true, false, true, false, false, false, false, false] rfl rfl (any_of HT_.out (by kernel_rfl)) (fun _ _ _ h => h) (Or.inl ⟨by rfl, ?_⟩) ?_ ?_
   rotate_left
   ·
    intro w'
    go_simp
    with_reducible rfl
   rotate_left
   ·
    simp only [Act.put, List.setIfInBounds_toArray, List.set_cons_zero, List.set_cons_succ, i64_w, i32_w]
    rfl
   refine pure_ (i := 7) (N := some 36) (v := ?_) (a' := ?_) #[true, false, true, false, true, false, true, true, false, false, false, false] rfl rfl (any_of HT_.out (by kernel_rfl)) (fun _ _ _ h => h) (Or.inl ⟨by rfl, ?_⟩) ?_ ?_
   rotate_left
   ·
    intro w'
    go_simp
    with_reducible rfl
   rotate_left
   ·
    simp only [Act.put, List.setIfInBounds_toArray, List.set_cons_zero, List.set_cons_succ, i64_w, i32_w]
    rfl
   refine take_ (i := 1) (N := some 30) (v := ?_) (a' := ?_) #[true, true, true, false, true, false, true, true, false, false, false, false] rfl rfl (take_ofW HT_.out HW_.out (by kernel_rfl)) (fun _ _ _ h => h) (Or.inl ⟨by rfl, ?_⟩) hHeld ?_ ?_
   rotate_left
   ·
    rintro w' ⟨s0, s1, s2⟩
    go_simp
    with_reducible rfl
   rotate_left
   ·
    simp only [Act.put, List.setIfInBounds_toArray, List.set_cons_zero, List.set_cons_succ, i64_w, i32_w]
    rfl
   refine pure_ (i := 3) (N := some 32) (v := ?_) (a' := ?_) #[true, true, true, true, true, false, true, true, false, false, false, false] rfl rfl (any_of HT_.out (by kernel_rfl)) (fun _ _ _ h => h) (Or.inl ⟨by rfl, ?_⟩) ?_ ?_
   rotate_left
   ·
    intro w'
    go_simp
    with_reducible rfl
   rotate_left
   ·
    simp only [Act.put, List.setIfInBounds_toArray, List.set_cons_zero, List.set_cons_succ, i64_w, i32_w]
    rfl
   refine take_ (i := 5) (N := some 34) (v := ?_) (a' := ?_) #[true, true, true, true, true, true, true, true, false, false, false, false] rfl rfl (take_ofW HT_.out HW_.out (by kernel_rfl)) (fun _ _ _ h => h) (Or.inl ⟨by rfl, ?_⟩) hHeld ?_ ?_
   rotate_left
   ·
    rintro w' ⟨s0, s1, s2⟩
    go_simp
    with_reducible rfl
   rotate_left
   ·
    simp only [Act.put, List.setIfInBounds_toArray, List.set_cons_zero, List.set_cons_succ, i64_w, i32_w]
    rfl
   refine pure_ (i := 8) (N := some 37) (v := ?_) (a' := ?_) #[true, true, true, true, true, true, true, true, true, false, false, false] rfl rfl (any_of HT_.out (by kernel_rfl)) (fun _ _ _ h => h) (Or.inl ⟨by rfl, ?_⟩) ?_ ?_
   rotate_left
   ·
    intro w'
    go_simp
    with_reducible rfl
   rotate_left
   ·
    simp only [Act.put, List.setIfInBounds_toArray, List.set_cons_zero, List.set_cons_succ, i64_w, i32_w]
    rfl
   refine one_ (i := 9) (N := some 38) #[true, true, true, true, true, true, true, true, true, true, false, false] rfl rfl (one_of HT_.out (by kernel_rfl)) (by decide) (fun K hK => ?_)
   have hj_ : 0 ≤ (a1 : Int) := of_decide_eq_true (by first | (with_reducible assumption) | assumption)
   have hl_ : (ji58 : Int) ≤ (t760.length : Int) := of_decide_eq_true (by first | (with_reducible assumption) | assumption)
   have hh_ : (a1 : Int) ≤ (t760.length : Int) := of_decide_eq_true (by first | (with_reducible assumption) | assumption)
   have hb_ := (Kd.R_reads' HO762.out).2.2.2.1
   have h0_ : (0 : Int) ≤ (ji58 : Int) := of_decide_eq_true (by first | (with_reducible assumption) | assumption)
   have hy1_ := KY77.out
   have hk_ : (ji58 : Int).toNat = y770.length + 1 := (by have hw_ : (ji58 : Int) = a1 + 1 := (by have h00_ := h0_; rw [← hji58] at h00_ ⊢; unfold wrap64 at h00_ ⊢; omega); rw [hw_]; omega)
   refine Kd.R_delete_step (Kd.int .i64) (w0 := w) w.heap.size (by rfl) (.tmp 32) (.tmp 37) 22 3 rfl Try.underlying22 (by kernel_rfl) (g := go80) (n := t760.length) (c := co69) (k := y770.length) rfl rfl ?hA ?hm (by (with_reducible repeat (first | apply Kd.R_alloc | apply Kd.R_drewN | apply Kd.R_drew)); exact HO762.out) ?hk (by repeat (first | (with_reducible first | exact HB.out | apply below_alloc | apply pw_below_drewN | apply below_drew1 | refine below_set ?_ GE725.out | refine below_set ?_ GE726.out | refine below_set ?_ GE769.out) | exact HB.out)) (below_size (by repeat (first | (with_reducible first | exact HB.out | apply below_alloc | apply pw_below_drewN | apply below_drew1 | refine below_set ?_ GE725.out | refine below_set ?_ GE726.out | refine below_set ?_ GE769.out) | exact HB.out))) ?_
   (case hA => have ha_ := KA78.out; rw [hk_] at ha_; exact ha_)
   (case hm => have ha_ := KY78.out; omega)
   (case hk => omega)
   intro w79 ho hb hg
   clear hj_ hl_ hh_ hb_ hk_ h0_
   rw [hy1_, ← Ny778.out] at ho
   clear hy1_
   have hn_ : t760.length - 1 = y778.length := (by have := (Kd.R_reads' ho).1; omega)
   rw [hn_] at ho ⊢
   clear hn_
   have n0_ := Aside0.mk (blk_grown (g := gb725) (o := .cells #[.slice A0_0 l0_0.length c0_0, .slice A0_1 l0_1.length c0_1, .slice A0_2 l0_2.length c0_2] 26 (0, 0)) (by (with_reducible repeat (first | refine blk_drewN ?_ _ | refine blk_drew ?_ | refine blk_alloc ?_ _)); exact BK725.out) hg (Kd.R_ne HO762.out BK725.out (by decide)))
   have n1_ := Aside0.mk (blk_grown (g := gb726) (o := .cells #[.slice none 0 0, .slice none 0 0, .slice none 0 0] 26 (0, 0)) (by (with_reducible repeat (first | refine blk_drewN ?_ _ | refine blk_drew ?_ | refine blk_alloc ?_ _)); exact BK726.out) hg (Kd.R_ne HO762.out BK726.out (by decide)))
   have n2_ := Aside0.mk (ho)
   have n3_ := Aside0.mk (Kd.R_over' (v := (.slice (some ⟨go80, 0, none⟩) t760.length co69)) (by (with_reducible repeat (first | apply Kd.R_alloc | apply Kd.R_drewN | apply Kd.R_drew)); exact HO765.out) (Kd.R_typed HO762.out) (by decide) hg)
   have n4_ := Aside0.mk (Kd.S_after (v := (.slice (some ⟨go80, 0, none⟩) t760.length co69)) (v1 := .slice (some ⟨go80, 0, none⟩) y778.length co69) (ok := (fun _ => True)) (by (with_reducible repeat (first | apply Kd.S_alloc | apply Kd.S_drewN | apply Kd.S_drew)); exact Kd.S_mono HO768.out (fun _ hk => ⟨trivial, hk⟩)) hg (.inl rfl))
   have n5_ := Aside0.mk (blk_grown (g := gb769) (o := .cells #[.slice (some ⟨go80, 0, none⟩) t760.length co69, .slice Ao73 t763.length co73, .slice Ao74 t766.length co74] 26 (0, 0)) (by (with_reducible repeat (first | refine blk_drewN ?_ _ | refine blk_drew ?_ | refine blk_alloc ?_ _)); exact BK769.out) hg (Kd.R_ne HO762.out BK769.out (by decide)))
   have n6_ := Aside0.mk (hb)
   clear BK725
   clear BK726
   clear HO762
   clear HO765
   clear HO768
   clear BK769
   clear HB
   have BK725 := n0_
   have BK726 := n1_
   have HO762 := n2_
   have HO765 := n3_
   have HO768 := n4_
   have BK769 := n5_
   have HB := n6_
   clear n0_ n1_ n2_ n3_ n4_ n5_ n6_
   clear ho hb hg
   refine hK.out _ _ ⟨(blk_cell BK769.out 0).trans rfl, (blk_cell BK769.out 1).trans rfl, (blk_cell BK769.out 2).trans rfl⟩ (fun hHeld => ?_)
   clear hK K
   refine norm_ (a' := ?_) ?_ ?_
   rotate_left
   ·
    show Act.put _ (some 38) _ = _
    simp only [Act.put, List.setIfInBounds_toArray, List.set_cons_zero, List.set_cons_succ, i64_w, i32_w]
    rfl
   refine pure_ (i := 10) (N := some 39) (v := ?_) (a' := ?_) #[true, true, true, true, true, true, true, true, true, true, true, false] rfl rfl (any_of HT_.out (by kernel_rfl)) (fun _ _ _ h => h) (Or.inl ⟨by rfl, ?_⟩) ?_ ?_
   rotate_left
   ·
    intro w'
    go_simp
    with_reducible rfl
   rotate_left
   ·
    simp only [Act.put, List.setIfInBounds_toArray, List.set_cons_zero, List.set_cons_succ, i64_w, i32_w]
    rfl
   refine last_ (i := 11) (N := none) #[true, true, true, true, true, true, true, true, true, true, true, true] rfl rfl (one_of HT_.out (by kernel_rfl)) (by decide) (fun K hK => ?_)
   have hs81 : w79.cell? ⟨gb769, 0, none⟩ = some (.slice (some ⟨go80, 0, none⟩) t760.length co69) := (blk_cell BK769.out 0).trans rfl
   have hfs81 := blk_frozen BK769.out 0
   have hns81_0 := NB725_769.out
   have hns81_1 := NB726_769.out
   have hms81_0 := NB769_725.out
   have hms81_1 := NB769_726.out
   refine skip_ (w1 := ?_) (by rfl) rfl ?_ ?_
   rotate_left
   ·
    go_simp
    rfl
   refine hK.out _ _ ?_
   clear hK K
   refine done_ (done_of HT_.out (by kernel_rfl)) ?_
   try go_wp2
   have n0_ : Aside0 (Kd.R (Kd.int .i64) 3 (w79.setCell ⟨gb769, 0, none⟩ (.slice (some ⟨go80, 0, none⟩) y778.length co69)) w.heap.size (fun _ => True) (.slice (some ⟨go80, 0, none⟩) y778.length co69) y778) := ⟨by (with_reducible repeat (first | apply Kd.R_alloc | apply Kd.R_drewN | apply Kd.R_drew)); exact Kd.R_mono (Kd.R_far (p := ⟨gb769, 0, none⟩) (Kd.R_types HO762.out BK769.out (by decide)) (fun _ hk => hk.2) (.slice (some ⟨go80, 0, none⟩) y778.length co69)) (fun _ hk => trivial)⟩
   have n1_ : Aside0 (Kd.R k50 50 (w79.setCell ⟨gb769, 0, none⟩ (.slice (some ⟨go80, 0, none⟩) y778.length co69)) w.heap.size (fun _ => True) (.slice Ao73 t763.length co73) t763) := ⟨by (with_reducible repeat (first | apply Kd.R_alloc | apply Kd.R_drewN | apply Kd.R_drew)); exact Kd.R_mono (Kd.R_far (p := ⟨gb769, 0, none⟩) (Kd.R_types HO765.out BK769.out (by decide)) (fun _ hk => hk.2) (.slice (some ⟨go80, 0, none⟩) y778.length co69)) (fun _ hk => trivial)⟩
   have n2_ : Aside0 (Kd.S (Kd.slice 3 (Kd.int .i64)) 22 (w79.setCell ⟨gb769, 0, none⟩ (.slice (some ⟨go80, 0, none⟩) y778.length co69)) w.heap.size (fun k_ => some k_ ≠ (.slice (some ⟨go80, 0, none⟩) y778.length co69 : Value).ownBlock) (.slice Ao74 t766.length co74) t766) := ⟨by (with_reducible repeat (first | apply Kd.S_alloc | apply Kd.S_drewN | apply Kd.S_drew)); exact Kd.S_mono (Kd.S_far (p := ⟨gb769, 0, none⟩) (Kd.S_types HO768.out BK769.out (by decide)) (fun _ hk => hk.2) (.slice (some ⟨go80, 0, none⟩) y778.length co69)) (fun _ hk => hk.1.2)⟩
   have n3_ : Aside0 ((w79.setCell ⟨gb769, 0, none⟩ (.slice (some ⟨go80, 0, none⟩) y778.length co69)).heap[gb725]? = some (.cells #[.slice A0_0 l0_0.length c0_0, .slice A0_1 l0_1.length c0_1, .slice A0_2 l0_2.length c0_2] 26 (0, 0))) := ⟨by (with_reducible repeat (first | refine blk_drewN ?_ _ | refine blk_drew ?_ | refine blk_alloc ?_ _)); refine blk_far ?_ NB725_769.out _; (with_reducible repeat (first | refine blk_drewN ?_ _ | refine blk_drew ?_ | refine blk_alloc ?_ _)); exact BK725.out⟩
   have n4_ : Aside0 ((w79.setCell ⟨gb769, 0, none⟩ (.slice (some ⟨go80, 0, none⟩) y778.length co69)).heap[gb726]? = some (.cells #[.slice none 0 0, .slice none 0 0, .slice none 0 0] 26 (0, 0))) := ⟨by (with_reducible repeat (first | refine blk_drewN ?_ _ | refine blk_drew ?_ | refine blk_alloc ?_ _)); refine blk_far ?_ NB726_769.out _; (with_reducible repeat (first | refine blk_drewN ?_ _ | refine blk_drew ?_ | refine blk_alloc ?_ _)); exact BK726.out⟩
   have n5_ : Aside0 ((w79.setCell ⟨gb769, 0, none⟩ (.slice (some ⟨go80, 0, none⟩) y778.length co69)).heap[gb769]? = some (.cells #[.slice (some ⟨go80, 0, none⟩) y778.length co69, .slice Ao73 t763.length co73, .slice Ao74 t766.length co74] 26 (0, 0))) := ⟨by (with_reducible repeat (first | refine blk_drewN ?_ _ | refine blk_drew ?_ | refine blk_alloc ?_ _)); refine blk_put (cs := #[.slice (some ⟨go80, 0, none⟩) t760.length co69, .slice Ao73 t763.length co73, .slice Ao74 t766.length co74]) ?_ 0 _ rfl; (with_reducible repeat (first | refine blk_drewN ?_ _ | refine blk_drew ?_ | refine blk_alloc ?_ _)); exact BK769.out⟩
   have n6_ : Aside0 (Below w.heap.size w (w79.setCell ⟨gb769, 0, none⟩ (.slice (some ⟨go80, 0, none⟩) y778.length co69))) := ⟨by repeat (first | (with_reducible first | exact HB.out | apply below_alloc | apply pw_below_drewN | apply below_drew1 | refine below_set ?_ GE725.out | refine below_set ?_ GE726.out | refine below_set ?_ GE769.out) | exact HB.out)⟩
   (try clear HO762)
   (try clear HO765)
   (try clear HO768)
   (try clear BK725)
   (try clear BK726)
   (try clear BK769)
   (try clear HB)
   generalize (w79.setCell ⟨gb769, 0, none⟩ (.slice (some ⟨go80, 0, none⟩) y778.length co69)) = w82 at n0_ n1_ n2_ n3_ n4_ n5_ n6_ ⊢
   have HO762 := n0_
   have HO765 := n1_
   have HO768 := n2_
   have BK725 := n3_
   have BK726 := n4_
   have BK769 := n5_
   have HB := n6_
   clear n0_ n1_ n2_ n3_ n4_ n5_ n6_
   have n0_ := Aside0.mk (Kd.R_drew HO762.out)
   have n1_ := Aside0.mk (Kd.R_drew HO765.out)
   have n2_ := Aside0.mk (Kd.S_drew HO768.out)
   have n3_ := Aside0.mk (blk_drew BK725.out)
   have n4_ := Aside0.mk (blk_drew BK726.out)
   have n5_ := Aside0.mk (blk_drew BK769.out)
   have n6_ := Aside0.mk (below_drew1 HB.out)
   clear HO762
   clear HO765
   clear HO768
   clear BK725
   clear BK726
   clear BK769
   clear HB
   have HO762 := n0_
   have HO765 := n1_
   have HO768 := n2_
   have BK725 := n3_
   have BK726 := n4_
   have BK769 := n5_
   have HB := n6_
   clear n0_ n1_ n2_ n3_ n4_ n5_ n6_
   have q84 : (a1 : Int) ≤ ((t766.length : Int) : Int) := of_decide_eq_true (by first | (with_reducible assumption) | assumption)
   obtain ⟨i084, hi084, _, hsz84, _⟩ := info_parts info22
   have hroom84 : t766.length ≤ co74 := (Kd.S_reads' HO768.out).2.1
   have hC84 : Kd.C (Kd.slice 3 (Kd.int .i64)) _ Ao74 t766.length t766 := (Kd.S_reads' HO768.out).2.2
   have hcut84 := cut_to (P := Try.prog) 24 22 .i64 Try.underlying24 hi084 Ao74 t766.length co74 a1 (of_decide_eq_true (by first | (with_reducible assumption) | assumption)) q84 hroom84
   have hr84 := Kd.C_take (m := (a1 : Int).toNat) hC84 (by omega)
   have hy84 : y781.length = (a1 : Int).toNat := (by rw [Ny781.out, List.length_take]; omega)
   rw [← Ny781.out] at hr84
   rw [← hy84] at hcut84
   have HR784 := Aside0.mk hr84
   have HC784 := Aside0.mk (show y781.length ≤ co74 from by omega)
   clear hr84 hC84 hroom84 hi084 hsz84
   have KY84 := Aside0.mk hy84
   clear hy84
   have KL84 := Aside0.mk (show (a1 : Int).toNat ≤ t766.length from by omega)
   replace q84 := eq_true q84
   have q85 : ((ji58) : Int) ≤ ((t766.length : Int) : Int) := of_decide_eq_true (by first | (with_reducible assumption) | assumption)
   obtain ⟨i085, hi085, _, hsz85, _⟩ := info_parts info22
   have hroom85 : t766.length ≤ co74 := (Kd.S_reads' HO768.out).2.1
   have hC85 : Kd.C (Kd.slice 3 (Kd.int .i64)) _ Ao74 t766.length t766 := (Kd.S_reads' HO768.out).2.2
   have q085 : (0 : Int) ≤ ((ji58) : Int) := of_decide_eq_true (by first | (with_reducible assumption) | assumption)
   have hcut85 := cut_from (P := Try.prog) 24 22 .i64 Try.underlying24 hi085 1 hsz85 Ao74 t766.length co74 (ji58) q085 q85
   have hr85 := Kd.C_drop (m := ((ji58) : Int).toNat) (c := co74) hC85 (by omega) hroom85
   obtain ⟨A85, hA85⟩ : ∃ A1, A1 = (if co74 = ((ji58) : Int).toNat then Ao74 else (Ao74 : Option Addr).map (·.add (((ji58) : Int).toNat * 1))) := ⟨_, rfl⟩
   obtain ⟨c85, hc85⟩ : ∃ c1, c1 = co74 - ((ji58) : Int).toNat := ⟨_, rfl⟩
   have hy85 : y785.length = t766.length - ((ji58) : Int).toNat := (by rw [Ny785.out, List.length_drop] <;> omega)
   rw [show (t766).drop ((ji58) : Int).toNat = y785 from Ny785.out.symm] at hr85
   replace hr85 : Kd.C (Kd.slice 3 (Kd.int .i64)) _ A85 y785.length y785 := (by rw [hA85]; exact hr85)
   rw [← hy85, ← hA85, ← hc85] at hcut85
   have HR788 := Aside0.mk hr85
   have HC788 := Aside0.mk (show y785.length ≤ c85 from by rw [hy85, hc85]; exact Nat.sub_le_sub_right hroom85 _)
   clear hr85 hC85 hroom85 hi085 hsz85 hc85
   have KY85 := Aside0.mk hy85
   have KA85 := Aside0.mk hA85
   clear hy85 hA85
   have KL85 := Aside0.mk (show ((ji58) : Int).toNat ≤ t766.length from by omega)
   replace q85 := eq_true q85
   obtain ⟨go87, co87, eo87, gb87, gl87, cl87, HG87⟩ := Kd.S_form HO768.out (by have hj_ : 0 ≤ (a1 : Int) := of_decide_eq_true (by first | (with_reducible assumption) | assumption); have hl_ : (ji58 : Int) ≤ (t766.length : Int) := of_decide_eq_true (by first | (with_reducible assumption) | assumption); have hh_ : (a1 : Int) ≤ (t766.length : Int) := of_decide_eq_true (by first | (with_reducible assumption) | assumption); rw [← hji58] at hl_; unfold wrap64 at hl_; omega)
   (first | cases eo87 | (injection eo87 with ea_ en_ ec_; (first | subst ea_ | (injection ea_ with ea_; subst ea_)); subst ec_; clear en_))
   have GB87 := Aside0.mk gb87
   have GG87 := Aside0.mk HG87
   clear gb87 gl87 HG87
   refine start_ (n := 12) (S := fun w' => w'.cell? ⟨gb769, 0, none⟩ = some (.slice (some ⟨go80, 0, none⟩) y778.length co69) ∧ w'.cell? ⟨gb769, 1, none⟩ = some (.slice Ao73 t763.length co73) ∧ w'.cell? ⟨gb769, 2, none⟩ = some (.slice (some ⟨go87, 0, none⟩) t766.length co74)) (ds := [11]) #[false, false, false, false, false, false, false, false, false, false, false, false] (by kernel_rfl) rfl rfl ⟨(blk_cell BK769.out 0).trans rfl, (blk_cell BK769.out 1).trans rfl, (blk_cell BK769.out 2).trans rfl⟩ (fun hHeld => ?_); refine with_tabW laganref04_Without.tab8 laganref04_Without.bits8 (fun HT_ HW_ => ?_)
   generalize w82.drew = w83 at HO762 HO765 HO768 BK725 BK726 BK769 HB GG87 HR784 HR788 hHeld ⊢
   refine pure_ (i := 0) (N := some 40) (v := ?_) (a' := ?_) #[true, false, false, false, false, false, false, false, false, false, false, false] rfl rfl (any_of HT_.out (by kernel_rfl)) (fun _ _ _ h => h) (Or.inl ⟨by rfl, ?_⟩) ?_ ?_
   rotate_left
   ·
    intro w'
    go_simp
    with_reducible rfl
   rotate_left
   ·
    simp only [Act.put, List.setIfInBounds_toArray, List.set_cons_zero, List.set_cons_succ, i64_w, i32_w]
    rfl
   refine pure_ (i := 2) (N := some 42) (v := ?_) (a' := ?_) #[true, false, true, false, false, false, false, false, false, false, false, false] rfl rfl (any_of HT_.out (by kernel_rfl)) (fun _ _ _ h => h) (Or.inl ⟨by rfl, ?_⟩) ?_ ?_
   rotate_left
   ·
    intro w'
    go_simp
    with_reducible rfl
   rotate_left
   ·
    simp only [Act.put, List.setIfInBounds_toArray, List.set_cons_zero, List.set_cons_succ, i64_w, i32_w]
    rfl
   refine pure_ (i := 4) (N := some 44) (v := ?_) (a' := ?_) #[true, false, true, false, true, false, false, false, false, false, false, false] rfl rfl (any_of HT_.out (by kernel_rfl)) (fun _ _ _ h => h) (Or.inl ⟨by rfl, ?_⟩) ?_ ?_
   rotate_left
   ·
    intro w'
    go_simp
    with_reducible rfl
   rotate_left
   ·
    simp only [Act.put, List.setIfInBounds_toArray, List.set_cons_zero, List.set_cons_succ, i64_w, i32_w]
    rfl
   refine pure_ (i := 6) (N := some 46) (v := ?_) (a' := ?_) #[true, false, true, false, true, false, true, false, false, false, false, false] rfl rfl (any_of HT_.out (by kernel_rfl)) (fun _ _ _ h => h) (Or.inl ⟨by rfl, ?_⟩) ?_ ?_
   rotate_left
   ·
    intro w'
    go_simp
    with_reducible rfl
   rotate_left
   ·
    simp only [Act.put, List.setIfInBounds_toArray, List.set_cons_zero, List.set_cons_succ, i64_w, i32_w]
    rfl
   refine pure_ (i := 7) (N := some 47) (v := ?_) (a' := ?_) #[true, false, true, false, true, false, true, true, false, false, false, false] rfl rfl (any_of HT_.out (by kernel_rfl)) (fun _ _ _ h => h) (Or.inl ⟨by rfl, ?_⟩) ?_ ?_
   rotate_left
   ·
    intro w'
    go_simp
    with_reducible rfl
   rotate_left
   ·
    simp only [Act.put, List.setIfInBounds_toArray, List.set_cons_zero, List.set_cons_succ, i64_w, i32_w]
    rfl
   refine take_ (i := 1) (N := some 41) (v := ?_) (a' := ?_) #[true, true, true, false, true, false, true, true, false, false, false, false] rfl rfl (take_ofW HT_.out HW_.out (by kernel_rfl)) (fun _ _ _ h => h) (Or.inl ⟨by rfl, ?_⟩) hHeld ?_ ?_
   rotate_left
   ·
    rintro w' ⟨s0, s1, s2⟩
    go_simp
    with_reducible rfl
   rotate_left
   ·
    simp only [Act.put, List.setIfInBounds_toArray, List.set_cons_zero, List.set_cons_succ, i64_w, i32_w]
    rfl
   refine pure_ (i := 3) (N := some 43) (v := ?_) (a' := ?_) #[true, true, true, true, true, false, true, true, false, false, false, false] rfl rfl (any_of HT_.out (by kernel_rfl)) (fun _ _ _ h => h) (Or.inl ⟨by rfl, ?_⟩) ?_ ?_
   rotate_left
   ·
    intro w'
    go_simp
    with_reducible rfl
   rotate_left
   ·
    simp only [Act.put, List.setIfInBounds_toArray, List.set_cons_zero, List.set_cons_succ, i64_w, i32_w]
    rfl
   refine take_ (i := 5) (N := some 45) (v := ?_) (a' := ?_) #[true, true, true, true, true, true, true, true, false, false, false, false] rfl rfl (take_ofW HT_.out HW_.out (by kernel_rfl)) (fun _ _ _ h => h) (Or.inl ⟨by rfl, ?_⟩) hHeld ?_ ?_
   rotate_left
   ·
    rintro w' ⟨s0, s1, s2⟩
    go_simp
    with_reducible rfl
   rotate_left
   ·
    simp only [Act.put, List.setIfInBounds_toArray, List.set_cons_zero, List.set_cons_succ, i64_w, i32_w]
    rfl
   refine pure_ (i := 8) (N := some 48) (v := ?_) (a' := ?_) #[true, true, true, true, true, true, true, true, true, false, false, false] rfl rfl (any_of HT_.out (by kernel_rfl)) (fun _ _ _ h => h) (Or.inl ⟨by rfl, ?_⟩) ?_ ?_
   rotate_left
   ·
    intro w'
    go_simp
    with_reducible rfl
   rotate_left
   ·
    simp only [Act.put, List.setIfInBounds_toArray, List.set_cons_zero, List.set_cons_succ, i64_w, i32_w]
    rfl
   refine one_ (i := 9) (N := some 49) #[true, true, true, true, true, true, true, true, true, true, false, false] rfl rfl (one_of HT_.out (by kernel_rfl)) (by decide) (fun K hK => ?_)
   have hj_ : 0 ≤ (a1 : Int) := of_decide_eq_true (by first | (with_reducible assumption) | assumption)
   have hl_ : (ji58 : Int) ≤ (t766.length : Int) := of_decide_eq_true (by first | (with_reducible assumption) | assumption)
   have hh_ : (a1 : Int) ≤ (t766.length : Int) := of_decide_eq_true (by first | (with_reducible assumption) | assumption)
   have hb_ := (Kd.S_reads' HO768.out).2.2.2.1
   have h0_ : (0 : Int) ≤ (ji58 : Int) := of_decide_eq_true (by first | (with_reducible assumption) | assumption)
   have hy1_ := KY84.out
   have hk_ : (ji58 : Int).toNat = y781.length + 1 := (by have hw_ : (ji58 : Int) = a1 + 1 := (by have h00_ := h0_; rw [← hji58] at h00_ ⊢; unfold wrap64 at h00_ ⊢; omega); rw [hw_]; omega)
   refine Kd.S_delete_step (Kd.slice 3 (Kd.int .i64)) (w0 := w) w.heap.size (by rfl) (.tmp 43) (.tmp 48) 24 22 rfl Try.underlying24 (by kernel_rfl) (g := go87) (n := t766.length) (c := co74) (k := y781.length) rfl rfl ?hA ?hm (by (with_reducible repeat (first | apply Kd.S_alloc | apply Kd.S_drewN | apply Kd.S_drew)); exact HO768.out) ?hk (by repeat (first | (with_reducible first | exact HB.out | apply below_alloc | apply pw_below_drewN | apply below_drew1 | refine below_set ?_ GE725.out | refine below_set ?_ GE726.out | refine below_set ?_ GE769.out) | exact HB.out)) (below_size (by repeat (first | (with_reducible first | exact HB.out | apply below_alloc | apply pw_below_drewN | apply below_drew1 | refine below_set ?_ GE725.out | refine below_set ?_ GE726.out | refine below_set ?_ GE769.out) | exact HB.out))) ?_
   (case hA => have ha_ := KA85.out; rw [hk_] at ha_; exact ha_)
   (case hm => have ha_ := KY85.out; omega)
   (case hk => omega)
   intro w86 ho hb hg
   clear hj_ hl_ hh_ hb_ hk_ h0_
   rw [hy1_, ← Ny789.out] at ho
   clear hy1_
   have hn_ : t766.length - 1 = y789.length := (by have := (Kd.S_reads' ho).1; omega)
   rw [hn_] at ho ⊢
   clear hn_
   have n0_ := Aside0.mk (blk_grown (g := gb725) (o := .cells #[.slice A0_0 l0_0.length c0_0, .slice A0_1 l0_1.length c0_1, .slice A0_2 l0_2.length c0_2] 26 (0, 0)) (by (with_reducible repeat (first | refine blk_drewN ?_ _ | refine blk_drew ?_ | refine blk_alloc ?_ _)); exact BK725.out) hg (Kd.S_ne HO768.out BK725.out (by decide)))
   have n1_ := Aside0.mk (blk_grown (g := gb726) (o := .cells #[.slice none 0 0, .slice none 0 0, .slice none 0 0] 26 (0, 0)) (by (with_reducible repeat (first | refine blk_drewN ?_ _ | refine blk_drew ?_ | refine blk_alloc ?_ _)); exact BK726.out) hg (Kd.S_ne HO768.out BK726.out (by decide)))
   have n2_ := Aside0.mk (Kd.R_over' (v := (.slice (some ⟨go87, 0, none⟩) t766.length co74)) (by (with_reducible repeat (first | apply Kd.R_alloc | apply Kd.R_drewN | apply Kd.R_drew)); exact HO762.out) (Kd.S_typed HO768.out) (by decide) hg)
   have n3_ := Aside0.mk (Kd.R_over' (v := (.slice (some ⟨go87, 0, none⟩) t766.length co74)) (by (with_reducible repeat (first | apply Kd.R_alloc | apply Kd.R_drewN | apply Kd.R_drew)); exact HO765.out) (Kd.S_typed HO768.out) (by decide) hg)
   have n4_ := Aside0.mk (ho)
   have n5_ := Aside0.mk (blk_grown (g := gb769) (o := .cells #[.slice (some ⟨go80, 0, none⟩) y778.length co69, .slice Ao73 t763.length co73, .slice (some ⟨go87, 0, none⟩) t766.length co74] 26 (0, 0)) (by (with_reducible repeat (first | refine blk_drewN ?_ _ | refine blk_drew ?_ | refine blk_alloc ?_ _)); exact BK769.out) hg (Kd.S_ne HO768.out BK769.out (by decide)))
   have n6_ := Aside0.mk (hb)
   clear BK725
   clear BK726
   clear HO762
   clear HO765
   clear HO768
   clear BK769
   clear HB
   have BK725 := n0_
   have BK726 := n1_
   have HO762 := n2_
   have HO765 := n3_
   have HO768 := n4_
   have BK769 := n5_
   have HB := n6_
   clear n0_ n1_ n2_ n3_ n4_ n5_ n6_
   clear ho hb hg
   refine hK.out _ _ ⟨(blk_cell BK769.out 0).trans rfl, (blk_cell BK769.out 1).trans rfl, (blk_cell BK769.out 2).trans rfl⟩ (fun hHeld => ?_)
   clear hK K
   refine norm_ (a' := ?_) ?_ ?_
   rotate_left
   ·
    show Act.put _ (some 49) _ = _
    simp only [Act.put, List.setIfInBounds_toArray, List.set_cons_zero, List.set_cons_succ, i64_w, i32_w]
    rfl
   refine pure_ (i := 10) (N := some 50) (v := ?_) (a' := ?_) #[true, true, true, true, true, true, true, true, true, true, true, false] rfl rfl (any_of HT_.out (by kernel_rfl)) (fun _ _ _ h => h) (Or.inl ⟨by rfl, ?_⟩) ?_ ?_
   rotate_left
   ·
    intro w'
    go_simp
    with_reducible rfl
   rotate_left
   ·
    simp only [Act.put, List.setIfInBounds_toArray, List.set_cons_zero, List.set_cons_succ, i64_w, i32_w]
    rfl
   refine last_ (i := 11) (N := none) #[true, true, true, true, true, true, true, true, true, true, true, true] rfl rfl (one_of HT_.out (by kernel_rfl)) (by decide) (fun K hK => ?_)
   have hs88 : w86.cell? ⟨gb769, 2, none⟩ = some (.slice (some ⟨go87, 0, none⟩) t766.length co74) := (blk_cell BK769.out 2).trans rfl
   have hfs88 := blk_frozen BK769.out 2
   have hns88_0 := NB725_769.out
   have hns88_1 := NB726_769.out
   have hms88_0 := NB769_725.out
   have hms88_1 := NB769_726.out
   refine skip_ (w1 := ?_) (by rfl) rfl ?_ ?_
   rotate_left
   ·
    go_simp
    rfl
   refine hK.out _ _ ?_
   clear hK K
   refine done_ (done_of HT_.out (by kernel_rfl)) ?_
   have hcz89_0 : w86.cell? ⟨gb769, 0, none⟩ = some (.slice (some ⟨go80, 0, none⟩) y778.length co69) := (blk_cell BK769.out 0).trans rfl
   have hcz89_1 : w86.cell? ⟨gb769, 1, none⟩ = some (.slice Ao73 t763.length co73) := (blk_cell BK769.out 1).trans rfl
   have hcz89_2 : w86.cell? ⟨gb769, 2, none⟩ = some (.slice (some ⟨go87, 0, none⟩) t766.length co74) := (blk_cell BK769.out 2).trans rfl
   have hfz89_0 := blk_frozen BK769.out 0
   have hfz89_1 := blk_frozen BK769.out 1
   have hfz89_2 := blk_frozen BK769.out 2
   have hcz90_0 : w86.cell? ⟨gb726, 0, none⟩ = some (.slice none 0 0) := (blk_cell BK726.out 0).trans rfl
   have hcz90_1 : w86.cell? ⟨gb726, 1, none⟩ = some (.slice none 0 0) := (blk_cell BK726.out 1).trans rfl
   have hcz90_2 : w86.cell? ⟨gb726, 2, none⟩ = some (.slice none 0 0) := (blk_cell BK726.out 2).trans rfl
   have hfz90_0 := blk_frozen BK726.out 0
   have hfz90_1 := blk_frozen BK726.out 1
   have hfz90_2 := blk_frozen BK726.out 2
   try go_wp2
   refine bodyPost_ret (results_ct rfl _ _ gb726 26 #[.slice (some ⟨go80, 0, none⟩) y778.length co69, .slice Ao73 t763.length co73, .slice (some ⟨go87, 0, none⟩) y789.length co74] (0, 0) _ rfl (by (with_reducible repeat (first | refine blk_drewN ?_ _ | refine blk_drew ?_ | refine blk_alloc ?_ _)); refine blk_put (cs := #[.slice (some ⟨go80, 0, none⟩) y778.length co69, .slice Ao73 t763.length co73, .slice none 0 0]) ?_ 2 _ rfl; (with_reducible repeat (first | refine blk_drewN ?_ _ | refine blk_drew ?_ | refine blk_alloc ?_ _)); refine blk_put (cs := #[.slice (some ⟨go80, 0, none⟩) y778.length co69, .slice none 0 0, .slice none 0 0]) ?_ 1 _ rfl; (with_reducible repeat (first | refine blk_drewN ?_ _ | refine blk_drew ?_ | refine blk_alloc ?_ _)); refine blk_put (cs := #[.slice none 0 0, .slice none 0 0, .slice none 0 0]) ?_ 0 _ rfl; (with_reducible repeat (first | refine blk_drewN ?_ _ | refine blk_drew ?_ | refine blk_alloc ?_ _)); refine blk_far ?_ NB726_769.out _; (with_reducible repeat (first | refine blk_drewN ?_ _ | refine blk_drew ?_ | refine blk_alloc ?_ _)); exact BK726.out) Try.underlying26 rfl (by kernel_rfl)) rfl ?_
   exact ⟨_, _, _, by first | rfl | (simp [errW_none, errW_some] <;> rfl) | (simp only [← hji58]; first | rfl | (simp [errW_none, errW_some] <;> rfl)) | (simp [*, errW_none, errW_some] <;> rfl), by (with_reducible repeat (first | apply Kd.R_alloc | apply Kd.R_drewN | apply Kd.R_drew)); exact Kd.R_mono (Kd.R_far (p := ⟨gb726, 2, none⟩) (Kd.R_far (p := ⟨gb726, 1, none⟩) (Kd.R_far (p := ⟨gb726, 0, none⟩) (Kd.R_far (p := ⟨gb769, 2, none⟩) (Kd.R_types (Kd.R_types HO762.out BK769.out (by decide)) BK726.out (by decide)) (fun _ hk => hk.1.2) (.slice (some ⟨go87, 0, none⟩) y789.length co74)) (fun _ hk => hk.2) (.slice (some ⟨go80, 0, none⟩) y778.length co69)) (fun _ hk => hk.2) (.slice Ao73 t763.length co73)) (fun _ hk => hk.2) (.slice (some ⟨go87, 0, none⟩) y789.length co74)) (fun _ hk => trivial), by (with_reducible repeat (first | apply Kd.R_alloc | apply Kd.R_drewN | apply Kd.R_drew)); exact Kd.R_mono (Kd.R_far (p := ⟨gb726, 2, none⟩) (Kd.R_far (p := ⟨gb726, 1, none⟩) (Kd.R_far (p := ⟨gb726, 0, none⟩) (Kd.R_far (p := ⟨gb769, 2, none⟩) (Kd.R_types (Kd.R_types HO765.out BK769.out (by decide)) BK726.out (by decide)) (fun _ hk => hk.1.2) (.slice (some ⟨go87, 0, none⟩) y789.length co74)) (fun _ hk => hk.2) (.slice (some ⟨go80, 0, none⟩) y778.length co69)) (fun _ hk => hk.2) (.slice Ao73 t763.length co73)) (fun _ hk => hk.2) (.slice (some ⟨go87, 0, none⟩) y789.length co74)) (fun _ hk => trivial), by (with_reducible repeat (first | apply Kd.S_alloc | apply Kd.S_drewN | apply Kd.S_drew)); exact Kd.S_mono (Kd.S_far (p := ⟨gb726, 2, none⟩) (Kd.S_far (p := ⟨gb726, 1, none⟩) (Kd.S_far (p := ⟨gb726, 0, none⟩) (Kd.S_far (p := ⟨gb769, 2, none⟩) (Kd.S_types (Kd.S_types HO768.out BK769.out (by decide)) BK726.out (by decide)) (fun _ hk => hk.1.2) (.slice (some ⟨go87, 0, none⟩) y789.length co74)) (fun _ hk => hk.2) (.slice (some ⟨go80, 0, none⟩) y778.length co69)) (fun _ hk => hk.2) (.slice Ao73 t763.length co73)) (fun _ hk => hk.2) (.slice (some ⟨go87, 0, none⟩) y789.length co74)) (fun _ hk => hk.1.1), by repeat (first | (with_reducible first | exact HB.out | apply below_alloc | apply pw_below_drewN | apply below_drew1 | refine below_set ?_ GE725.out | refine below_set ?_ GE726.out | refine below_set ?_ GE769.out) | exact HB.out)⟩
end Go.Proofs.Ytkmmihadcbfkoaa.PM
end

section
namespace Go.Proofs.Ytkmmihadcbfkoaa.PM
open Go.RowKit Go.Proofs.YtkmmihadcbfkoaaW.PrintWords Go.Proofs.YtkmmihadcbfkoaaW.PrintLast Go.Proofs.YtkmmihadcbfkoaaW.PrintMore
set_option linter.unusedVariables false
set_option linter.unusedSimpArgs false
def laganref04_Barred.l0 : Nat → Int → Int → List Int → Int → List Int → List (S50) → List (List Int) → List Int → List (S50) → List (List Int) → Option (List Int × (List (S50)) × (List (List Int)) × Int)
 | 0, _, _, _, _, _, _, _, _, _, _ => none
 | k + 1, x1, x2, x10, x11, x817000, x817001, x817002, x831000, x831001, x831002 => if 0 ≤ x1 then (if x1 < (x817002.length : Int) then (if x11 < ((rd_L1 x817002 x1).length : Int) then (if 0 ≤ x11 then (if (rd (rd_L1 x817002 x1) x11) = x2 then (laganref04_Barred.l0 k x1 x2 x10 (wrap64 (x11 + 1)) x817000 x817001 x817002 x831000 x831001 x831002) else (if x10.length < 17592186044416 then (laganref04_Barred.l0 k x1 x2 (x10 ++ [rd (rd_L1 x817002 x1) x11]) (wrap64 (x11 + 1)) x817000 x817001 x817002 x831000 x831001 x831002) else (none))) else (none)) else (if x1 < (x831002.length : Int) then (some (x831000, x831001, (x831002.set (x1 : Int).toNat x10), 0)) else (none))) else (none)) else (none)
def laganref04_Barred.f (k : Nat) (l0_0 : List Int) (l0_1 : List (S50)) (l0_2 : List (List Int)) (a1 : Int) (a2 : Int) : Option (List Int × (List (S50)) × (List (List Int)) × Int) := (laganref04_there.f k l0_0 l0_1 l0_2 a1 a2).bind fun t818 => (if t818 = 0 then (if 0 ≤ a1 then (if a1 < (l0_2.length : Int) then ((laganref04_Has.f k (rd_L1 l0_2 a1) a2).bind fun t820 => (if t820 = true then ((laganref04_Copied.f k l0_0 l0_1 l0_2).bind fun bt821 => (laganref04_Barred.l0 k a1 a2 ([] : List Int) 0 l0_0 l0_1 l0_2 bt821.1 bt821.2.1 bt821.2.2)) else (some (([] : List Int), ([] : List (S50)), ([] : List (List Int)), 5)))) else (none)) else (none)) else (some (([] : List Int), ([] : List (S50)), ([] : List (List Int)), t818)))
set_option maxHeartbeats 8000000 in
set_option maxRecDepth 100000 in
theorem laganref04_Barred.calls (k : Nat) (A0_0 : Option Addr) (c0_0 : Nat) (l0_0 : List Int) (A0_1 : Option Addr) (c0_1 : Nat) (l0_1 : List (S50)) (A0_2 : Option Addr) (c0_2 : Nat) (l0_2 : List (List Int)) (a1 : Int) (a2 : Int) (r1 : List Int) (r2 : List (S50)) (r3 : List (List Int)) (r4 : Int) (w : World) (hr0_0 : Kd.C (Kd.int .i64) w A0_0 l0_0.length l0_0) (hc0_0 : l0_0.length ≤ c0_0) (hr0_1 : Kd.C k50 w A0_1 l0_1.length l0_1) (hc0_1 : l0_1.length ≤ c0_1) (hr0_2 : Kd.C (Kd.slice 3 (Kd.int .i64)) w A0_2 l0_2.length l0_2) (hc0_2 : l0_2.length ≤ c0_2) (h : laganref04_Barred.f k l0_0 l0_1 l0_2 a1 a2 = some (r1, r2, r3, r4)) :
  Calls Try.prog 44 #[.agg #[.slice A0_0 l0_0.length c0_0, .slice A0_1 l0_1.length c0_1, .slice A0_2 l0_2.length c0_2], .int .i64 a1, .int .i64 a2] w fun e w' => ∃ v0_ v1_ v2_ : Value, e = .returned (.tuple #[.agg #[v0_, v1_, v2_], .int .i64 r4]) ∧ Kd.R (Kd.int .i64) 3 w' w.heap.size (fun _ => True) v0_ r1 ∧ Kd.R k50 50 w' w.heap.size (fun _ => True) v1_ r2 ∧ Kd.S (Kd.slice 3 (Kd.int .i64)) 22 w' w.heap.size (fun k_ => some k_ ≠ (v0_ : Value).ownBlock) v2_ r3 ∧ Below w.heap.size w w' := by
 have hu26 := Try.underlying26
 have HR0_0 := Aside0.mk hr0_0
 have HC0_0 := Aside0.mk hc0_0
 clear hr0_0 hc0_0
 have HR0_1 := Aside0.mk hr0_1
 have HC0_1 := Aside0.mk hc0_1
 clear hr0_1 hc0_1
 have HR0_2 := Aside0.mk hr0_2
 have HC0_2 := Aside0.mk hc0_2
 clear hr0_2 hc0_2
 have HB := Aside0.mk (Below.refl w.heap.size w)
 have H : ((laganref04_there.f k l0_0 l0_1 l0_2 a1 a2).bind fun t818 => (if t818 = 0 then (if 0 ≤ a1 then (if a1 < (l0_2.length : Int) then ((laganref04_Has.f k (rd_L1 l0_2 a1) a2).bind fun t820 => (if t820 = true then ((laganref04_Copied.f k l0_0 l0_1 l0_2).bind fun bt821 => (laganref04_Barred.l0 k a1 a2 ([] : List Int) 0 l0_0 l0_1 l0_2 bt821.1 bt821.2.1 bt821.2.2)) else (some (([] : List Int), ([] : List (S50)), ([] : List (List Int)), 5)))) else (none)) else (none)) else (some (([] : List Int), ([] : List (S50)), ([] : List (List Int)), t818)))) = some (r1, r2, r3, r4) := h
 clear h
 replace H := Option.bind_eq_some_iff.mp H
 obtain ⟨t818, A40, H⟩ := H
 replace H : (if t818 = 0 then (if 0 ≤ a1 then (if a1 < (l0_2.length : Int) then ((laganref04_Has.f k (rd_L1 l0_2 a1) a2).bind fun t820 => (if t820 = true then ((laganref04_Copied.f k l0_0 l0_1 l0_2).bind fun bt821 => (laganref04_Barred.l0 k a1 a2 ([] : List Int) 0 l0_0 l0_1 l0_2 bt821.1 bt821.2.1 bt821.2.2)) else (some (([] : List Int), ([] : List (S50)), ([] : List (List Int)), 5)))) else (none)) else (none)) else (some (([] : List Int), ([] : List (S50)), ([] : List (List Int)), t818))) = some (r1, r2, r3, r4) := H
 have A4 := Aside0.mk A40
 clear A40
 by_cases c5 : t818 = 0
 rotate_left
 ·
  rw [if_neg c5] at H
  have c5b0 : (t818 == 0) = false := beq_eq_false_iff_ne.mpr c5
  have c5b1 : (t818 != 0) = true := bne_iff_ne.mpr c5
  simp only [Option.some.injEq, Prod.mk.injEq] at H
  obtain ⟨rfl, rfl, rfl, rfl⟩ := H
  go_enter Try.func44, Try.ntmps44
  go_wp2_with (first | ((with_reducible refine gate_dst (N := 3) rfl ?_); refine box_event ?hg (N := 3) ?hd (cs := #[.slice A0_0 l0_0.length c0_0, .slice A0_1 l0_1.length c0_1, .slice A0_2 l0_2.length c0_2]) (t := 26) ?hr ?_; (case hd => rfl); (case hg => rfl); (case hr => first | (go_simp; done) | (go_simp; rfl)); intro gb816 hg w56 hbox hb; have n0_ := Aside0.mk (below_step (by repeat (first | (with_reducible first | exact HB.out | apply below_alloc | apply pw_below_drewN | apply below_drew1) | exact HB.out)) hb); have n1_ := Aside0.mk (hbox); have n2_ := Aside0.mk ((by rw [hg]; exact (below_size (by repeat (first | (with_reducible first | exact HB.out | apply below_alloc | apply pw_below_drewN | apply below_drew1) | exact HB.out))) : w.heap.size ≤ gb816)); have n3_ := Aside0.mk ((by rw [hg]; exact (below_size (by repeat (first | (with_reducible first | exact HB.out | apply below_alloc | apply pw_below_drewN | apply below_drew1) | exact HB.out))) : w.heap.size ≤ gb816)); clear HB; have HB := n0_; have BK816 := n1_; have GW816 := n2_; have GE816 := n3_; clear n0_ n1_ n2_ n3_; clear hb hbox hg) | ((with_reducible refine gate_dst (N := 6) rfl ?_); refine box_event ?hg (N := 6) ?hd (cs := #[.slice none 0 0, .slice none 0 0, .slice none 0 0]) (t := 26) ?hr ?_; (case hd => rfl); (case hg => rfl); (case hr => first | (go_simp; done) | (go_simp; rfl)); intro gb817 hg w57 hbox hb; have n0_ := Aside0.mk (blk_below (g := gb816) (o := .cells #[.slice A0_0 l0_0.length c0_0, .slice A0_1 l0_1.length c0_1, .slice A0_2 l0_2.length c0_2] 26 (0, 0)) (by (with_reducible repeat (first | refine blk_drewN ?_ _ | refine blk_drew ?_ | refine blk_alloc ?_ _)); exact BK816.out) hb); have n1_ := Aside0.mk (below_step (by repeat (first | (with_reducible first | exact HB.out | apply below_alloc | apply pw_below_drewN | apply below_drew1 | refine below_set ?_ GE816.out) | exact HB.out)) hb); have n2_ := Aside0.mk (hbox); have n3_ := Aside0.mk ((by rw [hg]; exact (below_size (by repeat (first | (with_reducible first | exact HB.out | apply below_alloc | apply pw_below_drewN | apply below_drew1 | refine below_set ?_ GE816.out) | exact HB.out))) : w.heap.size ≤ gb817)); have n4_ := Aside0.mk ((by rw [hg]; exact (below_size (by repeat (first | (with_reducible first | exact HB.out | apply below_alloc | apply pw_below_drewN | apply below_drew1 | refine below_set ?_ GE816.out) | exact HB.out))) : w.heap.size ≤ gb817)); have n5_ := Aside0.mk ((by rw [hg]; exact Nat.ne_of_lt (blk_lt (g := gb816) (o := .cells #[.slice A0_0 l0_0.length c0_0, .slice A0_1 l0_1.length c0_1, .slice A0_2 l0_2.length c0_2] 26 (0, 0)) (by (with_reducible repeat (first | refine blk_drewN ?_ _ | refine blk_drew ?_ | refine blk_alloc ?_ _)); exact BK816.out)) : gb816 ≠ gb817)); have n6_ := Aside0.mk ((by rw [hg]; exact Nat.ne_of_gt (blk_lt (g := gb816) (o := .cells #[.slice A0_0 l0_0.length c0_0, .slice A0_1 l0_1.length c0_1, .slice A0_2 l0_2.length c0_2] 26 (0, 0)) (by (with_reducible repeat (first | refine blk_drewN ?_ _ | refine blk_drew ?_ | refine blk_alloc ?_ _)); exact BK816.out)) : gb817 ≠ gb816)); clear BK816; clear HB; have BK816 := n0_; have HB := n1_; have BK817 := n2_; have GW817 := n3_; have GE817 := n4_; have NB816_817 := n5_; have NB817_816 := n6_; clear n0_ n1_ n2_ n3_ n4_ n5_ n6_; clear hb hbox hg; have hnb58 := NB816_817.out; have hnc58 := NB817_816.out; have hcz59_0 : w57.cell? ⟨gb816, 0, none⟩ = some (.slice A0_0 l0_0.length c0_0) := (blk_cell BK816.out 0).trans rfl; have hcz59_1 : w57.cell? ⟨gb816, 1, none⟩ = some (.slice A0_1 l0_1.length c0_1) := (blk_cell BK816.out 1).trans rfl; have hcz59_2 : w57.cell? ⟨gb816, 2, none⟩ = some (.slice A0_2 l0_2.length c0_2) := (blk_cell BK816.out 2).trans rfl; have hfz59_0 := blk_frozen BK816.out 0; have hfz59_1 := blk_frozen BK816.out 1; have hfz59_2 := blk_frozen BK816.out 2) | ((with_reducible refine gate_callee (f := 72) rfl ?_); refine goesL_ (some 15) rfl rfl Try.func72 (by kernel_rfl) rfl #[.agg #[.slice A0_0 l0_0.length c0_0, .slice A0_1 l0_1.length c0_1, .slice A0_2 l0_2.length c0_2], .int .i64 a1, .int .i64 a2] rfl (by (try simp only [List.map_toArray, List.map_cons, List.map_nil]); first | done | rfl | (simp only [List.length_drop, List.length_take]; rfl)) ?_; (with_reducible refine (laganref04_there.calls k _ _ l0_0 _ _ l0_1 _ _ l0_2 a1 a2 t818 _ ?side1 ?side2 ?side3 ?side4 ?side5 ?side6 A4.out).mono ?_); (case side1 => repeat (first | exact (Kd.C_below HR0_0.out HB.out) | (with_reducible refine Kd.C_alloc ?_ _) | (with_reducible refine Kd.C_drewN ?_ _) | (with_reducible refine Kd.C_drew ?_))); (case side2 => exact HC0_0.out); (case side3 => repeat (first | exact (Kd.C_below HR0_1.out HB.out) | (with_reducible refine Kd.C_alloc ?_ _) | (with_reducible refine Kd.C_drewN ?_ _) | (with_reducible refine Kd.C_drew ?_))); (case side4 => exact HC0_1.out); (case side5 => repeat (first | exact (Kd.C_below HR0_2.out HB.out) | (with_reducible refine Kd.C_alloc ?_ _) | (with_reducible refine Kd.C_drewN ?_ _) | (with_reducible refine Kd.C_drew ?_))); (case side6 => exact HC0_2.out); rintro e w60 ⟨rfl, hb⟩; refine ⟨_, rfl, ?_⟩; have n0_ := Aside0.mk (blk_below (g := gb816) (o := .cells #[.slice A0_0 l0_0.length c0_0, .slice A0_1 l0_1.length c0_1, .slice A0_2 l0_2.length c0_2] 26 (0, 0)) (by (with_reducible repeat (first | refine blk_drewN ?_ _ | refine blk_drew ?_ | refine blk_alloc ?_ _)); exact BK816.out) hb); have n1_ := Aside0.mk (blk_below (g := gb817) (o := .cells #[.slice none 0 0, .slice none 0 0, .slice none 0 0] 26 (0, 0)) (by (with_reducible repeat (first | refine blk_drewN ?_ _ | refine blk_drew ?_ | refine blk_alloc ?_ _)); exact BK817.out) hb); have n2_ := Aside0.mk (below_step (by repeat (first | (with_reducible first | exact HB.out | apply below_alloc | apply pw_below_drewN | apply below_drew1 | refine below_set ?_ GE816.out | refine below_set ?_ GE817.out) | exact HB.out)) hb); clear BK816; clear BK817; clear HB; have BK816 := n0_; have BK817 := n1_; have HB := n2_; clear n0_ n1_ n2_; (try clear hb); (try clear hb2); (try clear hk); (try clear hi); have hcz61_0 : w60.cell? ⟨gb817, 0, none⟩ = some (.slice none 0 0) := (blk_cell BK817.out 0).trans rfl; have hcz61_1 : w60.cell? ⟨gb817, 1, none⟩ = some (.slice none 0 0) := (blk_cell BK817.out 1).trans rfl; have hcz61_2 : w60.cell? ⟨gb817, 2, none⟩ = some (.slice none 0 0) := (blk_cell BK817.out 2).trans rfl; have hfz61_0 := blk_frozen BK817.out 0; have hfz61_1 := blk_frozen BK817.out 1; have hfz61_2 := blk_frozen BK817.out 2))
  refine bodyPost_ret (results_ct rfl _ _ gb817 26 #[.slice none 0 0, .slice none 0 0, .slice none 0 0] (0, 0) _ rfl (by (with_reducible repeat (first | refine blk_drewN ?_ _ | refine blk_drew ?_ | refine blk_alloc ?_ _)); refine blk_put (cs := #[.slice none 0 0, .slice none 0 0, .slice none 0 0]) ?_ 2 _ rfl; (with_reducible repeat (first | refine blk_drewN ?_ _ | refine blk_drew ?_ | refine blk_alloc ?_ _)); refine blk_put (cs := #[.slice none 0 0, .slice none 0 0, .slice none 0 0]) ?_ 1 _ rfl; (with_reducible repeat (first | refine blk_drewN ?_ _ | refine blk_drew ?_ | refine blk_alloc ?_ _)); refine blk_put (cs := #[.slice none 0 0, .slice none 0 0, .slice none 0 0]) ?_ 0 _ rfl; (with_reducible repeat (first | refine blk_drewN ?_ _ | refine blk_drew ?_ | refine blk_alloc ?_ _)); exact BK817.out) Try.underlying26 rfl (by kernel_rfl)) rfl ?_
  exact ⟨_, _, _, by first | rfl | (simp [errW_none, errW_some] <;> rfl) | (simp [*, errW_none, errW_some] <;> rfl), by first | exact Kd.R_nil _ _ _ _ _ | exact Kd.N_nil _ _ _ _ _ | exact Kd.V_nil _ _ _ _ _ | exact Kd.Q_nil _ _ _ _ _ | exact Kd.S_nil _ _ _ _ _, by first | exact Kd.R_nil _ _ _ _ _ | exact Kd.N_nil _ _ _ _ _ | exact Kd.V_nil _ _ _ _ _ | exact Kd.Q_nil _ _ _ _ _ | exact Kd.S_nil _ _ _ _ _, by first | exact Kd.S_nil _ _ _ _ _ | exact Kd.N_nil _ _ _ _ _ | exact Kd.V_nil _ _ _ _ _ | exact Kd.Q_nil _ _ _ _ _ | exact Kd.R_nil _ _ _ _ _, by repeat (first | (with_reducible first | exact HB.out | apply below_alloc | apply pw_below_drewN | apply below_drew1 | refine below_set ?_ GE816.out | refine below_set ?_ GE817.out) | exact HB.out)⟩
 rw [if_pos c5] at H
 have c5b0 : (t818 == 0) = true := beq_iff_eq.mpr c5
 have c5b1 : (t818 != 0) = false := bne_eq_false_iff_eq.mpr c5
 clear c5
 by_cases c6 : 0 ≤ a1
 rotate_left
 ·
  rw [if_neg c6] at H
  exact absurd H (by simp)
 rw [if_pos c6] at H
 have c6b0 : decide (0 ≤ a1) = true := decide_eq_true c6
 clear c6
 by_cases c7 : a1 < (l0_2.length : Int)
 rotate_left
 ·
  rw [if_neg c7] at H
  exact absurd H (by simp)
 rw [if_pos c7] at H
 have c7b0 : decide (a1 < (l0_2.length : Int)) = true := decide_eq_true c7
 clear c7
 replace H := Option.bind_eq_some_iff.mp H
 obtain ⟨t820, A80, H⟩ := H
 replace H : (if t820 = true then ((laganref04_Copied.f k l0_0 l0_1 l0_2).bind fun bt821 => (laganref04_Barred.l0 k a1 a2 ([] : List Int) 0 l0_0 l0_1 l0_2 bt821.1 bt821.2.1 bt821.2.2)) else (some (([] : List Int), ([] : List (S50)), ([] : List (List Int)), 5))) = some (r1, r2, r3, r4) := H
 have A8 := Aside0.mk A80
 clear A80
 by_cases c9 : t820 = true
 rotate_left
 ·
  replace c9 := Bool.eq_false_iff.mpr c9
  subst c9
  have H1 : (some (([] : List Int), ([] : List (S50)), ([] : List (List Int)), 5)) = some (r1, r2, r3, r4) := by rw [if_neg (show ¬ (false = true) by decide)] at H; exact H
  clear H
  have H := H1
  clear H1
  simp only [Option.some.injEq, Prod.mk.injEq] at H
  obtain ⟨rfl, rfl, rfl, rfl⟩ := H
  go_enter Try.func44, Try.ntmps44
  go_wp2_with (first | ((with_reducible refine gate_dst (N := 3) rfl ?_); refine box_event ?hg (N := 3) ?hd (cs := #[.slice A0_0 l0_0.length c0_0, .slice A0_1 l0_1.length c0_1, .slice A0_2 l0_2.length c0_2]) (t := 26) ?hr ?_; (case hd => rfl); (case hg => rfl); (case hr => first | (go_simp; done) | (go_simp; rfl)); intro gb816 hg w49 hbox hb; have n0_ := Aside0.mk (below_step (by repeat (first | (with_reducible first | exact HB.out | apply below_alloc | apply pw_below_drewN | apply below_drew1) | exact HB.out)) hb); have n1_ := Aside0.mk (hbox); have n2_ := Aside0.mk ((by rw [hg]; exact (below_size (by repeat (first | (with_reducible first | exact HB.out | apply below_alloc | apply pw_below_drewN | apply below_drew1) | exact HB.out))) : w.heap.size ≤ gb816)); have n3_ := Aside0.mk ((by rw [hg]; exact (below_size (by repeat (first | (with_reducible first | exact HB.out | apply below_alloc | apply pw_below_drewN | apply below_drew1) | exact HB.out))) : w.heap.size ≤ gb816)); clear HB; have HB := n0_; have BK816 := n1_; have GW816 := n2_; have GE816 := n3_; clear n0_ n1_ n2_ n3_; clear hb hbox hg) | ((with_reducible refine gate_dst (N := 6) rfl ?_); refine box_event ?hg (N := 6) ?hd (cs := #[.slice none 0 0, .slice none 0 0, .slice none 0 0]) (t := 26) ?hr ?_; (case hd => rfl); (case hg => rfl); (case hr => first | (go_simp; done) | (go_simp; rfl)); intro gb817 hg w50 hbox hb; have n0_ := Aside0.mk (blk_below (g := gb816) (o := .cells #[.slice A0_0 l0_0.length c0_0, .slice A0_1 l0_1.length c0_1, .slice A0_2 l0_2.length c0_2] 26 (0, 0)) (by (with_reducible repeat (first | refine blk_drewN ?_ _ | refine blk_drew ?_ | refine blk_alloc ?_ _)); exact BK816.out) hb); have n1_ := Aside0.mk (below_step (by repeat (first | (with_reducible first | exact HB.out | apply below_alloc | apply pw_below_drewN | apply below_drew1 | refine below_set ?_ GE816.out) | exact HB.out)) hb); have n2_ := Aside0.mk (hbox); have n3_ := Aside0.mk ((by rw [hg]; exact (below_size (by repeat (first | (with_reducible first | exact HB.out | apply below_alloc | apply pw_below_drewN | apply below_drew1 | refine below_set ?_ GE816.out) | exact HB.out))) : w.heap.size ≤ gb817)); have n4_ := Aside0.mk ((by rw [hg]; exact (below_size (by repeat (first | (with_reducible first | exact HB.out | apply below_alloc | apply pw_below_drewN | apply below_drew1 | refine below_set ?_ GE816.out) | exact HB.out))) : w.heap.size ≤ gb817)); have n5_ := Aside0.mk ((by rw [hg]; exact Nat.ne_of_lt (blk_lt (g := gb816) (o := .cells #[.slice A0_0 l0_0.length c0_0, .slice A0_1 l0_1.length c0_1, .slice A0_2 l0_2.length c0_2] 26 (0, 0)) (by (with_reducible repeat (first | refine blk_drewN ?_ _ | refine blk_drew ?_ | refine blk_alloc ?_ _)); exact BK816.out)) : gb816 ≠ gb817)); have n6_ := Aside0.mk ((by rw [hg]; exact Nat.ne_of_gt (blk_lt (g := gb816) (o := .cells #[.slice A0_0 l0_0.length c0_0, .slice A0_1 l0_1.length c0_1, .slice A0_2 l0_2.length c0_2] 26 (0, 0)) (by (with_reducible repeat (first | refine blk_drewN ?_ _ | refine blk_drew ?_ | refine blk_alloc ?_ _)); exact BK816.out)) : gb817 ≠ gb816)); clear BK816; clear HB; have BK816 := n0_; have HB := n1_; have BK817 := n2_; have GW817 := n3_; have GE817 := n4_; have NB816_817 := n5_; have NB817_816 := n6_; clear n0_ n1_ n2_ n3_ n4_ n5_ n6_; clear hb hbox hg; have hnb51 := NB816_817.out; have hnc51 := NB817_816.out; have hcz52_0 : w50.cell? ⟨gb816, 0, none⟩ = some (.slice A0_0 l0_0.length c0_0) := (blk_cell BK816.out 0).trans rfl; have hcz52_1 : w50.cell? ⟨gb816, 1, none⟩ = some (.slice A0_1 l0_1.length c0_1) := (blk_cell BK816.out 1).trans rfl; have hcz52_2 : w50.cell? ⟨gb816, 2, none⟩ = some (.slice A0_2 l0_2.length c0_2) := (blk_cell BK816.out 2).trans rfl; have hfz52_0 := blk_frozen BK816.out 0; have hfz52_1 := blk_frozen BK816.out 1; have hfz52_2 := blk_frozen BK816.out 2) | ((with_reducible refine gate_callee (f := 72) rfl ?_); refine goesL_ (some 15) rfl rfl Try.func72 (by kernel_rfl) rfl #[.agg #[.slice A0_0 l0_0.length c0_0, .slice A0_1 l0_1.length c0_1, .slice A0_2 l0_2.length c0_2], .int .i64 a1, .int .i64 a2] rfl (by (try simp only [List.map_toArray, List.map_cons, List.map_nil]); first | done | rfl | (simp only [List.length_drop, List.length_take]; rfl)) ?_; (with_reducible refine (laganref04_there.calls k _ _ l0_0 _ _ l0_1 _ _ l0_2 a1 a2 t818 _ ?side1 ?side2 ?side3 ?side4 ?side5 ?side6 A4.out).mono ?_); (case side1 => repeat (first | exact (Kd.C_below HR0_0.out HB.out) | (with_reducible refine Kd.C_alloc ?_ _) | (with_reducible refine Kd.C_drewN ?_ _) | (with_reducible refine Kd.C_drew ?_))); (case side2 => exact HC0_0.out); (case side3 => repeat (first | exact (Kd.C_below HR0_1.out HB.out) | (with_reducible refine Kd.C_alloc ?_ _) | (with_reducible refine Kd.C_drewN ?_ _) | (with_reducible refine Kd.C_drew ?_))); (case side4 => exact HC0_1.out); (case side5 => repeat (first | exact (Kd.C_below HR0_2.out HB.out) | (with_reducible refine Kd.C_alloc ?_ _) | (with_reducible refine Kd.C_drewN ?_ _) | (with_reducible refine Kd.C_drew ?_))); (case side6 => exact HC0_2.out); rintro e w53 ⟨rfl, hb⟩; refine ⟨_, rfl, ?_⟩; have n0_ := Aside0.mk (blk_below (g := gb816) (o := .cells #[.slice A0_0 l0_0.length c0_0, .slice A0_1 l0_1.length c0_1, .slice A0_2 l0_2.length c0_2] 26 (0, 0)) (by (with_reducible repeat (first | refine blk_drewN ?_ _ | refine blk_drew ?_ | refine blk_alloc ?_ _)); exact BK816.out) hb); have n1_ := Aside0.mk (blk_below (g := gb817) (o := .cells #[.slice none 0 0, .slice none 0 0, .slice none 0 0] 26 (0, 0)) (by (with_reducible repeat (first | refine blk_drewN ?_ _ | refine blk_drew ?_ | refine blk_alloc ?_ _)); exact BK817.out) hb); have n2_ := Aside0.mk (below_step (by repeat (first | (with_reducible first | exact HB.out | apply below_alloc | apply pw_below_drewN | apply below_drew1 | refine below_set ?_ GE816.out | refine below_set ?_ GE817.out) | exact HB.out)) hb); clear BK816; clear BK817; clear HB; have BK816 := n0_; have BK817 := n1_; have HB := n2_; clear n0_ n1_ n2_; (try clear hb); (try clear hb2); (try clear hk); (try clear hi); have hcz54_0 : w53.cell? ⟨gb816, 0, none⟩ = some (.slice A0_0 l0_0.length c0_0) := (blk_cell BK816.out 0).trans rfl; have hcz54_1 : w53.cell? ⟨gb816, 1, none⟩ = some (.slice A0_1 l0_1.length c0_1) := (blk_cell BK816.out 1).trans rfl; have hcz54_2 : w53.cell? ⟨gb816, 2, none⟩ = some (.slice A0_2 l0_2.length c0_2) := (blk_cell BK816.out 2).trans rfl; have hfz54_0 := blk_frozen BK816.out 0; have hfz54_1 := blk_frozen BK816.out 1; have hfz54_2 := blk_frozen BK816.out 2; have p819 : 0 ≤ (a1 : Int) := of_decide_eq_true (by first | (with_reducible assumption) | assumption); have q819 : a1 < (l0_2.length : Int) := of_decide_eq_true (by first | (with_reducible assumption) | assumption); obtain ⟨ad819, A819_0, c819_0, e819, hx819_0, hl819_0, hi819_0⟩ := at_L1 HR0_2.out a1 p819 q819; cases e819; replace hx819_0 := (HB.out.cell (World.block_lt_of_cell? w _ hx819_0)).trans hx819_0; have HR819_0 := Aside0.mk hi819_0; have HC819_0 := Aside0.mk hl819_0; clear hi819_0 hl819_0; replace p819 := eq_true p819; replace q819 := eq_true q819) | ((with_reducible refine gate_callee (f := 33) rfl ?_); refine goesL_ (some 26) rfl rfl Try.func33 (by kernel_rfl) rfl #[.slice A819_0 (rd_L1 l0_2 a1).length c819_0, .int .i64 a2] rfl (by (try simp only [List.map_toArray, List.map_cons, List.map_nil]); first | done | rfl | (simp only [List.length_drop, List.length_take]; rfl)) ?_; (with_reducible refine (laganref04_Has.calls k _ _ (rd_L1 l0_2 a1) a2 false _ ?side1 ?side2 A8.out).mono ?_); (case side1 => repeat (first | exact (Kd.C_below HR819_0.out HB.out) | (with_reducible refine Kd.C_alloc ?_ _) | (with_reducible refine Kd.C_drewN ?_ _) | (with_reducible refine Kd.C_drew ?_))); (case side2 => exact HC819_0.out); rintro e w' ⟨rfl, ⟨nd, rfl⟩⟩; refine ⟨_, rfl, ?_⟩; (try (rw [drewN_self w53]; generalize hq_ : World.drewN w53 _ = w53; have n0_ : Aside0 (w53.heap[gb816]? = some (.cells #[.slice A0_0 l0_0.length c0_0, .slice A0_1 l0_1.length c0_1, .slice (some ad819) l0_2.length c0_2] 26 (0, 0))) := ⟨by rw [← hq_]; exact (by (with_reducible repeat (first | refine blk_drewN ?_ _ | refine blk_drew ?_ | refine blk_alloc ?_ _)); exact BK816.out)⟩; have n1_ : Aside0 (w53.heap[gb817]? = some (.cells #[.slice none 0 0, .slice none 0 0, .slice none 0 0] 26 (0, 0))) := ⟨by rw [← hq_]; exact (by (with_reducible repeat (first | refine blk_drewN ?_ _ | refine blk_drew ?_ | refine blk_alloc ?_ _)); exact BK817.out)⟩; have n2_ : Aside0 (Below w.heap.size w w53) := ⟨by rw [← hq_]; exact (by repeat (first | (with_reducible first | exact HB.out | apply below_alloc | apply pw_below_drewN | apply below_drew1 | refine below_set ?_ GE816.out | refine below_set ?_ GE817.out) | exact HB.out))⟩; clear BK816 BK817 HB hq_; have BK816 := n0_; have BK817 := n1_; have HB := n2_; clear n0_ n1_ n2_)); have hcz55_0 : w53.cell? ⟨gb817, 0, none⟩ = some (.slice none 0 0) := (blk_cell BK817.out 0).trans rfl; have hcz55_1 : w53.cell? ⟨gb817, 1, none⟩ = some (.slice none 0 0) := (blk_cell BK817.out 1).trans rfl; have hcz55_2 : w53.cell? ⟨gb817, 2, none⟩ = some (.slice none 0 0) := (blk_cell BK817.out 2).trans rfl; have hfz55_0 := blk_frozen BK817.out 0; have hfz55_1 := blk_frozen BK817.out 1; have hfz55_2 := blk_frozen BK817.out 2))
  refine bodyPost_ret (results_ct rfl _ _ gb817 26 #[.slice none 0 0, .slice none 0 0, .slice none 0 0] (0, 0) _ rfl (by (with_reducible repeat (first | refine blk_drewN ?_ _ | refine blk_drew ?_ | refine blk_alloc ?_ _)); refine blk_put (cs := #[.slice none 0 0, .slice none 0 0, .slice none 0 0]) ?_ 2 _ rfl; (with_reducible repeat (first | refine blk_drewN ?_ _ | refine blk_drew ?_ | refine blk_alloc ?_ _)); refine blk_put (cs := #[.slice none 0 0, .slice none 0 0, .slice none 0 0]) ?_ 1 _ rfl; (with_reducible repeat (first | refine blk_drewN ?_ _ | refine blk_drew ?_ | refine blk_alloc ?_ _)); refine blk_put (cs := #[.slice none 0 0, .slice none 0 0, .slice none 0 0]) ?_ 0 _ rfl; (with_reducible repeat (first | refine blk_drewN ?_ _ | refine blk_drew ?_ | refine blk_alloc ?_ _)); exact BK817.out) Try.underlying26 rfl (by kernel_rfl)) rfl ?_
  exact ⟨_, _, _, by first | rfl | (simp [errW_none, errW_some] <;> rfl) | (simp [*, errW_none, errW_some] <;> rfl), by first | exact Kd.R_nil _ _ _ _ _ | exact Kd.N_nil _ _ _ _ _ | exact Kd.V_nil _ _ _ _ _ | exact Kd.Q_nil _ _ _ _ _ | exact Kd.S_nil _ _ _ _ _, by first | exact Kd.R_nil _ _ _ _ _ | exact Kd.N_nil _ _ _ _ _ | exact Kd.V_nil _ _ _ _ _ | exact Kd.Q_nil _ _ _ _ _ | exact Kd.S_nil _ _ _ _ _, by first | exact Kd.S_nil _ _ _ _ _ | exact Kd.N_nil _ _ _ _ _ | exact Kd.V_nil _ _ _ _ _ | exact Kd.Q_nil _ _ _ _ _ | exact Kd.R_nil _ _ _ _ _, by repeat (first | (with_reducible first | exact HB.out | apply below_alloc | apply pw_below_drewN | apply below_drew1 | refine below_set ?_ GE816.out | refine below_set ?_ GE817.out) | exact HB.out)⟩
 subst c9
 have H1 : ((laganref04_Copied.f k l0_0 l0_1 l0_2).bind fun bt821 => (laganref04_Barred.l0 k a1 a2 ([] : List Int) 0 l0_0 l0_1 l0_2 bt821.1 bt821.2.1 bt821.2.2)) = some (r1, r2, r3, r4) := by rw [if_pos rfl] at H; exact H
 clear H
 have H := H1
 clear H1
 replace H := Option.bind_eq_some_iff.mp H
 obtain ⟨⟨t821, t824, t827⟩, A100, H⟩ := H
 replace H : (laganref04_Barred.l0 k a1 a2 ([] : List Int) 0 l0_0 l0_1 l0_2 t821 t824 t827) = some (r1, r2, r3, r4) := H
 have A10 := Aside0.mk A100
 clear A100
 have H' := Aside0.mk H
 clear H
 go_enter Try.func44, Try.ntmps44
 go_wp2_with (first | ((with_reducible refine gate_dst (N := 3) rfl ?_); refine box_event ?hg (N := 3) ?hd (cs := #[.slice A0_0 l0_0.length c0_0, .slice A0_1 l0_1.length c0_1, .slice A0_2 l0_2.length c0_2]) (t := 26) ?hr ?_; (case hd => rfl); (case hg => rfl); (case hr => first | (go_simp; done) | (go_simp; rfl)); intro gb816 hg w11 hbox hb; have n0_ := Aside0.mk (below_step (by repeat (first | (with_reducible first | exact HB.out | apply below_alloc | apply pw_below_drewN | apply below_drew1) | exact HB.out)) hb); have n1_ := Aside0.mk (hbox); have n2_ := Aside0.mk ((by rw [hg]; exact (below_size (by repeat (first | (with_reducible first | exact HB.out | apply below_alloc | apply pw_below_drewN | apply below_drew1) | exact HB.out))) : w.heap.size ≤ gb816)); have n3_ := Aside0.mk ((by rw [hg]; exact (below_size (by repeat (first | (with_reducible first | exact HB.out | apply below_alloc | apply pw_below_drewN | apply below_drew1) | exact HB.out))) : w.heap.size ≤ gb816)); clear HB; have HB := n0_; have BK816 := n1_; have GW816 := n2_; have GE816 := n3_; clear n0_ n1_ n2_ n3_; clear hb hbox hg) | ((with_reducible refine gate_dst (N := 6) rfl ?_); refine box_event ?hg (N := 6) ?hd (cs := #[.slice none 0 0, .slice none 0 0, .slice none 0 0]) (t := 26) ?hr ?_; (case hd => rfl); (case hg => rfl); (case hr => first | (go_simp; done) | (go_simp; rfl)); intro gb817 hg w12 hbox hb; have n0_ := Aside0.mk (blk_below (g := gb816) (o := .cells #[.slice A0_0 l0_0.length c0_0, .slice A0_1 l0_1.length c0_1, .slice A0_2 l0_2.length c0_2] 26 (0, 0)) (by (with_reducible repeat (first | refine blk_drewN ?_ _ | refine blk_drew ?_ | refine blk_alloc ?_ _)); exact BK816.out) hb); have n1_ := Aside0.mk (below_step (by repeat (first | (with_reducible first | exact HB.out | apply below_alloc | apply pw_below_drewN | apply below_drew1 | refine below_set ?_ GE816.out) | exact HB.out)) hb); have n2_ := Aside0.mk (hbox); have n3_ := Aside0.mk ((by rw [hg]; exact (below_size (by repeat (first | (with_reducible first | exact HB.out | apply below_alloc | apply pw_below_drewN | apply below_drew1 | refine below_set ?_ GE816.out) | exact HB.out))) : w.heap.size ≤ gb817)); have n4_ := Aside0.mk ((by rw [hg]; exact (below_size (by repeat (first | (with_reducible first | exact HB.out | apply below_alloc | apply pw_below_drewN | apply below_drew1 | refine below_set ?_ GE816.out) | exact HB.out))) : w.heap.size ≤ gb817)); have n5_ := Aside0.mk ((by rw [hg]; exact Nat.ne_of_lt (blk_lt (g := gb816) (o := .cells #[.slice A0_0 l0_0.length c0_0, .slice A0_1 l0_1.length c0_1, .slice A0_2 l0_2.length c0_2] 26 (0, 0)) (by (with_reducible repeat (first | refine blk_drewN ?_ _ | refine blk_drew ?_ | refine blk_alloc ?_ _)); exact BK816.out)) : gb816 ≠ gb817)); have n6_ := Aside0.mk ((by rw [hg]; exact Nat.ne_of_gt (blk_lt (g := gb816) (o := .cells #[.slice A0_0 l0_0.length c0_0, .slice A0_1 l0_1.length c0_1, .slice A0_2 l0_2.length c0_2] 26 (0, 0)) (by (with_reducible repeat (first | refine blk_drewN ?_ _ | refine blk_drew ?_ | refine blk_alloc ?_ _)); exact BK816.out)) : gb817 ≠ gb816)); clear BK816; clear HB; have BK816 := n0_; have HB := n1_; have BK817 := n2_; have GW817 := n3_; have GE817 := n4_; have NB816_817 := n5_; have NB817_816 := n6_; clear n0_ n1_ n2_ n3_ n4_ n5_ n6_; clear hb hbox hg; have hnb13 := NB816_817.out; have hnc13 := NB817_816.out; have hcz14_0 : w12.cell? ⟨gb816, 0, none⟩ = some (.slice A0_0 l0_0.length c0_0) := (blk_cell BK816.out 0).trans rfl; have hcz14_1 : w12.cell? ⟨gb816, 1, none⟩ = some (.slice A0_1 l0_1.length c0_1) := (blk_cell BK816.out 1).trans rfl; have hcz14_2 : w12.cell? ⟨gb816, 2, none⟩ = some (.slice A0_2 l0_2.length c0_2) := (blk_cell BK816.out 2).trans rfl; have hfz14_0 := blk_frozen BK816.out 0; have hfz14_1 := blk_frozen BK816.out 1; have hfz14_2 := blk_frozen BK816.out 2) | ((with_reducible refine gate_callee (f := 72) rfl ?_); refine goesL_ (some 15) rfl rfl Try.func72 (by kernel_rfl) rfl #[.agg #[.slice A0_0 l0_0.length c0_0, .slice A0_1 l0_1.length c0_1, .slice A0_2 l0_2.length c0_2], .int .i64 a1, .int .i64 a2] rfl (by (try simp only [List.map_toArray, List.map_cons, List.map_nil]); first | done | rfl | (simp only [List.length_drop, List.length_take]; rfl)) ?_; (with_reducible refine (laganref04_there.calls k _ _ l0_0 _ _ l0_1 _ _ l0_2 a1 a2 t818 _ ?side1 ?side2 ?side3 ?side4 ?side5 ?side6 A4.out).mono ?_); (case side1 => repeat (first | exact (Kd.C_below HR0_0.out HB.out) | (with_reducible refine Kd.C_alloc ?_ _) | (with_reducible refine Kd.C_drewN ?_ _) | (with_reducible refine Kd.C_drew ?_))); (case side2 => exact HC0_0.out); (case side3 => repeat (first | exact (Kd.C_below HR0_1.out HB.out) | (with_reducible refine Kd.C_alloc ?_ _) | (with_reducible refine Kd.C_drewN ?_ _) | (with_reducible refine Kd.C_drew ?_))); (case side4 => exact HC0_1.out); (case side5 => repeat (first | exact (Kd.C_below HR0_2.out HB.out) | (with_reducible refine Kd.C_alloc ?_ _) | (with_reducible refine Kd.C_drewN ?_ _) | (with_reducible refine Kd.C_drew ?_))); (case side6 => exact HC0_2.out); rintro e w15 ⟨rfl, hb⟩; refine ⟨_, rfl, ?_⟩; have n0_ := Aside0.mk (blk_below (g := gb816) (o := .cells #[.slice A0_0 l0_0.length c0_0, .slice A0_1 l0_1.length c0_1, .slice A0_2 l0_2.length c0_2] 26 (0, 0)) (by (with_reducible repeat (first | refine blk_drewN ?_ _ | refine blk_drew ?_ | refine blk_alloc ?_ _)); exact BK816.out) hb); have n1_ := Aside0.mk (blk_below (g := gb817) (o := .cells #[.slice none 0 0, .slice none 0 0, .slice none 0 0] 26 (0, 0)) (by (with_reducible repeat (first | refine blk_drewN ?_ _ | refine blk_drew ?_ | refine blk_alloc ?_ _)); exact BK817.out) hb); have n2_ := Aside0.mk (below_step (by repeat (first | (with_reducible first | exact HB.out | apply below_alloc | apply pw_below_drewN | apply below_drew1 | refine below_set ?_ GE816.out | refine below_set ?_ GE817.out) | exact HB.out)) hb); clear BK816; clear BK817; clear HB; have BK816 := n0_; have BK817 := n1_; have HB := n2_; clear n0_ n1_ n2_; (try clear hb); (try clear hb2); (try clear hk); (try clear hi); have hcz16_0 : w15.cell? ⟨gb816, 0, none⟩ = some (.slice A0_0 l0_0.length c0_0) := (blk_cell BK816.out 0).trans rfl; have hcz16_1 : w15.cell? ⟨gb816, 1, none⟩ = some (.slice A0_1 l0_1.length c0_1) := (blk_cell BK816.out 1).trans rfl; have hcz16_2 : w15.cell? ⟨gb816, 2, none⟩ = some (.slice A0_2 l0_2.length c0_2) := (blk_cell BK816.out 2).trans rfl; have hfz16_0 := blk_frozen BK816.out 0; have hfz16_1 := blk_frozen BK816.out 1; have hfz16_2 := blk_frozen BK816.out 2; have p819 : 0 ≤ (a1 : Int) := of_decide_eq_true (by first | (with_reducible assumption) | assumption); have q819 : a1 < (l0_2.length : Int) := of_decide_eq_true (by first | (with_reducible assumption) | assumption); obtain ⟨ad819, A819_0, c819_0, e819, hx819_0, hl819_0, hi819_0⟩ := at_L1 HR0_2.out a1 p819 q819; cases e819; replace hx819_0 := (HB.out.cell (World.block_lt_of_cell? w _ hx819_0)).trans hx819_0; have HR819_0 := Aside0.mk hi819_0; have HC819_0 := Aside0.mk hl819_0; clear hi819_0 hl819_0; replace p819 := eq_true p819; replace q819 := eq_true q819) | ((with_reducible refine gate_callee (f := 33) rfl ?_); refine goesL_ (some 26) rfl rfl Try.func33 (by kernel_rfl) rfl #[.slice A819_0 (rd_L1 l0_2 a1).length c819_0, .int .i64 a2] rfl (by (try simp only [List.map_toArray, List.map_cons, List.map_nil]); first | done | rfl | (simp only [List.length_drop, List.length_take]; rfl)) ?_; (with_reducible refine (laganref04_Has.calls k _ _ (rd_L1 l0_2 a1) a2 true _ ?side1 ?side2 A8.out).mono ?_); (case side1 => repeat (first | exact (Kd.C_below HR819_0.out HB.out) | (with_reducible refine Kd.C_alloc ?_ _) | (with_reducible refine Kd.C_drewN ?_ _) | (with_reducible refine Kd.C_drew ?_))); (case side2 => exact HC819_0.out); rintro e w' ⟨rfl, ⟨nd, rfl⟩⟩; refine ⟨_, rfl, ?_⟩; (try (rw [drewN_self w15]; generalize hq_ : World.drewN w15 _ = w15; have n0_ : Aside0 (w15.heap[gb816]? = some (.cells #[.slice A0_0 l0_0.length c0_0, .slice A0_1 l0_1.length c0_1, .slice (some ad819) l0_2.length c0_2] 26 (0, 0))) := ⟨by rw [← hq_]; exact (by (with_reducible repeat (first | refine blk_drewN ?_ _ | refine blk_drew ?_ | refine blk_alloc ?_ _)); exact BK816.out)⟩; have n1_ : Aside0 (w15.heap[gb817]? = some (.cells #[.slice none 0 0, .slice none 0 0, .slice none 0 0] 26 (0, 0))) := ⟨by rw [← hq_]; exact (by (with_reducible repeat (first | refine blk_drewN ?_ _ | refine blk_drew ?_ | refine blk_alloc ?_ _)); exact BK817.out)⟩; have n2_ : Aside0 (Below w.heap.size w w15) := ⟨by rw [← hq_]; exact (by repeat (first | (with_reducible first | exact HB.out | apply below_alloc | apply pw_below_drewN | apply below_drew1 | refine below_set ?_ GE816.out | refine below_set ?_ GE817.out) | exact HB.out))⟩; clear BK816 BK817 HB hq_; have BK816 := n0_; have BK817 := n1_; have HB := n2_; clear n0_ n1_ n2_; have hcy0 : w15.cell? ⟨gb816, 0, none⟩ = some (.slice A0_0 l0_0.length c0_0) := (blk_cell BK816.out 0).trans rfl; have hfy0 := blk_frozen BK816.out 0; have hcy1 : w15.cell? ⟨gb816, 1, none⟩ = some (.slice A0_1 l0_1.length c0_1) := (blk_cell BK816.out 1).trans rfl; have hfy1 := blk_frozen BK816.out 1; have hcy2 : w15.cell? ⟨gb816, 2, none⟩ = some (.slice (some ad819) l0_2.length c0_2) := (blk_cell BK816.out 2).trans rfl; have hfy2 := blk_frozen BK816.out 2))) | ((with_reducible refine gate_callee (f := 26) rfl ?_); refine goesL_ (some 30) rfl rfl Try.func26 (by kernel_rfl) rfl #[.agg #[.slice A0_0 l0_0.length c0_0, .slice A0_1 l0_1.length c0_1, .slice (some ad819) l0_2.length c0_2]] rfl (by (try simp only [List.map_toArray, List.map_cons, List.map_nil]); first | done | rfl | (simp only [List.length_drop, List.length_take]; rfl)) ?_; (with_reducible refine (laganref04_Copied.calls k _ _ l0_0 _ _ l0_1 _ _ l0_2 t821 t824 t827 _ ?side1 ?side2 ?side3 ?side4 ?side5 ?side6 A10.out).mono ?_); (case side1 => repeat (first | exact (Kd.C_below HR0_0.out HB.out) | (with_reducible refine Kd.C_alloc ?_ _) | (with_reducible refine Kd.C_drewN ?_ _) | (with_reducible refine Kd.C_drew ?_))); (case side2 => exact HC0_0.out); (case side3 => repeat (first | exact (Kd.C_below HR0_1.out HB.out) | (with_reducible refine Kd.C_alloc ?_ _) | (with_reducible refine Kd.C_drewN ?_ _) | (with_reducible refine Kd.C_drew ?_))); (case side4 => exact HC0_1.out); (case side5 => repeat (first | exact (Kd.C_below HR0_2.out HB.out) | (with_reducible refine Kd.C_alloc ?_ _) | (with_reducible refine Kd.C_drewN ?_ _) | (with_reducible refine Kd.C_drew ?_))); (case side6 => exact HC0_2.out); rintro e w17 ⟨v822, v825, v828, rfl, ho0, ho1, ho2, hb⟩; refine ⟨_, rfl, ?_⟩; have n0_ := Aside0.mk (Kd.R_lower ho0 (below_size (by repeat (first | (with_reducible first | exact HB.out | apply below_alloc | apply pw_below_drewN | apply below_drew1 | refine below_set ?_ GE816.out | refine below_set ?_ GE817.out) | exact HB.out)))); have n1_ := Aside0.mk (Kd.R_lower ho1 (below_size (by repeat (first | (with_reducible first | exact HB.out | apply below_alloc | apply pw_below_drewN | apply below_drew1 | refine below_set ?_ GE816.out | refine below_set ?_ GE817.out) | exact HB.out)))); have n2_ := Aside0.mk (Kd.S_lower ho2 (below_size (by repeat (first | (with_reducible first | exact HB.out | apply below_alloc | apply pw_below_drewN | apply below_drew1 | refine below_set ?_ GE816.out | refine below_set ?_ GE817.out) | exact HB.out)))); have n3_ := Aside0.mk (blk_below (g := gb816) (o := .cells #[.slice A0_0 l0_0.length c0_0, .slice A0_1 l0_1.length c0_1, .slice (some ad819) l0_2.length c0_2] 26 (0, 0)) (by (with_reducible repeat (first | refine blk_drewN ?_ _ | refine blk_drew ?_ | refine blk_alloc ?_ _)); exact BK816.out) hb); have n4_ := Aside0.mk (blk_below (g := gb817) (o := .cells #[.slice none 0 0, .slice none 0 0, .slice none 0 0] 26 (0, 0)) (by (with_reducible repeat (first | refine blk_drewN ?_ _ | refine blk_drew ?_ | refine blk_alloc ?_ _)); exact BK817.out) hb); have n5_ := Aside0.mk (below_step (by repeat (first | (with_reducible first | exact HB.out | apply below_alloc | apply pw_below_drewN | apply below_drew1 | refine below_set ?_ GE816.out | refine below_set ?_ GE817.out) | exact HB.out)) hb); clear BK816; clear BK817; clear HB; have HO823 := n0_; have HO826 := n1_; have HO829 := n2_; have BK816 := n3_; have BK817 := n4_; have HB := n5_; clear n0_ n1_ n2_ n3_ n4_ n5_; (try clear hb); (try clear hb2); (try clear hk); (try clear hi); (try clear ho0); (try clear ho1); (try clear ho2)) | ((with_reducible refine gate_dst (N := 9) rfl ?_); refine box_event ?hg (N := 9) ?hd (cs := #[.slice none 0 0, .slice none 0 0, .slice none 0 0]) (t := 26) ?hr ?_; (case hd => rfl); (case hg => rfl); (case hr => first | (go_simp; done) | (go_simp; rfl)); intro gb830 hg w18 hbox hb; have n0_ := Aside0.mk (Kd.R_below (by (with_reducible repeat (first | apply Kd.R_alloc | apply Kd.R_drewN | apply Kd.R_drew)); exact HO823.out) hb); have n1_ := Aside0.mk (Kd.R_below (by (with_reducible repeat (first | apply Kd.R_alloc | apply Kd.R_drewN | apply Kd.R_drew)); exact HO826.out) hb); have n2_ := Aside0.mk (Kd.S_below (by (with_reducible repeat (first | apply Kd.S_alloc | apply Kd.S_drewN | apply Kd.S_drew)); exact HO829.out) hb); have n3_ := Aside0.mk (blk_below (g := gb816) (o := .cells #[.slice A0_0 l0_0.length c0_0, .slice A0_1 l0_1.length c0_1, .slice (some ad819) l0_2.length c0_2] 26 (0, 0)) (by (with_reducible repeat (first | refine blk_drewN ?_ _ | refine blk_drew ?_ | refine blk_alloc ?_ _)); exact BK816.out) hb); have n4_ := Aside0.mk (blk_below (g := gb817) (o := .cells #[.slice none 0 0, .slice none 0 0, .slice none 0 0] 26 (0, 0)) (by (with_reducible repeat (first | refine blk_drewN ?_ _ | refine blk_drew ?_ | refine blk_alloc ?_ _)); exact BK817.out) hb); have n5_ := Aside0.mk (below_step (by repeat (first | (with_reducible first | exact HB.out | apply below_alloc | apply pw_below_drewN | apply below_drew1 | refine below_set ?_ GE816.out | refine below_set ?_ GE817.out) | exact HB.out)) hb); have n6_ := Aside0.mk (hbox); have n7_ := Aside0.mk ((by rw [hg]; exact (below_size (by repeat (first | (with_reducible first | exact HB.out | apply below_alloc | apply pw_below_drewN | apply below_drew1 | refine below_set ?_ GE816.out | refine below_set ?_ GE817.out) | exact HB.out))) : w.heap.size ≤ gb830)); have n8_ := Aside0.mk ((by rw [hg]; exact (below_size (by repeat (first | (with_reducible first | exact HB.out | apply below_alloc | apply pw_below_drewN | apply below_drew1 | refine below_set ?_ GE816.out | refine below_set ?_ GE817.out) | exact HB.out))) : w.heap.size ≤ gb830)); have n9_ := Aside0.mk ((by rw [hg]; exact Nat.ne_of_lt (blk_lt (g := gb816) (o := .cells #[.slice A0_0 l0_0.length c0_0, .slice A0_1 l0_1.length c0_1, .slice (some ad819) l0_2.length c0_2] 26 (0, 0)) (by (with_reducible repeat (first | refine blk_drewN ?_ _ | refine blk_drew ?_ | refine blk_alloc ?_ _)); exact BK816.out)) : gb816 ≠ gb830)); have n10_ := Aside0.mk ((by rw [hg]; exact Nat.ne_of_gt (blk_lt (g := gb816) (o := .cells #[.slice A0_0 l0_0.length c0_0, .slice A0_1 l0_1.length c0_1, .slice (some ad819) l0_2.length c0_2] 26 (0, 0)) (by (with_reducible repeat (first | refine blk_drewN ?_ _ | refine blk_drew ?_ | refine blk_alloc ?_ _)); exact BK816.out)) : gb830 ≠ gb816)); have n11_ := Aside0.mk ((by rw [hg]; exact Nat.ne_of_lt (blk_lt (g := gb817) (o := .cells #[.slice none 0 0, .slice none 0 0, .slice none 0 0] 26 (0, 0)) (by (with_reducible repeat (first | refine blk_drewN ?_ _ | refine blk_drew ?_ | refine blk_alloc ?_ _)); exact BK817.out)) : gb817 ≠ gb830)); have n12_ := Aside0.mk ((by rw [hg]; exact Nat.ne_of_gt (blk_lt (g := gb817) (o := .cells #[.slice none 0 0, .slice none 0 0, .slice none 0 0] 26 (0, 0)) (by (with_reducible repeat (first | refine blk_drewN ?_ _ | refine blk_drew ?_ | refine blk_alloc ?_ _)); exact BK817.out)) : gb830 ≠ gb817)); clear HO823; clear HO826; clear HO829; clear BK816; clear BK817; clear HB; have HO823 := n0_; have HO826 := n1_; have HO829 := n2_; have BK816 := n3_; have BK817 := n4_; have HB := n5_; have BK830 := n6_; have GW830 := n7_; have GE830 := n8_; have NB816_830 := n9_; have NB830_816 := n10_; have NB817_830 := n11_; have NB830_817 := n12_; clear n0_ n1_ n2_ n3_ n4_ n5_ n6_ n7_ n8_ n9_ n10_ n11_ n12_; clear hb hbox hg; obtain ⟨Ao19, co19, eo19⟩ := Kd.R_slice HO823.out; subst eo19; have hnb20 := NB830_816.out; have hnc20 := NB816_830.out; have hnb21 := NB830_817.out; have hnc21 := NB817_830.out; have hcz22_0 : w18.cell? ⟨gb830, 0, none⟩ = some (.slice none 0 0) := (blk_cell BK830.out 0).trans rfl; have hcz22_1 : w18.cell? ⟨gb830, 1, none⟩ = some (.slice none 0 0) := (blk_cell BK830.out 1).trans rfl; have hcz22_2 : w18.cell? ⟨gb830, 2, none⟩ = some (.slice none 0 0) := (blk_cell BK830.out 2).trans rfl; have hfz22_0 := blk_frozen BK830.out 0; have hfz22_1 := blk_frozen BK830.out 1; have hfz22_2 := blk_frozen BK830.out 2; obtain ⟨Ao23, co23, eo23⟩ := Kd.R_slice HO826.out; subst eo23; obtain ⟨Ao24, co24, eo24⟩ := Kd.S_slice HO829.out; subst eo24))
 go_loopg [10, 11] k (fun kq v10 v11 w' => ∃ (x10_1 : List Int) (x11_1 : Int), v11 = .int .i64 x11_1 ∧ Aside0 (laganref04_Barred.l0 kq a1 a2 x10_1 x11_1 l0_0 l0_1 l0_2 t821 t824 t827 = some (r1, r2, r3, r4)) ∧ Aside0 (kq ≤ k) ∧ Aside0 (Kd.R (Kd.int .i64) 3 w' w.heap.size (fun k_ => some k_ ≠ ((.slice Ao19 t821.length co19) : Value).ownBlock) v10 x10_1) ∧ Aside0 (Kd.R (Kd.int .i64) 3 w' w.heap.size (fun k_ => some k_ ≠ (v10 : Value).ownBlock) (.slice Ao19 t821.length co19) t821) ∧ Aside0 (Kd.R k50 50 w' w.heap.size (fun _ => True) (.slice Ao23 t824.length co23) t824) ∧ Aside0 (Kd.S (Kd.slice 3 (Kd.int .i64)) 22 w' w.heap.size (fun k_ => some k_ ≠ (v10 : Value).ownBlock ∧ some k_ ≠ ((.slice Ao19 t821.length co19) : Value).ownBlock) (.slice Ao24 t827.length co24) t827) ∧ Aside0 (w'.heap[gb816]? = some (.cells #[(.slice A0_0 l0_0.length c0_0), (.slice A0_1 l0_1.length c0_1), (.slice (some ad819) l0_2.length c0_2)] 26 (0, 0))) ∧ Aside0 (w'.heap[gb817]? = some (.cells #[(.slice none 0 0), (.slice none 0 0), (.slice none 0 0)] 26 (0, 0))) ∧ Aside0 (w'.heap[gb830]? = some (.cells #[(.slice Ao19 t821.length co19), (.slice Ao23 t824.length co23), (.slice Ao24 t827.length co24)] 26 (0, 0))) ∧ Aside0 (Below w.heap.size w w'))
 case atStart => exact ⟨(([] : List Int)), (0), (by first | rfl | (simp; done) | (simp [*]; done)), H', ⟨Nat.le_refl _⟩, ⟨by first | exact Kd.R_nil _ _ _ _ _ | exact Kd.N_nil _ _ _ _ _ | exact Kd.V_nil _ _ _ _ _ | exact Kd.Q_nil _ _ _ _ _ | exact Kd.S_nil _ _ _ _ _⟩, ⟨by (with_reducible repeat (first | apply Kd.R_alloc | apply Kd.R_drewN | apply Kd.R_drew)); exact Kd.R_mono (Kd.R_far (p := ⟨gb830, 2, none⟩) (Kd.R_far (p := ⟨gb830, 1, none⟩) (Kd.R_far (p := ⟨gb830, 0, none⟩) (Kd.R_types HO823.out BK830.out (by decide)) (fun _ hk => hk.2) (.slice Ao19 t821.length co19)) (fun _ hk => hk.2) (.slice Ao23 t824.length co23)) (fun _ hk => hk.2) (.slice Ao24 t827.length co24)) (fun _ hk => (by simp [Value.ownBlock]))⟩, ⟨by (with_reducible repeat (first | apply Kd.R_alloc | apply Kd.R_drewN | apply Kd.R_drew)); exact Kd.R_mono (Kd.R_far (p := ⟨gb830, 2, none⟩) (Kd.R_far (p := ⟨gb830, 1, none⟩) (Kd.R_far (p := ⟨gb830, 0, none⟩) (Kd.R_types HO826.out BK830.out (by decide)) (fun _ hk => hk.2) (.slice Ao19 t821.length co19)) (fun _ hk => hk.2) (.slice Ao23 t824.length co23)) (fun _ hk => hk.2) (.slice Ao24 t827.length co24)) (fun _ hk => trivial)⟩, ⟨by (with_reducible repeat (first | apply Kd.S_alloc | apply Kd.S_drewN | apply Kd.S_drew)); exact Kd.S_mono (Kd.S_far (p := ⟨gb830, 2, none⟩) (Kd.S_far (p := ⟨gb830, 1, none⟩) (Kd.S_far (p := ⟨gb830, 0, none⟩) (Kd.S_types HO829.out BK830.out (by decide)) (fun _ hk => hk.2) (.slice Ao19 t821.length co19)) (fun _ hk => hk.2) (.slice Ao23 t824.length co23)) (fun _ hk => hk.2) (.slice Ao24 t827.length co24)) (fun _ hk => ⟨(by simp [Value.ownBlock]), hk.1⟩)⟩, ⟨by (with_reducible repeat (first | refine blk_drewN ?_ _ | refine blk_drew ?_ | refine blk_alloc ?_ _)); refine blk_far ?_ NB816_830.out _; (with_reducible repeat (first | refine blk_drewN ?_ _ | refine blk_drew ?_ | refine blk_alloc ?_ _)); refine blk_far ?_ NB816_830.out _; (with_reducible repeat (first | refine blk_drewN ?_ _ | refine blk_drew ?_ | refine blk_alloc ?_ _)); refine blk_far ?_ NB816_830.out _; (with_reducible repeat (first | refine blk_drewN ?_ _ | refine blk_drew ?_ | refine blk_alloc ?_ _)); exact BK816.out⟩, ⟨by (with_reducible repeat (first | refine blk_drewN ?_ _ | refine blk_drew ?_ | refine blk_alloc ?_ _)); refine blk_far ?_ NB817_830.out _; (with_reducible repeat (first | refine blk_drewN ?_ _ | refine blk_drew ?_ | refine blk_alloc ?_ _)); refine blk_far ?_ NB817_830.out _; (with_reducible repeat (first | refine blk_drewN ?_ _ | refine blk_drew ?_ | refine blk_alloc ?_ _)); refine blk_far ?_ NB817_830.out _; (with_reducible repeat (first | refine blk_drewN ?_ _ | refine blk_drew ?_ | refine blk_alloc ?_ _)); exact BK817.out⟩, ⟨by (with_reducible repeat (first | refine blk_drewN ?_ _ | refine blk_drew ?_ | refine blk_alloc ?_ _)); refine blk_put (cs := #[.slice Ao19 t821.length co19, .slice Ao23 t824.length co23, .slice none 0 0]) ?_ 2 _ rfl; (with_reducible repeat (first | refine blk_drewN ?_ _ | refine blk_drew ?_ | refine blk_alloc ?_ _)); refine blk_put (cs := #[.slice Ao19 t821.length co19, .slice none 0 0, .slice none 0 0]) ?_ 1 _ rfl; (with_reducible repeat (first | refine blk_drewN ?_ _ | refine blk_drew ?_ | refine blk_alloc ?_ _)); refine blk_put (cs := #[.slice none 0 0, .slice none 0 0, .slice none 0 0]) ?_ 0 _ rfl; (with_reducible repeat (first | refine blk_drewN ?_ _ | refine blk_drew ?_ | refine blk_alloc ?_ _)); exact BK830.out⟩, ⟨by repeat (first | (with_reducible first | exact HB.out | apply below_alloc | apply pw_below_drewN | apply below_drew1 | refine below_set ?_ GE816.out | refine below_set ?_ GE817.out | refine below_set ?_ GE830.out) | exact HB.out)⟩⟩
 clear H'
 try clear c1
 try clear c2
 try clear p2
 try clear c3
 try clear c4
 try clear c5
 try clear c5b0
 try clear c5b1
 try clear c6
 try clear c6b0
 try clear c7
 try clear c7b0
 try clear c8
 try clear p8
 try clear q8
 try clear hx8
 try clear c9
 try clear c13
 try clear c20
 try clear c21
 try clear hcz14_0
 try clear hcz14_1
 try clear hcz14_2
 try clear hcz16_0
 try clear hcz16_1
 try clear hcz16_2
 try clear hcz22_0
 try clear hcz22_1
 try clear hcz22_2
 try clear hfz14_0
 try clear hfz14_1
 try clear hfz14_2
 try clear hfz16_0
 try clear hfz16_1
 try clear hfz16_2
 try clear hfz22_0
 try clear hfz22_1
 try clear hfz22_2
 try clear hx819_0
 try clear p819
 try clear q819
 obtain ⟨x10_1, x11_1, rfl, HA, HK1, HO_10, HO_831000, HO_831001, HO_831002, BK816, BK817, BK830, HB⟩ := hrel
 cases gk with
 | zero => exact absurd HA.out (by simp [laganref04_Barred.l0])
 | succ k1 =>
  have H := HA.out
  clear HA
  simp only [laganref04_Barred.l0] at H
  by_cases c25 : 0 ≤ a1
  rotate_left
  ·
   rw [if_neg c25] at H
   exact absurd H (by simp)
  rw [if_pos c25] at H
  have c25b0 : decide (0 ≤ a1) = true := decide_eq_true c25
  clear c25
  by_cases c26 : a1 < (l0_2.length : Int)
  rotate_left
  ·
   rw [if_neg c26] at H
   exact absurd H (by simp)
  rw [if_pos c26] at H
  have c26b0 : decide (a1 < (l0_2.length : Int)) = true := decide_eq_true c26
  clear c26
  by_cases c27 : x11_1 < ((rd_L1 l0_2 a1).length : Int)
  rotate_left
  ·
   rw [if_neg c27] at H
   have c27b0 : decide (x11_1 < ((rd_L1 l0_2 a1).length : Int)) = false := decide_eq_false c27
   clear c27
   by_cases c38 : a1 < (t827.length : Int)
   rotate_left
   ·
    rw [if_neg c38] at H
    exact absurd H (by simp)
   rw [if_pos c38] at H
   have c38b0 : decide (a1 < (t827.length : Int)) = true := decide_eq_true c38
   clear c38
   obtain ⟨y839, hy839⟩ : ∃ y_ : List (List Int), y_ = (t827.set (a1 : Int).toNat x10_1) := ⟨_, rfl⟩
   replace H : (some (t821, t824, y839, 0)) = some (r1, r2, r3, r4) := by first | (rw [hy839]; with_reducible exact H) | (have H2_ := (Option.bind_some _ _).symm.trans H; rw [hy839]; with_reducible exact H2_) | (have H2_ := (Option.bind_some _ _).symm.trans H; with_reducible exact H2_) | with_reducible exact H | (rw [hy839]; exact H) | exact H
   have Ny839 := Aside0.mk hy839
   clear hy839
   simp only [Option.some.injEq, Prod.mk.injEq] at H
   obtain ⟨rfl, rfl, rfl, rfl⟩ := H
   have hnb40 := NB816_817.out
   have hnc40 := NB817_816.out
   have hnb41 := NB816_830.out
   have hnc41 := NB830_816.out
   have hcz42_0 : wr.cell? ⟨gb816, 0, none⟩ = some (.slice A0_0 l0_0.length c0_0) := (blk_cell BK816.out 0).trans rfl
   have hcz42_1 : wr.cell? ⟨gb816, 1, none⟩ = some (.slice A0_1 l0_1.length c0_1) := (blk_cell BK816.out 1).trans rfl
   have hcz42_2 : wr.cell? ⟨gb816, 2, none⟩ = some (.slice (some ad819) l0_2.length c0_2) := (blk_cell BK816.out 2).trans rfl
   have hfz42_0 := blk_frozen BK816.out 0
   have hfz42_1 := blk_frozen BK816.out 1
   have hfz42_2 := blk_frozen BK816.out 2
   have p831 : 0 ≤ (a1 : Int) := of_decide_eq_true (by first | (with_reducible assumption) | assumption)
   have q831 : a1 < (l0_2.length : Int) := of_decide_eq_true (by first | (with_reducible assumption) | assumption)
   obtain ⟨ad831, A831_0, c831_0, e831, hx831_0, hl831_0, hi831_0⟩ := at_L1 HR0_2.out a1 p831 q831
   obtain rfl : ad819 = ad831 := (by injection e831)
   replace hx831_0 := (HB.out.cell (World.block_lt_of_cell? w _ hx831_0)).trans hx831_0
   have HR831_0 := Aside0.mk hi831_0
   have HC831_0 := Aside0.mk hl831_0
   clear hi831_0 hl831_0
   replace p831 := eq_true p831
   replace q831 := eq_true q831
   have hnb43 := NB830_817.out
   have hnc43 := NB817_830.out
   have hcz44_0 : wr.cell? ⟨gb830, 0, none⟩ = some (.slice Ao19 t821.length co19) := (blk_cell BK830.out 0).trans rfl
   have hcz44_1 : wr.cell? ⟨gb830, 1, none⟩ = some (.slice Ao23 t824.length co23) := (blk_cell BK830.out 1).trans rfl
   have hcz44_2 : wr.cell? ⟨gb830, 2, none⟩ = some (.slice Ao24 t827.length co24) := (blk_cell BK830.out 2).trans rfl
   have hfz44_0 := blk_frozen BK830.out 0
   have hfz44_1 := blk_frozen BK830.out 1
   have hfz44_2 := blk_frozen BK830.out 2
   have p39 : 0 ≤ (a1 : Int) := of_decide_eq_true (by first | (with_reducible assumption) | assumption)
   have q39 : (a1 : Int) < ((t827.length : Int) : Int) := of_decide_eq_true (by first | (with_reducible assumption) | assumption)
   obtain ⟨go39, co39, eo39, gb39, gl39, cl39, HG39⟩ := Kd.S_form HO_831002.out (by omega)
   (first | cases eo39 | (injection eo39 with ea_ en_ ec_; (first | subst ea_ | (injection ea_ with ea_; subst ea_)); subst ec_; clear en_))
   have GB39 := Aside0.mk gb39
   have GG39 := Aside0.mk HG39
   clear gb39 gl39 HG39
   obtain ⟨_, ce39, hcl39, hM39, hcc39, hfr39, _, _⟩ := Kd.S_elem HO_831002.out [] (a1 : Int) p39 q39
   obtain ⟨ve39_0, rfl, ge39_0⟩ := hM39
   have hx39_0 := hcc39 0 _ rfl
   have hf39_0 := hfr39 0
   (try simp only [show ((Kd.slice 3 (Kd.int .i64))).sz = 1 from rfl, Nat.mul_one, Nat.add_zero] at hx39_0)
   (try simp only [show ((Kd.slice 3 (Kd.int .i64))).sz = 1 from rfl, Nat.mul_one, Nat.add_zero] at hf39_0)
   clear hcl39 hcc39 hfr39; (try clear hM39)
   replace p39 := eq_true p39
   replace q39 := eq_true q39
   have HX45 := Aside0.mk (show Kd.S (Kd.slice 3 (Kd.int .i64)) 22 wr w.heap.size (fun k_ => ((fun k_ => some k_ ≠ (.slice Ao19 t821.length co19 : Value).ownBlock)) k_ ∧ ¬ ((fun k_ => some k_ = (u10 : Value).ownBlock)) k_) (.slice (some ⟨go39, 0, none⟩) t827.length co24) t827 from (by (with_reducible repeat (first | apply Kd.S_alloc | apply Kd.S_drewN | apply Kd.S_drew)); exact Kd.S_mono HO_831002.out (fun k_ hk => ⟨hk.2, fun e_ => hk.1 e_⟩)))
   obtain ⟨oki45, ce45, hcl45, hM45, hcc45, hfr45, hoki45, hH45⟩ := Kd.S_elem HX45.out [] (a1 : Int) (of_decide_eq_true (by first | (with_reducible assumption) | assumption)) (by have h_ : (a1 : Int) < ((t827.length : Int) : Int) := of_decide_eq_true (by first | (with_reducible assumption) | assumption); first | exact h_ | (have e_ := (Kd.S_reads' HO_831002.out).1; omega) | simpa using h_)
   obtain ⟨ve45_0, rfl, ge45_0⟩ := hM45
   have HP45 := Kd.S_seg hH45 (of_decide_eq_true (by first | (with_reducible assumption) | assumption)) (by have h_ : (a1 : Int) < ((t827.length : Int) : Int) := of_decide_eq_true (by first | (with_reducible assumption) | assumption); first | exact h_ | (have e_ := (Kd.S_reads' HO_831002.out).1; omega) | simpa using h_) (seg := [u10]) (j := 0) (show 1 ≤ 1 from by decide) (x' := x10_1) (Kd.M_row (Kd.R_mono (Kd.R_tight rfl (Kd.R_mono (ok' := fun k_ => ((fun k_ => some k_ ≠ (.slice Ao19 t821.length co19 : Value).ownBlock)) k_ ∧ k_ ≠ go39) (Kd.R_apart' (HO_10.out) (Kd.S_typed HO_831002.out) (by decide)) (fun k_ hk => ⟨hk.1, fun e_ => (hk.2) (by rw [e_]; rfl)⟩))) (fun _ h_ => Or.inr (h_)))) (fun _ hk => hk) (fun k_ hk_ => ((Kd.R_mono (ok' := fun k_ => ((fun k_ => some k_ ≠ (.slice Ao19 t821.length co19 : Value).ownBlock)) k_ ∧ k_ ≠ go39) (Kd.R_apart' (HO_10.out) (Kd.S_typed HO_831002.out) (by decide)) (fun k_ hk => ⟨hk.1, fun e_ => (hk.2) (by rw [e_]; rfl)⟩))).1 k_ hk_.symm)
   have hx45_0 := hcc45 0 _ rfl
   (try simp only [show ((Kd.slice 3 (Kd.int .i64))).sz = 1 from rfl, Nat.mul_one, Nat.add_zero] at hx45_0)
   have hf45_0 := hfr45 0
   (try simp only [show ((Kd.slice 3 (Kd.int .i64))).sz = 1 from rfl, Nat.mul_one, Nat.add_zero] at hf45_0)
   clear hcl45 hcc45 hfr45 hoki45 hH45; (try clear hM45)
   (try simp only [show ((Kd.slice 3 (Kd.int .i64))).sz = 1 from rfl, Nat.mul_one, Nat.add_zero] at HP45)
   go_wp2_with (first | ((with_reducible refine gate_store (t := 22) (p := 66) rfl ?_); refine store_event (t := 22) (p := 66) (v := ?vo_w46) (w1 := (wr.setCell ⟨go39, (a1 : Int).toNat, none⟩ (u10))) ?hg ?ho ?hn ?hr ?_; (case ho => rfl); (case hg => rfl); (case hn => rfl); (case hr => first | (go_simp; done) | (go_simp; rfl) | (obtain ⟨Ax_, cx_, ex_⟩ := Kd.R_slice HO_10.out; rw [ex_]; go_simp; done) | (obtain ⟨Ax_, cx_, ex_⟩ := Kd.R_slice HO_10.out; rw [ex_]; go_simp; rfl)); intro w46 hw; have hg : wr.grownBy w46 (some go39) := (by rw [hw]; exact HP45.2); have hp_ : Kd.S (Kd.slice 3 (Kd.int .i64)) 22 w46 w.heap.size (fun k_ => some k_ ≠ (.slice Ao19 t821.length co19 : Value).ownBlock) (.slice (some ⟨go39, 0, none⟩) t827.length co24) y839 := (by rw [hw, Ny839.out]; exact HP45.1); clear HP45; have n0_ := Aside0.mk (Kd.R_over' (v := (.slice (some ⟨go39, 0, none⟩) t827.length co24)) (by (with_reducible repeat (first | apply Kd.R_alloc | apply Kd.R_drewN | apply Kd.R_drew)); exact HO_831000.out) (Kd.S_typed HO_831002.out) (by decide) hg); have n1_ := Aside0.mk (Kd.R_over' (v := (.slice (some ⟨go39, 0, none⟩) t827.length co24)) (by (with_reducible repeat (first | apply Kd.R_alloc | apply Kd.R_drewN | apply Kd.R_drew)); exact HO_831001.out) (Kd.S_typed HO_831002.out) (by decide) hg); have n2_ := Aside0.mk (hp_); have n3_ := Aside0.mk (blk_grown (g := gb816) (o := .cells #[.slice A0_0 l0_0.length c0_0, .slice A0_1 l0_1.length c0_1, .slice (some ad819) l0_2.length c0_2] 26 (0, 0)) (by (with_reducible repeat (first | refine blk_drewN ?_ _ | refine blk_drew ?_ | refine blk_alloc ?_ _)); exact BK816.out) hg (Kd.S_ne HO_831002.out BK816.out (by decide))); have n4_ := Aside0.mk (blk_grown (g := gb817) (o := .cells #[.slice none 0 0, .slice none 0 0, .slice none 0 0] 26 (0, 0)) (by (with_reducible repeat (first | refine blk_drewN ?_ _ | refine blk_drew ?_ | refine blk_alloc ?_ _)); exact BK817.out) hg (Kd.S_ne HO_831002.out BK817.out (by decide))); have n5_ := Aside0.mk (blk_grown (g := gb830) (o := .cells #[.slice Ao19 t821.length co19, .slice Ao23 t824.length co23, .slice (some ⟨go39, 0, none⟩) t827.length co24] 26 (0, 0)) (by (with_reducible repeat (first | refine blk_drewN ?_ _ | refine blk_drew ?_ | refine blk_alloc ?_ _)); exact BK830.out) hg (Kd.S_ne HO_831002.out BK830.out (by decide))); have n6_ := Aside0.mk ((by rw [hw]; exact below_set (HB.out) GB39.out : Below w.heap.size w w46)); clear HO_831000; clear HO_831001; clear HO_831002; clear BK816; clear BK817; clear BK830; clear HB; clear HO_10; have HO_831000 := n0_; have HO_831001 := n1_; have HO_831002 := n2_; have BK816 := n3_; have BK817 := n4_; have BK830 := n5_; have HB := n6_; clear n0_ n1_ n2_ n3_ n4_ n5_ n6_; clear hg hw hp_; have hcz47_0 : w46.cell? ⟨gb830, 0, none⟩ = some (.slice Ao19 t821.length co19) := (blk_cell BK830.out 0).trans rfl; have hcz47_1 : w46.cell? ⟨gb830, 1, none⟩ = some (.slice Ao23 t824.length co23) := (blk_cell BK830.out 1).trans rfl; have hcz47_2 : w46.cell? ⟨gb830, 2, none⟩ = some (.slice (some ⟨go39, 0, none⟩) t827.length co24) := (blk_cell BK830.out 2).trans rfl; have hfz47_0 := blk_frozen BK830.out 0; have hfz47_1 := blk_frozen BK830.out 1; have hfz47_2 := blk_frozen BK830.out 2; have hcz48_0 : w46.cell? ⟨gb817, 0, none⟩ = some (.slice none 0 0) := (blk_cell BK817.out 0).trans rfl; have hcz48_1 : w46.cell? ⟨gb817, 1, none⟩ = some (.slice none 0 0) := (blk_cell BK817.out 1).trans rfl; have hcz48_2 : w46.cell? ⟨gb817, 2, none⟩ = some (.slice none 0 0) := (blk_cell BK817.out 2).trans rfl; have hfz48_0 := blk_frozen BK817.out 0; have hfz48_1 := blk_frozen BK817.out 1; have hfz48_2 := blk_frozen BK817.out 2))
   refine bodyPost_ret (results_ct rfl _ _ gb817 26 #[.slice Ao19 t821.length co19, .slice Ao23 t824.length co23, .slice (some ⟨go39, 0, none⟩) t827.length co24] (0, 0) _ rfl (by (with_reducible repeat (first | refine blk_drewN ?_ _ | refine blk_drew ?_ | refine blk_alloc ?_ _)); refine blk_put (cs := #[.slice Ao19 t821.length co19, .slice Ao23 t824.length co23, .slice none 0 0]) ?_ 2 _ rfl; (with_reducible repeat (first | refine blk_drewN ?_ _ | refine blk_drew ?_ | refine blk_alloc ?_ _)); refine blk_put (cs := #[.slice Ao19 t821.length co19, .slice none 0 0, .slice none 0 0]) ?_ 1 _ rfl; (with_reducible repeat (first | refine blk_drewN ?_ _ | refine blk_drew ?_ | refine blk_alloc ?_ _)); refine blk_put (cs := #[.slice none 0 0, .slice none 0 0, .slice none 0 0]) ?_ 0 _ rfl; (with_reducible repeat (first | refine blk_drewN ?_ _ | refine blk_drew ?_ | refine blk_alloc ?_ _)); exact BK817.out) Try.underlying26 rfl (by kernel_rfl)) rfl ?_
   exact ⟨_, _, _, by first | rfl | (simp [errW_none, errW_some] <;> rfl) | (simp [*, errW_none, errW_some] <;> rfl), by (with_reducible repeat (first | apply Kd.R_alloc | apply Kd.R_drewN | apply Kd.R_drew)); exact Kd.R_mono (Kd.R_far (p := ⟨gb817, 2, none⟩) (Kd.R_far (p := ⟨gb817, 1, none⟩) (Kd.R_far (p := ⟨gb817, 0, none⟩) (Kd.R_types HO_831000.out BK817.out (by decide)) (fun _ hk => hk.2) (.slice Ao19 t821.length co19)) (fun _ hk => hk.2) (.slice Ao23 t824.length co23)) (fun _ hk => hk.2) (.slice (some ⟨go39, 0, none⟩) t827.length co24)) (fun _ hk => trivial), by (with_reducible repeat (first | apply Kd.R_alloc | apply Kd.R_drewN | apply Kd.R_drew)); exact Kd.R_mono (Kd.R_far (p := ⟨gb817, 2, none⟩) (Kd.R_far (p := ⟨gb817, 1, none⟩) (Kd.R_far (p := ⟨gb817, 0, none⟩) (Kd.R_types HO_831001.out BK817.out (by decide)) (fun _ hk => hk.2) (.slice Ao19 t821.length co19)) (fun _ hk => hk.2) (.slice Ao23 t824.length co23)) (fun _ hk => hk.2) (.slice (some ⟨go39, 0, none⟩) t827.length co24)) (fun _ hk => trivial), by (with_reducible repeat (first | apply Kd.S_alloc | apply Kd.S_drewN | apply Kd.S_drew)); exact Kd.S_mono (Kd.S_far (p := ⟨gb817, 2, none⟩) (Kd.S_far (p := ⟨gb817, 1, none⟩) (Kd.S_far (p := ⟨gb817, 0, none⟩) (Kd.S_types HO_831002.out BK817.out (by decide)) (fun _ hk => hk.2) (.slice Ao19 t821.length co19)) (fun _ hk => hk.2) (.slice Ao23 t824.length co23)) (fun _ hk => hk.2) (.slice (some ⟨go39, 0, none⟩) t827.length co24)) (fun _ hk => hk.1), by repeat (first | (with_reducible first | exact HB.out | apply below_alloc | apply pw_below_drewN | apply below_drew1 | refine below_set ?_ GE816.out | refine below_set ?_ GE817.out | refine below_set ?_ GE830.out) | exact HB.out)⟩
  rw [if_pos c27] at H
  have c27b0 : decide (x11_1 < ((rd_L1 l0_2 a1).length : Int)) = true := decide_eq_true c27
  clear c27
  by_cases c28 : 0 ≤ x11_1
  rotate_left
  ·
   rw [if_neg c28] at H
   exact absurd H (by simp)
  rw [if_pos c28] at H
  have c28b0 : decide (0 ≤ x11_1) = true := decide_eq_true c28
  clear c28
  by_cases c29 : (rd (rd_L1 l0_2 a1) x11_1) = a2
  ·
   rw [if_pos c29] at H
   have c29b0 : ((rd (rd_L1 l0_2 a1) x11_1) == a2) = true := beq_iff_eq.mpr c29
   have c29b1 : ((rd (rd_L1 l0_2 a1) x11_1) != a2) = false := bne_eq_false_iff_eq.mpr c29
   clear c29
   have H' := Aside0.mk H
   clear H
   have hnb30 := NB816_817.out
   have hnc30 := NB817_816.out
   have hnb31 := NB816_830.out
   have hnc31 := NB830_816.out
   have hcz32_0 : wr.cell? ⟨gb816, 0, none⟩ = some (.slice A0_0 l0_0.length c0_0) := (blk_cell BK816.out 0).trans rfl
   have hcz32_1 : wr.cell? ⟨gb816, 1, none⟩ = some (.slice A0_1 l0_1.length c0_1) := (blk_cell BK816.out 1).trans rfl
   have hcz32_2 : wr.cell? ⟨gb816, 2, none⟩ = some (.slice (some ad819) l0_2.length c0_2) := (blk_cell BK816.out 2).trans rfl
   have hfz32_0 := blk_frozen BK816.out 0
   have hfz32_1 := blk_frozen BK816.out 1
   have hfz32_2 := blk_frozen BK816.out 2
   have p831 : 0 ≤ (a1 : Int) := of_decide_eq_true (by first | (with_reducible assumption) | assumption)
   have q831 : a1 < (l0_2.length : Int) := of_decide_eq_true (by first | (with_reducible assumption) | assumption)
   obtain ⟨ad831, A831_0, c831_0, e831, hx831_0, hl831_0, hi831_0⟩ := at_L1 HR0_2.out a1 p831 q831
   obtain rfl : ad819 = ad831 := (by injection e831)
   replace hx831_0 := (HB.out.cell (World.block_lt_of_cell? w _ hx831_0)).trans hx831_0
   have HR831_0 := Aside0.mk hi831_0
   have HC831_0 := Aside0.mk hl831_0
   clear hi831_0 hl831_0
   replace p831 := eq_true p831
   replace q831 := eq_true q831
   have p832 : 0 ≤ (a1 : Int) := of_decide_eq_true (by first | (with_reducible assumption) | assumption)
   have q832 : a1 < (l0_2.length : Int) := of_decide_eq_true (by first | (with_reducible assumption) | assumption)
   obtain ⟨ad832, A832_0, c832_0, e832, hx832_0, hl832_0, hi832_0⟩ := at_L1 HR0_2.out a1 p832 q832
   obtain rfl : ad819 = ad832 := (by injection e832)
   replace hx832_0 := (HB.out.cell (World.block_lt_of_cell? w _ hx832_0)).trans hx832_0
   have HR832_0 := Aside0.mk hi832_0
   have HC832_0 := Aside0.mk hl832_0
   clear hi832_0 hl832_0
   replace p832 := eq_true p832
   replace q832 := eq_true q832
   have ea_ := Option.some.inj (hx831_0.symm.trans hx832_0)
   injection ea_ with ea_ en_ ec_
   subst ea_
   subst ec_
   clear en_
   have p833 : 0 ≤ (x11_1 : Int) := of_decide_eq_true (by first | (with_reducible assumption) | assumption)
   have q833 : x11_1 < ((rd_L1 l0_2 a1).length : Int) := of_decide_eq_true (by first | (with_reducible assumption) | assumption)
   obtain ⟨ad833, e833, hx833_0⟩ := Kd.at_int HR832_0.out x11_1 p833 q833
   cases e833
   replace hx833_0 := (HB.out.cell (World.block_lt_of_cell? w _ hx833_0)).trans hx833_0
   replace p833 := eq_true p833
   replace q833 := eq_true q833
   go_wp2
   go_roundg k1
   case measure => have := HK1.out; omega
   case rel => exact ⟨(x10_1), (wrap64 (x11_1 + 1)), (by first | rfl | (simp; done) | (simp [*]; done)), H', ⟨by have := HK1.out; omega⟩, ⟨by (with_reducible repeat (first | apply Kd.R_alloc | apply Kd.R_drewN | apply Kd.R_drew)); exact HO_10.out⟩, ⟨by (with_reducible repeat (first | apply Kd.R_alloc | apply Kd.R_drewN | apply Kd.R_drew)); exact HO_831000.out⟩, ⟨by (with_reducible repeat (first | apply Kd.R_alloc | apply Kd.R_drewN | apply Kd.R_drew)); exact HO_831001.out⟩, ⟨by (with_reducible repeat (first | apply Kd.S_alloc | apply Kd.S_drewN | apply Kd.S_drew)); exact HO_831002.out⟩, ⟨by (with_reducible repeat (first | refine blk_drewN ?_ _ | refine blk_drew ?_ | refine blk_alloc ?_ _)); exact BK816.out⟩, ⟨by (with_reducible repeat (first | refine blk_drewN ?_ _ | refine blk_drew ?_ | refine blk_alloc ?_ _)); exact BK817.out⟩, ⟨by (with_reducible repeat (first | refine blk_drewN ?_ _ | refine blk_drew ?_ | refine blk_alloc ?_ _)); exact BK830.out⟩, ⟨by repeat (first | (with_reducible first | exact HB.out | apply below_alloc | apply pw_below_drewN | apply below_drew1 | refine below_set ?_ GE816.out | refine below_set ?_ GE817.out | refine below_set ?_ GE830.out) | exact HB.out)⟩⟩
  rw [if_neg c29] at H
  have c29b0 : ((rd (rd_L1 l0_2 a1) x11_1) == a2) = false := beq_eq_false_iff_ne.mpr c29
  have c29b1 : ((rd (rd_L1 l0_2 a1) x11_1) != a2) = true := bne_iff_ne.mpr c29
  by_cases c33 : x10_1.length < 17592186044416
  rotate_left
  ·
   rw [if_neg c33] at H
   exact absurd H (by simp)
  rw [if_pos c33] at H
  have LMc33 := Aside0.mk c33
  clear c33
  obtain ⟨y836, hy836⟩ : ∃ y_ : List Int, y_ = (x10_1 ++ [rd (rd_L1 l0_2 a1) x11_1]) := ⟨_, rfl⟩
  replace H : (laganref04_Barred.l0 k1 a1 a2 y836 (wrap64 (x11_1 + 1)) l0_0 l0_1 l0_2 t821 t824 t827) = some (r1, r2, r3, r4) := by first | (rw [hy836]; with_reducible exact H) | (have H2_ := (Option.bind_some _ _).symm.trans H; rw [hy836]; with_reducible exact H2_) | (have H2_ := (Option.bind_some _ _).symm.trans H; with_reducible exact H2_) | with_reducible exact H | (rw [hy836]; exact H) | exact H
  have Ny836 := Aside0.mk hy836
  clear hy836
  have H' := Aside0.mk H
  clear H
  have hnb34 := NB816_817.out
  have hnc34 := NB817_816.out
  have hnb35 := NB816_830.out
  have hnc35 := NB830_816.out
  have hcz36_0 : wr.cell? ⟨gb816, 0, none⟩ = some (.slice A0_0 l0_0.length c0_0) := (blk_cell BK816.out 0).trans rfl
  have hcz36_1 : wr.cell? ⟨gb816, 1, none⟩ = some (.slice A0_1 l0_1.length c0_1) := (blk_cell BK816.out 1).trans rfl
  have hcz36_2 : wr.cell? ⟨gb816, 2, none⟩ = some (.slice (some ad819) l0_2.length c0_2) := (blk_cell BK816.out 2).trans rfl
  have hfz36_0 := blk_frozen BK816.out 0
  have hfz36_1 := blk_frozen BK816.out 1
  have hfz36_2 := blk_frozen BK816.out 2
  have p831 : 0 ≤ (a1 : Int) := of_decide_eq_true (by first | (with_reducible assumption) | assumption)
  have q831 : a1 < (l0_2.length : Int) := of_decide_eq_true (by first | (with_reducible assumption) | assumption)
  obtain ⟨ad831, A831_0, c831_0, e831, hx831_0, hl831_0, hi831_0⟩ := at_L1 HR0_2.out a1 p831 q831
  obtain rfl : ad819 = ad831 := (by injection e831)
  replace hx831_0 := (HB.out.cell (World.block_lt_of_cell? w _ hx831_0)).trans hx831_0
  have HR831_0 := Aside0.mk hi831_0
  have HC831_0 := Aside0.mk hl831_0
  clear hi831_0 hl831_0
  replace p831 := eq_true p831
  replace q831 := eq_true q831
  have p832 : 0 ≤ (a1 : Int) := of_decide_eq_true (by first | (with_reducible assumption) | assumption)
  have q832 : a1 < (l0_2.length : Int) := of_decide_eq_true (by first | (with_reducible assumption) | assumption)
  obtain ⟨ad832, A832_0, c832_0, e832, hx832_0, hl832_0, hi832_0⟩ := at_L1 HR0_2.out a1 p832 q832
  obtain rfl : ad819 = ad832 := (by injection e832)
  replace hx832_0 := (HB.out.cell (World.block_lt_of_cell? w _ hx832_0)).trans hx832_0
  have HR832_0 := Aside0.mk hi832_0
  have HC832_0 := Aside0.mk hl832_0
  clear hi832_0 hl832_0
  replace p832 := eq_true p832
  replace q832 := eq_true q832
  have ea_ := Option.some.inj (hx831_0.symm.trans hx832_0)
  injection ea_ with ea_ en_ ec_
  subst ea_
  subst ec_
  clear en_
  have p833 : 0 ≤ (x11_1 : Int) := of_decide_eq_true (by first | (with_reducible assumption) | assumption)
  have q833 : x11_1 < ((rd_L1 l0_2 a1).length : Int) := of_decide_eq_true (by first | (with_reducible assumption) | assumption)
  obtain ⟨ad833, e833, hx833_0⟩ := Kd.at_int HR832_0.out x11_1 p833 q833
  cases e833
  replace hx833_0 := (HB.out.cell (World.block_lt_of_cell? w _ hx833_0)).trans hx833_0
  replace p833 := eq_true p833
  replace q833 := eq_true q833
  have p834 : 0 ≤ (a1 : Int) := of_decide_eq_true (by first | (with_reducible assumption) | assumption)
  have q834 : a1 < (l0_2.length : Int) := of_decide_eq_true (by first | (with_reducible assumption) | assumption)
  obtain ⟨ad834, A834_0, c834_0, e834, hx834_0, hl834_0, hi834_0⟩ := at_L1 HR0_2.out a1 p834 q834
  obtain rfl : ad819 = ad834 := (by injection e834)
  replace hx834_0 := (HB.out.cell (World.block_lt_of_cell? w _ hx834_0)).trans hx834_0
  have HR834_0 := Aside0.mk hi834_0
  have HC834_0 := Aside0.mk hl834_0
  clear hi834_0 hl834_0
  replace p834 := eq_true p834
  replace q834 := eq_true q834
  have ea_ := Option.some.inj (hx831_0.symm.trans hx834_0)
  injection ea_ with ea_ en_ ec_
  subst ea_
  subst ec_
  clear en_
  have p835 : 0 ≤ (x11_1 : Int) := of_decide_eq_true (by first | (with_reducible assumption) | assumption)
  have q835 : x11_1 < ((rd_L1 l0_2 a1).length : Int) := of_decide_eq_true (by first | (with_reducible assumption) | assumption)
  obtain ⟨ad835, e835, hx835_0⟩ := Kd.at_int HR834_0.out x11_1 p835 q835
  cases e835
  replace hx835_0 := (HB.out.cell (World.block_lt_of_cell? w _ hx835_0)).trans hx835_0
  replace p835 := eq_true p835
  replace q835 := eq_true q835
  go_wp2_with (first | ((with_reducible refine gate_builtin (b := .append) (xs := #[.tmp 51, .tmp 60]) rfl ?_); at_builtin; refine Kd.R_append (Kd.int .i64) (w0 := w) w.heap.size rfl (.tmp 51) (.tmp 60) 22 3 (.int .i64 0) 8 rfl Try.underlying22 info3 rfl (by decide) (by omega) u10 x10_1 (rd (rd_L1 l0_2 a1) x11_1) [.int .i64 (rd (rd_L1 l0_2 a1) x11_1)] (fun k_ => some k_ ≠ (.slice Ao19 t821.length co19 : Value).ownBlock) (fun _ => False) rfl rfl ?aP (fun _ hk => hk.elim) ?aF ?aO ?aB ?aS ?aL ?_; (case aP => exact rfl); (case aB => exact (by repeat (first | (with_reducible first | exact HB.out | apply below_alloc | apply pw_below_drewN | apply below_drew1 | refine below_set ?_ GE816.out | refine below_set ?_ GE817.out | refine below_set ?_ GE830.out) | exact HB.out))); (case aF => exact (fun k_ hk => Kd.fresh' (Kd.R_lt (by (with_reducible repeat (first | apply Kd.R_alloc | apply Kd.R_drewN | apply Kd.R_drew)); exact HO_831000.out)) k_ hk)); (case aO => exact (by (with_reducible repeat (first | apply Kd.R_alloc | apply Kd.R_drewN | apply Kd.R_drew)); exact HO_10.out)); (case aS => exact (below_size (by repeat (first | (with_reducible first | exact HB.out | apply below_alloc | apply pw_below_drewN | apply below_drew1 | refine below_set ?_ GE816.out | refine below_set ?_ GE817.out | refine below_set ?_ GE830.out) | exact HB.out)))); (case aL => have := LMc33.out; omega); intro v837 w37 ho hb hg hat; rw [← Ny836.out] at ho; have n0_ := Aside0.mk (Kd.R_after (ok := (fun _ => True)) (by (with_reducible repeat (first | apply Kd.R_alloc | apply Kd.R_drewN | apply Kd.R_drew)); exact Kd.R_mono HO_831000.out (fun _ hk => ⟨trivial, hk⟩)) hg hat); have n1_ := Aside0.mk (Kd.R_over' (by (with_reducible repeat (first | apply Kd.R_alloc | apply Kd.R_drewN | apply Kd.R_drew)); exact HO_831001.out) (Kd.R_typed (by (with_reducible repeat (first | apply Kd.R_alloc | apply Kd.R_drewN | apply Kd.R_drew)); exact HO_10.out)) (by decide) hg); have n2_ := Aside0.mk (Kd.S_after (ok := (fun k_ => some k_ ≠ (.slice Ao19 t821.length co19 : Value).ownBlock)) (by (with_reducible repeat (first | apply Kd.S_alloc | apply Kd.S_drewN | apply Kd.S_drew)); exact Kd.S_mono HO_831002.out (fun _ hk => ⟨hk.2, hk.1⟩)) hg hat); have n3_ := Aside0.mk (blk_grown (g := gb816) (o := .cells #[.slice A0_0 l0_0.length c0_0, .slice A0_1 l0_1.length c0_1, .slice (some ad819) l0_2.length c0_2] 26 (0, 0)) (by (with_reducible repeat (first | refine blk_drewN ?_ _ | refine blk_drew ?_ | refine blk_alloc ?_ _)); exact BK816.out) hg (Kd.R_ne HO_10.out BK816.out (by decide))); have n4_ := Aside0.mk (blk_grown (g := gb817) (o := .cells #[.slice none 0 0, .slice none 0 0, .slice none 0 0] 26 (0, 0)) (by (with_reducible repeat (first | refine blk_drewN ?_ _ | refine blk_drew ?_ | refine blk_alloc ?_ _)); exact BK817.out) hg (Kd.R_ne HO_10.out BK817.out (by decide))); have n5_ := Aside0.mk (blk_grown (g := gb830) (o := .cells #[.slice Ao19 t821.length co19, .slice Ao23 t824.length co23, .slice Ao24 t827.length co24] 26 (0, 0)) (by (with_reducible repeat (first | refine blk_drewN ?_ _ | refine blk_drew ?_ | refine blk_alloc ?_ _)); exact BK830.out) hg (Kd.R_ne HO_10.out BK830.out (by decide))); have n6_ := Aside0.mk (hb); have n7_ := Aside0.mk (ho); clear HO_831000; clear HO_831001; clear HO_831002; clear BK816; clear BK817; clear BK830; clear HB; clear HO_10; have HO_831000 := n0_; have HO_831001 := n1_; have HO_831002 := n2_; have BK816 := n3_; have BK817 := n4_; have BK830 := n5_; have HB := n6_; have HO838 := n7_; clear n0_ n1_ n2_ n3_ n4_ n5_ n6_ n7_; clear ho hb hg hat))
  go_roundg k1
  case measure => have := HK1.out; omega
  case rel => exact ⟨(y836), (wrap64 (x11_1 + 1)), (by first | rfl | (simp; done) | (simp [*]; done)), H', ⟨by have := HK1.out; omega⟩, ⟨by (with_reducible repeat (first | apply Kd.R_alloc | apply Kd.R_drewN | apply Kd.R_drew)); exact HO838.out⟩, ⟨by (with_reducible repeat (first | apply Kd.R_alloc | apply Kd.R_drewN | apply Kd.R_drew)); exact Kd.R_mono HO_831000.out (fun _ hk => hk.2)⟩, ⟨by (with_reducible repeat (first | apply Kd.R_alloc | apply Kd.R_drewN | apply Kd.R_drew)); exact HO_831001.out⟩, ⟨by (with_reducible repeat (first | apply Kd.S_alloc | apply Kd.S_drewN | apply Kd.S_drew)); exact Kd.S_mono HO_831002.out (fun _ hk => ⟨hk.2, hk.1⟩)⟩, ⟨by (with_reducible repeat (first | refine blk_drewN ?_ _ | refine blk_drew ?_ | refine blk_alloc ?_ _)); exact BK816.out⟩, ⟨by (with_reducible repeat (first | refine blk_drewN ?_ _ | refine blk_drew ?_ | refine blk_alloc ?_ _)); exact BK817.out⟩, ⟨by (with_reducible repeat (first | refine blk_drewN ?_ _ | refine blk_drew ?_ | refine blk_alloc ?_ _)); exact BK830.out⟩, ⟨by repeat (first | (with_reducible first | exact HB.out | apply below_alloc | apply pw_below_drewN | apply below_drew1 | refine below_set ?_ GE816.out | refine below_set ?_ GE817.out | refine below_set ?_ GE830.out) | exact HB.out)⟩⟩
def laganref04_Fixed.f (k : Nat) (l0_0 : List Int) (l0_1 : List (S50)) (l0_2 : List (List Int)) (a1 : Int) (a2 : Int) : Option (List Int × (List (S50)) × (List (List Int)) × Int) := (laganref04_there.f k l0_0 l0_1 l0_2 a1 a2).bind fun t842 => (if t842 = 0 then (if 0 ≤ a1 then (if a1 < (l0_2.length : Int) then ((laganref04_Has.f k (rd_L1 l0_2 a1) a2).bind fun t844 => (if t844 = true then ((laganref04_Copied.f k l0_0 l0_1 l0_2).bind fun bt845 => (if a1 < (bt845.2.2.length : Int) then (some (bt845.1, bt845.2.1, (bt845.2.2.set (a1 : Int).toNat (([a2] : List Int))), 0)) else (none))) else (some (([] : List Int), ([] : List (S50)), ([] : List (List Int)), 5)))) else (none)) else (none)) else (some (([] : List Int), ([] : List (S50)), ([] : List (List Int)), t842)))
set_option maxHeartbeats 8000000 in
set_option maxRecDepth 100000 in
theorem laganref04_Fixed.calls (k : Nat) (A0_0 : Option Addr) (c0_0 : Nat) (l0_0 : List Int) (A0_1 : Option Addr) (c0_1 : Nat) (l0_1 : List (S50)) (A0_2 : Option Addr) (c0_2 : Nat) (l0_2 : List (List Int)) (a1 : Int) (a2 : Int) (r1 : List Int) (r2 : List (S50)) (r3 : List (List Int)) (r4 : Int) (w : World) (hr0_0 : Kd.C (Kd.int .i64) w A0_0 l0_0.length l0_0) (hc0_0 : l0_0.length ≤ c0_0) (hr0_1 : Kd.C k50 w A0_1 l0_1.length l0_1) (hc0_1 : l0_1.length ≤ c0_1) (hr0_2 : Kd.C (Kd.slice 3 (Kd.int .i64)) w A0_2 l0_2.length l0_2) (hc0_2 : l0_2.length ≤ c0_2) (h : laganref04_Fixed.f k l0_0 l0_1 l0_2 a1 a2 = some (r1, r2, r3, r4)) :
  Calls Try.prog 45 #[.agg #[.slice A0_0 l0_0.length c0_0, .slice A0_1 l0_1.length c0_1, .slice A0_2 l0_2.length c0_2], .int .i64 a1, .int .i64 a2] w fun e w' => ∃ v0_ v1_ v2_ : Value, e = .returned (.tuple #[.agg #[v0_, v1_, v2_], .int .i64 r4]) ∧ Kd.R (Kd.int .i64) 3 w' w.heap.size (fun _ => True) v0_ r1 ∧ Kd.R k50 50 w' w.heap.size (fun _ => True) v1_ r2 ∧ Kd.S (Kd.slice 3 (Kd.int .i64)) 22 w' w.heap.size (fun k_ => some k_ ≠ (v0_ : Value).ownBlock) v2_ r3 ∧ Below w.heap.size w w' := by
 have hu26 := Try.underlying26
 have HR0_0 := Aside0.mk hr0_0
 have HC0_0 := Aside0.mk hc0_0
 clear hr0_0 hc0_0
 have HR0_1 := Aside0.mk hr0_1
 have HC0_1 := Aside0.mk hc0_1
 clear hr0_1 hc0_1
 have HR0_2 := Aside0.mk hr0_2
 have HC0_2 := Aside0.mk hc0_2
 clear hr0_2 hc0_2
 have HB := Aside0.mk (Below.refl w.heap.size w)
 have H : ((laganref04_there.f k l0_0 l0_1 l0_2 a1 a2).bind fun t842 => (if t842 = 0 then (if 0 ≤ a1 then (if a1 < (l0_2.length : Int) then ((laganref04_Has.f k (rd_L1 l0_2 a1) a2).bind fun t844 => (if t844 = true then ((laganref04_Copied.f k l0_0 l0_1 l0_2).bind fun bt845 => (if a1 < (bt845.2.2.length : Int) then (some (bt845.1, bt845.2.1, (bt845.2.2.set (a1 : Int).toNat (([a2] : List Int))), 0)) else (none))) else (some (([] : List Int), ([] : List (S50)), ([] : List (List Int)), 5)))) else (none)) else (none)) else (some (([] : List Int), ([] : List (S50)), ([] : List (List Int)), t842)))) = some (r1, r2, r3, r4) := h
 clear h
 replace H := Option.bind_eq_some_iff.mp H
 obtain ⟨t842, A40, H⟩ := H
 replace H : (if t842 = 0 then (if 0 ≤ a1 then (if a1 < (l0_2.length : Int) then ((laganref04_Has.f k (rd_L1 l0_2 a1) a2).bind fun t844 => (if t844 = true then ((laganref04_Copied.f k l0_0 l0_1 l0_2).bind fun bt845 => (if a1 < (bt845.2.2.length : Int) then (some (bt845.1, bt845.2.1, (bt845.2.2.set (a1 : Int).toNat (([a2] : List Int))), 0)) else (none))) else (some (([] : List Int), ([] : List (S50)), ([] : List (List Int)), 5)))) else (none)) else (none)) else (some (([] : List Int), ([] : List (S50)), ([] : List (List Int)), t842))) = some (r1, r2, r3, r4) := H
 have A4 := Aside0.mk A40
 clear A40
 by_cases c5 : t842 = 0
 rotate_left
 ·
  rw [if_neg c5] at H
  have c5b0 : (t842 == 0) = false := beq_eq_false_iff_ne.mpr c5
  have c5b1 : (t842 != 0) = true := bne_iff_ne.mpr c5
  simp only [Option.some.injEq, Prod.mk.injEq] at H
  obtain ⟨rfl, rfl, rfl, rfl⟩ := H
  go_enter Try.func45, Try.ntmps45
  go_wp2_with (first | ((with_reducible refine gate_dst (N := 3) rfl ?_); refine box_event ?hg (N := 3) ?hd (cs := #[.slice A0_0 l0_0.length c0_0, .slice A0_1 l0_1.length c0_1, .slice A0_2 l0_2.length c0_2]) (t := 26) ?hr ?_; (case hd => rfl); (case hg => rfl); (case hr => first | (go_simp; done) | (go_simp; rfl)); intro gb840 hg w40 hbox hb; have n0_ := Aside0.mk (below_step (by repeat (first | (with_reducible first | exact HB.out | apply below_alloc | apply pw_below_drewN | apply below_drew1) | exact HB.out)) hb); have n1_ := Aside0.mk (hbox); have n2_ := Aside0.mk ((by rw [hg]; exact (below_size (by repeat (first | (with_reducible first | exact HB.out | apply below_alloc | apply pw_below_drewN | apply below_drew1) | exact HB.out))) : w.heap.size ≤ gb840)); have n3_ := Aside0.mk ((by rw [hg]; exact (below_size (by repeat (first | (with_reducible first | exact HB.out | apply below_alloc | apply pw_below_drewN | apply below_drew1) | exact HB.out))) : w.heap.size ≤ gb840)); clear HB; have HB := n0_; have BK840 := n1_; have GW840 := n2_; have GE840 := n3_; clear n0_ n1_ n2_ n3_; clear hb hbox hg) | ((with_reducible refine gate_dst (N := 6) rfl ?_); refine box_event ?hg (N := 6) ?hd (cs := #[.slice none 0 0, .slice none 0 0, .slice none 0 0]) (t := 26) ?hr ?_; (case hd => rfl); (case hg => rfl); (case hr => first | (go_simp; done) | (go_simp; rfl)); intro gb841 hg w41 hbox hb; have n0_ := Aside0.mk (blk_below (g := gb840) (o := .cells #[.slice A0_0 l0_0.length c0_0, .slice A0_1 l0_1.length c0_1, .slice A0_2 l0_2.length c0_2] 26 (0, 0)) (by (with_reducible repeat (first | refine blk_drewN ?_ _ | refine blk_drew ?_ | refine blk_alloc ?_ _)); exact BK840.out) hb); have n1_ := Aside0.mk (below_step (by repeat (first | (with_reducible first | exact HB.out | apply below_alloc | apply pw_below_drewN | apply below_drew1 | refine below_set ?_ GE840.out) | exact HB.out)) hb); have n2_ := Aside0.mk (hbox); have n3_ := Aside0.mk ((by rw [hg]; exact (below_size (by repeat (first | (with_reducible first | exact HB.out | apply below_alloc | apply pw_below_drewN | apply below_drew1 | refine below_set ?_ GE840.out) | exact HB.out))) : w.heap.size ≤ gb841)); have n4_ := Aside0.mk ((by rw [hg]; exact (below_size (by repeat (first | (with_reducible first | exact HB.out | apply below_alloc | apply pw_below_drewN | apply below_drew1 | refine below_set ?_ GE840.out) | exact HB.out))) : w.heap.size ≤ gb841)); have n5_ := Aside0.mk ((by rw [hg]; exact Nat.ne_of_lt (blk_lt (g := gb840) (o := .cells #[.slice A0_0 l0_0.length c0_0, .slice A0_1 l0_1.length c0_1, .slice A0_2 l0_2.length c0_2] 26 (0, 0)) (by (with_reducible repeat (first | refine blk_drewN ?_ _ | refine blk_drew ?_ | refine blk_alloc ?_ _)); exact BK840.out)) : gb840 ≠ gb841)); have n6_ := Aside0.mk ((by rw [hg]; exact Nat.ne_of_gt (blk_lt (g := gb840) (o := .cells #[.slice A0_0 l0_0.length c0_0, .slice A0_1 l0_1.length c0_1, .slice A0_2 l0_2.length c0_2] 26 (0, 0)) (by (with_reducible repeat (first | refine blk_drewN ?_ _ | refine blk_drew ?_ | refine blk_alloc ?_ _)); exact BK840.out)) : gb841 ≠ gb840)); clear BK840; clear HB; have BK840 := n0_; have HB := n1_; have BK841 := n2_; have GW841 := n3_; have GE841 := n4_; have NB840_841 := n5_; have NB841_840 := n6_; clear n0_ n1_ n2_ n3_ n4_ n5_ n6_; clear hb hbox hg; have hnb42 := NB840_841.out; have hnc42 := NB841_840.out; have hcz43_0 : w41.cell? ⟨gb840, 0, none⟩ = some (.slice A0_0 l0_0.length c0_0) := (blk_cell BK840.out 0).trans rfl; have hcz43_1 : w41.cell? ⟨gb840, 1, none⟩ = some (.slice A0_1 l0_1.length c0_1) := (blk_cell BK840.out 1).trans rfl; have hcz43_2 : w41.cell? ⟨gb840, 2, none⟩ = some (.slice A0_2 l0_2.length c0_2) := (blk_cell BK840.out 2).trans rfl; have hfz43_0 := blk_frozen BK840.out 0; have hfz43_1 := blk_frozen BK840.out 1; have hfz43_2 := blk_frozen BK840.out 2) | ((with_reducible refine gate_callee (f := 72) rfl ?_); refine goesL_ (some 13) rfl rfl Try.func72 (by kernel_rfl) rfl #[.agg #[.slice A0_0 l0_0.length c0_0, .slice A0_1 l0_1.length c0_1, .slice A0_2 l0_2.length c0_2], .int .i64 a1, .int .i64 a2] rfl (by (try simp only [List.map_toArray, List.map_cons, List.map_nil]); first | done | rfl | (simp only [List.length_drop, List.length_take]; rfl)) ?_; (with_reducible refine (laganref04_there.calls k _ _ l0_0 _ _ l0_1 _ _ l0_2 a1 a2 t842 _ ?side1 ?side2 ?side3 ?side4 ?side5 ?side6 A4.out).mono ?_); (case side1 => repeat (first | exact (Kd.C_below HR0_0.out HB.out) | (with_reducible refine Kd.C_alloc ?_ _) | (with_reducible refine Kd.C_drewN ?_ _) | (with_reducible refine Kd.C_drew ?_))); (case side2 => exact HC0_0.out); (case side3 => repeat (first | exact (Kd.C_below HR0_1.out HB.out) | (with_reducible refine Kd.C_alloc ?_ _) | (with_reducible refine Kd.C_drewN ?_ _) | (with_reducible refine Kd.C_drew ?_))); (case side4 => exact HC0_1.out); (case side5 => repeat (first | exact (Kd.C_below HR0_2.out HB.out) | (with_reducible refine Kd.C_alloc ?_ _) | (with_reducible refine Kd.C_drewN ?_ _) | (with_reducible refine Kd.C_drew ?_))); (case side6 => exact HC0_2.out); rintro e w44 ⟨rfl, hb⟩; refine ⟨_, rfl, ?_⟩; have n0_ := Aside0.mk (blk_below (g := gb840) (o := .cells #[.slice A0_0 l0_0.length c0_0, .slice A0_1 l0_1.length c0_1, .slice A0_2 l0_2.length c0_2] 26 (0, 0)) (by (with_reducible repeat (first | refine blk_drewN ?_ _ | refine blk_drew ?_ | refine blk_alloc ?_ _)); exact BK840.out) hb); have n1_ := Aside0.mk (blk_below (g := gb841) (o := .cells #[.slice none 0 0, .slice none 0 0, .slice none 0 0] 26 (0, 0)) (by (with_reducible repeat (first | refine blk_drewN ?_ _ | refine blk_drew ?_ | refine blk_alloc ?_ _)); exact BK841.out) hb); have n2_ := Aside0.mk (below_step (by repeat (first | (with_reducible first | exact HB.out | apply below_alloc | apply pw_below_drewN | apply below_drew1 | refine below_set ?_ GE840.out | refine below_set ?_ GE841.out) | exact HB.out)) hb); clear BK840; clear BK841; clear HB; have BK840 := n0_; have BK841 := n1_; have HB := n2_; clear n0_ n1_ n2_; (try clear hb); (try clear hb2); (try clear hk); (try clear hi); have hcz45_0 : w44.cell? ⟨gb841, 0, none⟩ = some (.slice none 0 0) := (blk_cell BK841.out 0).trans rfl; have hcz45_1 : w44.cell? ⟨gb841, 1, none⟩ = some (.slice none 0 0) := (blk_cell BK841.out 1).trans rfl; have hcz45_2 : w44.cell? ⟨gb841, 2, none⟩ = some (.slice none 0 0) := (blk_cell BK841.out 2).trans rfl; have hfz45_0 := blk_frozen BK841.out 0; have hfz45_1 := blk_frozen BK841.out 1; have hfz45_2 := blk_frozen BK841.out 2))
  refine bodyPost_ret (results_ct rfl _ _ gb841 26 #[.slice none 0 0, .slice none 0 0, .slice none 0 0] (0, 0) _ rfl (by (with_reducible repeat (first | refine blk_drewN ?_ _ | refine blk_drew ?_ | refine blk_alloc ?_ _)); refine blk_put (cs := #[.slice none 0 0, .slice none 0 0, .slice none 0 0]) ?_ 2 _ rfl; (with_reducible repeat (first | refine blk_drewN ?_ _ | refine blk_drew ?_ | refine blk_alloc ?_ _)); refine blk_put (cs := #[.slice none 0 0, .slice none 0 0, .slice none 0 0]) ?_ 1 _ rfl; (with_reducible repeat (first | refine blk_drewN ?_ _ | refine blk_drew ?_ | refine blk_alloc ?_ _)); refine blk_put (cs := #[.slice none 0 0, .slice none 0 0, .slice none 0 0]) ?_ 0 _ rfl; (with_reducible repeat (first | refine blk_drewN ?_ _ | refine blk_drew ?_ | refine blk_alloc ?_ _)); exact BK841.out) Try.underlying26 rfl (by kernel_rfl)) rfl ?_
  exact ⟨_, _, _, by first | rfl | (simp [errW_none, errW_some] <;> rfl) | (simp [*, errW_none, errW_some] <;> rfl), by first | exact Kd.R_nil _ _ _ _ _ | exact Kd.N_nil _ _ _ _ _ | exact Kd.V_nil _ _ _ _ _ | exact Kd.Q_nil _ _ _ _ _ | exact Kd.S_nil _ _ _ _ _, by first | exact Kd.R_nil _ _ _ _ _ | exact Kd.N_nil _ _ _ _ _ | exact Kd.V_nil _ _ _ _ _ | exact Kd.Q_nil _ _ _ _ _ | exact Kd.S_nil _ _ _ _ _, by first | exact Kd.S_nil _ _ _ _ _ | exact Kd.N_nil _ _ _ _ _ | exact Kd.V_nil _ _ _ _ _ | exact Kd.Q_nil _ _ _ _ _ | exact Kd.R_nil _ _ _ _ _, by repeat (first | (with_reducible first | exact HB.out | apply below_alloc | apply pw_below_drewN | apply below_drew1 | refine below_set ?_ GE840.out | refine below_set ?_ GE841.out) | exact HB.out)⟩
 rw [if_pos c5] at H
 have c5b0 : (t842 == 0) = true := beq_iff_eq.mpr c5
 have c5b1 : (t842 != 0) = false := bne_eq_false_iff_eq.mpr c5
 clear c5
 by_cases c6 : 0 ≤ a1
 rotate_left
 ·
  rw [if_neg c6] at H
  exact absurd H (by simp)
 rw [if_pos c6] at H
 have c6b0 : decide (0 ≤ a1) = true := decide_eq_true c6
 clear c6
 by_cases c7 : a1 < (l0_2.length : Int)
 rotate_left
 ·
  rw [if_neg c7] at H
  exact absurd H (by simp)
 rw [if_pos c7] at H
 have c7b0 : decide (a1 < (l0_2.length : Int)) = true := decide_eq_true c7
 clear c7
 replace H := Option.bind_eq_some_iff.mp H
 obtain ⟨t844, A80, H⟩ := H
 replace H : (if t844 = true then ((laganref04_Copied.f k l0_0 l0_1 l0_2).bind fun bt845 => (if a1 < (bt845.2.2.length : Int) then (some (bt845.1, bt845.2.1, (bt845.2.2.set (a1 : Int).toNat (([a2] : List Int))), 0)) else (none))) else (some (([] : List Int), ([] : List (S50)), ([] : List (List Int)), 5))) = some (r1, r2, r3, r4) := H
 have A8 := Aside0.mk A80
 clear A80
 by_cases c9 : t844 = true
 rotate_left
 ·
  replace c9 := Bool.eq_false_iff.mpr c9
  subst c9
  have H1 : (some (([] : List Int), ([] : List (S50)), ([] : List (List Int)), 5)) = some (r1, r2, r3, r4) := by rw [if_neg (show ¬ (false = true) by decide)] at H; exact H
  clear H
  have H := H1
  clear H1
  simp only [Option.some.injEq, Prod.mk.injEq] at H
  obtain ⟨rfl, rfl, rfl, rfl⟩ := H
  go_enter Try.func45, Try.ntmps45
  go_wp2_with (first | ((with_reducible refine gate_dst (N := 3) rfl ?_); refine box_event ?hg (N := 3) ?hd (cs := #[.slice A0_0 l0_0.length c0_0, .slice A0_1 l0_1.length c0_1, .slice A0_2 l0_2.length c0_2]) (t := 26) ?hr ?_; (case hd => rfl); (case hg => rfl); (case hr => first | (go_simp; done) | (go_simp; rfl)); intro gb840 hg w33 hbox hb; have n0_ := Aside0.mk (below_step (by repeat (first | (with_reducible first | exact HB.out | apply below_alloc | apply pw_below_drewN | apply below_drew1) | exact HB.out)) hb); have n1_ := Aside0.mk (hbox); have n2_ := Aside0.mk ((by rw [hg]; exact (below_size (by repeat (first | (with_reducible first | exact HB.out | apply below_alloc | apply pw_below_drewN | apply below_drew1) | exact HB.out))) : w.heap.size ≤ gb840)); have n3_ := Aside0.mk ((by rw [hg]; exact (below_size (by repeat (first | (with_reducible first | exact HB.out | apply below_alloc | apply pw_below_drewN | apply below_drew1) | exact HB.out))) : w.heap.size ≤ gb840)); clear HB; have HB := n0_; have BK840 := n1_; have GW840 := n2_; have GE840 := n3_; clear n0_ n1_ n2_ n3_; clear hb hbox hg) | ((with_reducible refine gate_dst (N := 6) rfl ?_); refine box_event ?hg (N := 6) ?hd (cs := #[.slice none 0 0, .slice none 0 0, .slice none 0 0]) (t := 26) ?hr ?_; (case hd => rfl); (case hg => rfl); (case hr => first | (go_simp; done) | (go_simp; rfl)); intro gb841 hg w34 hbox hb; have n0_ := Aside0.mk (blk_below (g := gb840) (o := .cells #[.slice A0_0 l0_0.length c0_0, .slice A0_1 l0_1.length c0_1, .slice A0_2 l0_2.length c0_2] 26 (0, 0)) (by (with_reducible repeat (first | refine blk_drewN ?_ _ | refine blk_drew ?_ | refine blk_alloc ?_ _)); exact BK840.out) hb); have n1_ := Aside0.mk (below_step (by repeat (first | (with_reducible first | exact HB.out | apply below_alloc | apply pw_below_drewN | apply below_drew1 | refine below_set ?_ GE840.out) | exact HB.out)) hb); have n2_ := Aside0.mk (hbox); have n3_ := Aside0.mk ((by rw [hg]; exact (below_size (by repeat (first | (with_reducible first | exact HB.out | apply below_alloc | apply pw_below_drewN | apply below_drew1 | refine below_set ?_ GE840.out) | exact HB.out))) : w.heap.size ≤ gb841)); have n4_ := Aside0.mk ((by rw [hg]; exact (below_size (by repeat (first | (with_reducible first | exact HB.out | apply below_alloc | apply pw_below_drewN | apply below_drew1 | refine below_set ?_ GE840.out) | exact HB.out))) : w.heap.size ≤ gb841)); have n5_ := Aside0.mk ((by rw [hg]; exact Nat.ne_of_lt (blk_lt (g := gb840) (o := .cells #[.slice A0_0 l0_0.length c0_0, .slice A0_1 l0_1.length c0_1, .slice A0_2 l0_2.length c0_2] 26 (0, 0)) (by (with_reducible repeat (first | refine blk_drewN ?_ _ | refine blk_drew ?_ | refine blk_alloc ?_ _)); exact BK840.out)) : gb840 ≠ gb841)); have n6_ := Aside0.mk ((by rw [hg]; exact Nat.ne_of_gt (blk_lt (g := gb840) (o := .cells #[.slice A0_0 l0_0.length c0_0, .slice A0_1 l0_1.length c0_1, .slice A0_2 l0_2.length c0_2] 26 (0, 0)) (by (with_reducible repeat (first | refine blk_drewN ?_ _ | refine blk_drew ?_ | refine blk_alloc ?_ _)); exact BK840.out)) : gb841 ≠ gb840)); clear BK840; clear HB; have BK840 := n0_; have HB := n1_; have BK841 := n2_; have GW841 := n3_; have GE841 := n4_; have NB840_841 := n5_; have NB841_840 := n6_; clear n0_ n1_ n2_ n3_ n4_ n5_ n6_; clear hb hbox hg; have hnb35 := NB840_841.out; have hnc35 := NB841_840.out; have hcz36_0 : w34.cell? ⟨gb840, 0, none⟩ = some (.slice A0_0 l0_0.length c0_0) := (blk_cell BK840.out 0).trans rfl; have hcz36_1 : w34.cell? ⟨gb840, 1, none⟩ = some (.slice A0_1 l0_1.length c0_1) := (blk_cell BK840.out 1).trans rfl; have hcz36_2 : w34.cell? ⟨gb840, 2, none⟩ = some (.slice A0_2 l0_2.length c0_2) := (blk_cell BK840.out 2).trans rfl; have hfz36_0 := blk_frozen BK840.out 0; have hfz36_1 := blk_frozen BK840.out 1; have hfz36_2 := blk_frozen BK840.out 2) | ((with_reducible refine gate_callee (f := 72) rfl ?_); refine goesL_ (some 13) rfl rfl Try.func72 (by kernel_rfl) rfl #[.agg #[.slice A0_0 l0_0.length c0_0, .slice A0_1 l0_1.length c0_1, .slice A0_2 l0_2.length c0_2], .int .i64 a1, .int .i64 a2] rfl (by (try simp only [List.map_toArray, List.map_cons, List.map_nil]); first | done | rfl | (simp only [List.length_drop, List.length_take]; rfl)) ?_; (with_reducible refine (laganref04_there.calls k _ _ l0_0 _ _ l0_1 _ _ l0_2 a1 a2 t842 _ ?side1 ?side2 ?side3 ?side4 ?side5 ?side6 A4.out).mono ?_); (case side1 => repeat (first | exact (Kd.C_below HR0_0.out HB.out) | (with_reducible refine Kd.C_alloc ?_ _) | (with_reducible refine Kd.C_drewN ?_ _) | (with_reducible refine Kd.C_drew ?_))); (case side2 => exact HC0_0.out); (case side3 => repeat (first | exact (Kd.C_below HR0_1.out HB.out) | (with_reducible refine Kd.C_alloc ?_ _) | (with_reducible refine Kd.C_drewN ?_ _) | (with_reducible refine Kd.C_drew ?_))); (case side4 => exact HC0_1.out); (case side5 => repeat (first | exact (Kd.C_below HR0_2.out HB.out) | (with_reducible refine Kd.C_alloc ?_ _) | (with_reducible refine Kd.C_drewN ?_ _) | (with_reducible refine Kd.C_drew ?_))); (case side6 => exact HC0_2.out); rintro e w37 ⟨rfl, hb⟩; refine ⟨_, rfl, ?_⟩; have n0_ := Aside0.mk (blk_below (g := gb840) (o := .cells #[.slice A0_0 l0_0.length c0_0, .slice A0_1 l0_1.length c0_1, .slice A0_2 l0_2.length c0_2] 26 (0, 0)) (by (with_reducible repeat (first | refine blk_drewN ?_ _ | refine blk_drew ?_ | refine blk_alloc ?_ _)); exact BK840.out) hb); have n1_ := Aside0.mk (blk_below (g := gb841) (o := .cells #[.slice none 0 0, .slice none 0 0, .slice none 0 0] 26 (0, 0)) (by (with_reducible repeat (first | refine blk_drewN ?_ _ | refine blk_drew ?_ | refine blk_alloc ?_ _)); exact BK841.out) hb); have n2_ := Aside0.mk (below_step (by repeat (first | (with_reducible first | exact HB.out | apply below_alloc | apply pw_below_drewN | apply below_drew1 | refine below_set ?_ GE840.out | refine below_set ?_ GE841.out) | exact HB.out)) hb); clear BK840; clear BK841; clear HB; have BK840 := n0_; have BK841 := n1_; have HB := n2_; clear n0_ n1_ n2_; (try clear hb); (try clear hb2); (try clear hk); (try clear hi); have hcz38_0 : w37.cell? ⟨gb840, 0, none⟩ = some (.slice A0_0 l0_0.length c0_0) := (blk_cell BK840.out 0).trans rfl; have hcz38_1 : w37.cell? ⟨gb840, 1, none⟩ = some (.slice A0_1 l0_1.length c0_1) := (blk_cell BK840.out 1).trans rfl; have hcz38_2 : w37.cell? ⟨gb840, 2, none⟩ = some (.slice A0_2 l0_2.length c0_2) := (blk_cell BK840.out 2).trans rfl; have hfz38_0 := blk_frozen BK840.out 0; have hfz38_1 := blk_frozen BK840.out 1; have hfz38_2 := blk_frozen BK840.out 2; have p843 : 0 ≤ (a1 : Int) := of_decide_eq_true (by first | (with_reducible assumption) | assumption); have q843 : a1 < (l0_2.length : Int) := of_decide_eq_true (by first | (with_reducible assumption) | assumption); obtain ⟨ad843, A843_0, c843_0, e843, hx843_0, hl843_0, hi843_0⟩ := at_L1 HR0_2.out a1 p843 q843; cases e843; replace hx843_0 := (HB.out.cell (World.block_lt_of_cell? w _ hx843_0)).trans hx843_0; have HR843_0 := Aside0.mk hi843_0; have HC843_0 := Aside0.mk hl843_0; clear hi843_0 hl843_0; replace p843 := eq_true p843; replace q843 := eq_true q843) | ((with_reducible refine gate_callee (f := 33) rfl ?_); refine goesL_ (some 24) rfl rfl Try.func33 (by kernel_rfl) rfl #[.slice A843_0 (rd_L1 l0_2 a1).length c843_0, .int .i64 a2] rfl (by (try simp only [List.map_toArray, List.map_cons, List.map_nil]); first | done | rfl | (simp only [List.length_drop, List.length_take]; rfl)) ?_; (with_reducible refine (laganref04_Has.calls k _ _ (rd_L1 l0_2 a1) a2 false _ ?side1 ?side2 A8.out).mono ?_); (case side1 => repeat (first | exact (Kd.C_below HR843_0.out HB.out) | (with_reducible refine Kd.C_alloc ?_ _) | (with_reducible refine Kd.C_drewN ?_ _) | (with_reducible refine Kd.C_drew ?_))); (case side2 => exact HC843_0.out); rintro e w' ⟨rfl, ⟨nd, rfl⟩⟩; refine ⟨_, rfl, ?_⟩; (try (rw [drewN_self w37]; generalize hq_ : World.drewN w37 _ = w37; have n0_ : Aside0 (w37.heap[gb840]? = some (.cells #[.slice A0_0 l0_0.length c0_0, .slice A0_1 l0_1.length c0_1, .slice (some ad843) l0_2.length c0_2] 26 (0, 0))) := ⟨by rw [← hq_]; exact (by (with_reducible repeat (first | refine blk_drewN ?_ _ | refine blk_drew ?_ | refine blk_alloc ?_ _)); exact BK840.out)⟩; have n1_ : Aside0 (w37.heap[gb841]? = some (.cells #[.slice none 0 0, .slice none 0 0, .slice none 0 0] 26 (0, 0))) := ⟨by rw [← hq_]; exact (by (with_reducible repeat (first | refine blk_drewN ?_ _ | refine blk_drew ?_ | refine blk_alloc ?_ _)); exact BK841.out)⟩; have n2_ : Aside0 (Below w.heap.size w w37) := ⟨by rw [← hq_]; exact (by repeat (first | (with_reducible first | exact HB.out | apply below_alloc | apply pw_below_drewN | apply below_drew1 | refine below_set ?_ GE840.out | refine below_set ?_ GE841.out) | exact HB.out))⟩; clear BK840 BK841 HB hq_; have BK840 := n0_; have BK841 := n1_; have HB := n2_; clear n0_ n1_ n2_)); have hcz39_0 : w37.cell? ⟨gb841, 0, none⟩ = some (.slice none 0 0) := (blk_cell BK841.out 0).trans rfl; have hcz39_1 : w37.cell? ⟨gb841, 1, none⟩ = some (.slice none 0 0) := (blk_cell BK841.out 1).trans rfl; have hcz39_2 : w37.cell? ⟨gb841, 2, none⟩ = some (.slice none 0 0) := (blk_cell BK841.out 2).trans rfl; have hfz39_0 := blk_frozen BK841.out 0; have hfz39_1 := blk_frozen BK841.out 1; have hfz39_2 := blk_frozen BK841.out 2))
  refine bodyPost_ret (results_ct rfl _ _ gb841 26 #[.slice none 0 0, .slice none 0 0, .slice none 0 0] (0, 0) _ rfl (by (with_reducible repeat (first | refine blk_drewN ?_ _ | refine blk_drew ?_ | refine blk_alloc ?_ _)); refine blk_put (cs := #[.slice none 0 0, .slice none 0 0, .slice none 0 0]) ?_ 2 _ rfl; (with_reducible repeat (first | refine blk_drewN ?_ _ | refine blk_drew ?_ | refine blk_alloc ?_ _)); refine blk_put (cs := #[.slice none 0 0, .slice none 0 0, .slice none 0 0]) ?_ 1 _ rfl; (with_reducible repeat (first | refine blk_drewN ?_ _ | refine blk_drew ?_ | refine blk_alloc ?_ _)); refine blk_put (cs := #[.slice none 0 0, .slice none 0 0, .slice none 0 0]) ?_ 0 _ rfl; (with_reducible repeat (first | refine blk_drewN ?_ _ | refine blk_drew ?_ | refine blk_alloc ?_ _)); exact BK841.out) Try.underlying26 rfl (by kernel_rfl)) rfl ?_
  exact ⟨_, _, _, by first | rfl | (simp [errW_none, errW_some] <;> rfl) | (simp [*, errW_none, errW_some] <;> rfl), by first | exact Kd.R_nil _ _ _ _ _ | exact Kd.N_nil _ _ _ _ _ | exact Kd.V_nil _ _ _ _ _ | exact Kd.Q_nil _ _ _ _ _ | exact Kd.S_nil _ _ _ _ _, by first | exact Kd.R_nil _ _ _ _ _ | exact Kd.N_nil _ _ _ _ _ | exact Kd.V_nil _ _ _ _ _ | exact Kd.Q_nil _ _ _ _ _ | exact Kd.S_nil _ _ _ _ _, by first | exact Kd.S_nil _ _ _ _ _ | exact Kd.N_nil _ _ _ _ _ | exact Kd.V_nil _ _ _ _ _ | exact Kd.Q_nil _ _ _ _ _ | exact Kd.R_nil _ _ _ _ _, by repeat (first | (with_reducible first | exact HB.out | apply below_alloc | apply pw_below_drewN | apply below_drew1 | refine below_set ?_ GE840.out | refine below_set ?_ GE841.out) | exact HB.out)⟩
 subst c9
 have H1 : ((laganref04_Copied.f k l0_0 l0_1 l0_2).bind fun bt845 => (if a1 < (bt845.2.2.length : Int) then (some (bt845.1, bt845.2.1, (bt845.2.2.set (a1 : Int).toNat (([a2] : List Int))), 0)) else (none))) = some (r1, r2, r3, r4) := by rw [if_pos rfl] at H; exact H
 clear H
 have H := H1
 clear H1
 replace H := Option.bind_eq_some_iff.mp H
 obtain ⟨⟨t845, t848, t851⟩, A100, H⟩ := H
 replace H : (if a1 < (t851.length : Int) then (some (t845, t848, (t851.set (a1 : Int).toNat (([a2] : List Int))), 0)) else (none)) = some (r1, r2, r3, r4) := H
 have A10 := Aside0.mk A100
 clear A100
 obtain ⟨y855, hy855⟩ : ∃ y_ : List Int, y_ = (([a2] : List Int)) := ⟨_, rfl⟩
 replace H : (if a1 < (t851.length : Int) then (some (t845, t848, (t851.set (a1 : Int).toNat y855), 0)) else (none)) = some (r1, r2, r3, r4) := by first | (rw [hy855]; with_reducible exact H) | (have H2_ := (Option.bind_some _ _).symm.trans H; rw [hy855]; with_reducible exact H2_) | (have H2_ := (Option.bind_some _ _).symm.trans H; with_reducible exact H2_) | with_reducible exact H | (rw [hy855]; exact H) | exact H
 have Ny855 := Aside0.mk hy855
 clear hy855
 by_cases c11 : a1 < (t851.length : Int)
 rotate_left
 ·
  rw [if_neg c11] at H
  exact absurd H (by simp)
 rw [if_pos c11] at H
 have c11b0 : decide (a1 < (t851.length : Int)) = true := decide_eq_true c11
 clear c11
 obtain ⟨y858, hy858⟩ : ∃ y_ : List (List Int), y_ = (t851.set (a1 : Int).toNat y855) := ⟨_, rfl⟩
 replace H : (some (t845, t848, y858, 0)) = some (r1, r2, r3, r4) := by first | (rw [hy858]; with_reducible exact H) | (have H2_ := (Option.bind_some _ _).symm.trans H; rw [hy858]; with_reducible exact H2_) | (have H2_ := (Option.bind_some _ _).symm.trans H; with_reducible exact H2_) | with_reducible exact H | (rw [hy858]; exact H) | exact H
 have Ny858 := Aside0.mk hy858
 clear hy858
 simp only [Option.some.injEq, Prod.mk.injEq] at H
 obtain ⟨rfl, rfl, rfl, rfl⟩ := H
 go_enter Try.func45, Try.ntmps45
 go_wp2_with (first | ((with_reducible refine gate_dst (N := 3) rfl ?_); refine box_event ?hg (N := 3) ?hd (cs := #[.slice A0_0 l0_0.length c0_0, .slice A0_1 l0_1.length c0_1, .slice A0_2 l0_2.length c0_2]) (t := 26) ?hr ?_; (case hd => rfl); (case hg => rfl); (case hr => first | (go_simp; done) | (go_simp; rfl)); intro gb840 hg w13 hbox hb; have n0_ := Aside0.mk (below_step (by repeat (first | (with_reducible first | exact HB.out | apply below_alloc | apply pw_below_drewN | apply below_drew1) | exact HB.out)) hb); have n1_ := Aside0.mk (hbox); have n2_ := Aside0.mk ((by rw [hg]; exact (below_size (by repeat (first | (with_reducible first | exact HB.out | apply below_alloc | apply pw_below_drewN | apply below_drew1) | exact HB.out))) : w.heap.size ≤ gb840)); have n3_ := Aside0.mk ((by rw [hg]; exact (below_size (by repeat (first | (with_reducible first | exact HB.out | apply below_alloc | apply pw_below_drewN | apply below_drew1) | exact HB.out))) : w.heap.size ≤ gb840)); clear HB; have HB := n0_; have BK840 := n1_; have GW840 := n2_; have GE840 := n3_; clear n0_ n1_ n2_ n3_; clear hb hbox hg) | ((with_reducible refine gate_dst (N := 6) rfl ?_); refine box_event ?hg (N := 6) ?hd (cs := #[.slice none 0 0, .slice none 0 0, .slice none 0 0]) (t := 26) ?hr ?_; (case hd => rfl); (case hg => rfl); (case hr => first | (go_simp; done) | (go_simp; rfl)); intro gb841 hg w14 hbox hb; have n0_ := Aside0.mk (blk_below (g := gb840) (o := .cells #[.slice A0_0 l0_0.length c0_0, .slice A0_1 l0_1.length c0_1, .slice A0_2 l0_2.length c0_2] 26 (0, 0)) (by (with_reducible repeat (first | refine blk_drewN ?_ _ | refine blk_drew ?_ | refine blk_alloc ?_ _)); exact BK840.out) hb); have n1_ := Aside0.mk (below_step (by repeat (first | (with_reducible first | exact HB.out | apply below_alloc | apply pw_below_drewN | apply below_drew1 | refine below_set ?_ GE840.out) | exact HB.out)) hb); have n2_ := Aside0.mk (hbox); have n3_ := Aside0.mk ((by rw [hg]; exact (below_size (by repeat (first | (with_reducible first | exact HB.out | apply below_alloc | apply pw_below_drewN | apply below_drew1 | refine below_set ?_ GE840.out) | exact HB.out))) : w.heap.size ≤ gb841)); have n4_ := Aside0.mk ((by rw [hg]; exact (below_size (by repeat (first | (with_reducible first | exact HB.out | apply below_alloc | apply pw_below_drewN | apply below_drew1 | refine below_set ?_ GE840.out) | exact HB.out))) : w.heap.size ≤ gb841)); have n5_ := Aside0.mk ((by rw [hg]; exact Nat.ne_of_lt (blk_lt (g := gb840) (o := .cells #[.slice A0_0 l0_0.length c0_0, .slice A0_1 l0_1.length c0_1, .slice A0_2 l0_2.length c0_2] 26 (0, 0)) (by (with_reducible repeat (first | refine blk_drewN ?_ _ | refine blk_drew ?_ | refine blk_alloc ?_ _)); exact BK840.out)) : gb840 ≠ gb841)); have n6_ := Aside0.mk ((by rw [hg]; exact Nat.ne_of_gt (blk_lt (g := gb840) (o := .cells #[.slice A0_0 l0_0.length c0_0, .slice A0_1 l0_1.length c0_1, .slice A0_2 l0_2.length c0_2] 26 (0, 0)) (by (with_reducible repeat (first | refine blk_drewN ?_ _ | refine blk_drew ?_ | refine blk_alloc ?_ _)); exact BK840.out)) : gb841 ≠ gb840)); clear BK840; clear HB; have BK840 := n0_; have HB := n1_; have BK841 := n2_; have GW841 := n3_; have GE841 := n4_; have NB840_841 := n5_; have NB841_840 := n6_; clear n0_ n1_ n2_ n3_ n4_ n5_ n6_; clear hb hbox hg; have hnb15 := NB840_841.out; have hnc15 := NB841_840.out; have hcz16_0 : w14.cell? ⟨gb840, 0, none⟩ = some (.slice A0_0 l0_0.length c0_0) := (blk_cell BK840.out 0).trans rfl; have hcz16_1 : w14.cell? ⟨gb840, 1, none⟩ = some (.slice A0_1 l0_1.length c0_1) := (blk_cell BK840.out 1).trans rfl; have hcz16_2 : w14.cell? ⟨gb840, 2, none⟩ = some (.slice A0_2 l0_2.length c0_2) := (blk_cell BK840.out 2).trans rfl; have hfz16_0 := blk_frozen BK840.out 0; have hfz16_1 := blk_frozen BK840.out 1; have hfz16_2 := blk_frozen BK840.out 2) | ((with_reducible refine gate_callee (f := 72) rfl ?_); refine goesL_ (some 13) rfl rfl Try.func72 (by kernel_rfl) rfl #[.agg #[.slice A0_0 l0_0.length c0_0, .slice A0_1 l0_1.length c0_1, .slice A0_2 l0_2.length c0_2], .int .i64 a1, .int .i64 a2] rfl (by (try simp only [List.map_toArray, List.map_cons, List.map_nil]); first | done | rfl | (simp only [List.length_drop, List.length_take]; rfl)) ?_; (with_reducible refine (laganref04_there.calls k _ _ l0_0 _ _ l0_1 _ _ l0_2 a1 a2 t842 _ ?side1 ?side2 ?side3 ?side4 ?side5 ?side6 A4.out).mono ?_); (case side1 => repeat (first | exact (Kd.C_below HR0_0.out HB.out) | (with_reducible refine Kd.C_alloc ?_ _) | (with_reducible refine Kd.C_drewN ?_ _) | (with_reducible refine Kd.C_drew ?_))); (case side2 => exact HC0_0.out); (case side3 => repeat (first | exact (Kd.C_below HR0_1.out HB.out) | (with_reducible refine Kd.C_alloc ?_ _) | (with_reducible refine Kd.C_drewN ?_ _) | (with_reducible refine Kd.C_drew ?_))); (case side4 => exact HC0_1.out); (case side5 => repeat (first | exact (Kd.C_below HR0_2.out HB.out) | (with_reducible refine Kd.C_alloc ?_ _) | (with_reducible refine Kd.C_drewN ?_ _) | (with_reducible refine Kd.C_drew ?_))); (case side6 => exact HC0_2.out); rintro e w17 ⟨rfl, hb⟩; refine ⟨_, rfl, ?_⟩; have n0_ := Aside0.mk (blk_below (g := gb840) (o := .cells #[.slice A0_0 l0_0.length c0_0, .slice A0_1 l0_1.length c0_1, .slice A0_2 l0_2.length c0_2] 26 (0, 0)) (by (with_reducible repeat (first | refine blk_drewN ?_ _ | refine blk_drew ?_ | refine blk_alloc ?_ _)); exact BK840.out) hb); have n1_ := Aside0.mk (blk_below (g := gb841) (o := .cells #[.slice none 0 0, .slice none 0 0, .slice none 0 0] 26 (0, 0)) (by (with_reducible repeat (first | refine blk_drewN ?_ _ | refine blk_drew ?_ | refine blk_alloc ?_ _)); exact BK841.out) hb); have n2_ := Aside0.mk (below_step (by repeat (first | (with_reducible first | exact HB.out | apply below_alloc | apply pw_below_drewN | apply below_drew1 | refine below_set ?_ GE840.out | refine below_set ?_ GE841.out) | exact HB.out)) hb); clear BK840; clear BK841; clear HB; have BK840 := n0_; have BK841 := n1_; have HB := n2_; clear n0_ n1_ n2_; (try clear hb); (try clear hb2); (try clear hk); (try clear hi); have hcz18_0 : w17.cell? ⟨gb840, 0, none⟩ = some (.slice A0_0 l0_0.length c0_0) := (blk_cell BK840.out 0).trans rfl; have hcz18_1 : w17.cell? ⟨gb840, 1, none⟩ = some (.slice A0_1 l0_1.length c0_1) := (blk_cell BK840.out 1).trans rfl; have hcz18_2 : w17.cell? ⟨gb840, 2, none⟩ = some (.slice A0_2 l0_2.length c0_2) := (blk_cell BK840.out 2).trans rfl; have hfz18_0 := blk_frozen BK840.out 0; have hfz18_1 := blk_frozen BK840.out 1; have hfz18_2 := blk_frozen BK840.out 2; have p843 : 0 ≤ (a1 : Int) := of_decide_eq_true (by first | (with_reducible assumption) | assumption); have q843 : a1 < (l0_2.length : Int) := of_decide_eq_true (by first | (with_reducible assumption) | assumption); obtain ⟨ad843, A843_0, c843_0, e843, hx843_0, hl843_0, hi843_0⟩ := at_L1 HR0_2.out a1 p843 q843; cases e843; replace hx843_0 := (HB.out.cell (World.block_lt_of_cell? w _ hx843_0)).trans hx843_0; have HR843_0 := Aside0.mk hi843_0; have HC843_0 := Aside0.mk hl843_0; clear hi843_0 hl843_0; replace p843 := eq_true p843; replace q843 := eq_true q843) | ((with_reducible refine gate_callee (f := 33) rfl ?_); refine goesL_ (some 24) rfl rfl Try.func33 (by kernel_rfl) rfl #[.slice A843_0 (rd_L1 l0_2 a1).length c843_0, .int .i64 a2] rfl (by (try simp only [List.map_toArray, List.map_cons, List.map_nil]); first | done | rfl | (simp only [List.length_drop, List.length_take]; rfl)) ?_; (with_reducible refine (laganref04_Has.calls k _ _ (rd_L1 l0_2 a1) a2 true _ ?side1 ?side2 A8.out).mono ?_); (case side1 => repeat (first | exact (Kd.C_below HR843_0.out HB.out) | (with_reducible refine Kd.C_alloc ?_ _) | (with_reducible refine Kd.C_drewN ?_ _) | (with_reducible refine Kd.C_drew ?_))); (case side2 => exact HC843_0.out); rintro e w' ⟨rfl, ⟨nd, rfl⟩⟩; refine ⟨_, rfl, ?_⟩; (try (rw [drewN_self w17]; generalize hq_ : World.drewN w17 _ = w17; have n0_ : Aside0 (w17.heap[gb840]? = some (.cells #[.slice A0_0 l0_0.length c0_0, .slice A0_1 l0_1.length c0_1, .slice (some ad843) l0_2.length c0_2] 26 (0, 0))) := ⟨by rw [← hq_]; exact (by (with_reducible repeat (first | refine blk_drewN ?_ _ | refine blk_drew ?_ | refine blk_alloc ?_ _)); exact BK840.out)⟩; have n1_ : Aside0 (w17.heap[gb841]? = some (.cells #[.slice none 0 0, .slice none 0 0, .slice none 0 0] 26 (0, 0))) := ⟨by rw [← hq_]; exact (by (with_reducible repeat (first | refine blk_drewN ?_ _ | refine blk_drew ?_ | refine blk_alloc ?_ _)); exact BK841.out)⟩; have n2_ : Aside0 (Below w.heap.size w w17) := ⟨by rw [← hq_]; exact (by repeat (first | (with_reducible first | exact HB.out | apply below_alloc | apply pw_below_drewN | apply below_drew1 | refine below_set ?_ GE840.out | refine below_set ?_ GE841.out) | exact HB.out))⟩; clear BK840 BK841 HB hq_; have BK840 := n0_; have BK841 := n1_; have HB := n2_; clear n0_ n1_ n2_; have hcy0 : w17.cell? ⟨gb840, 0, none⟩ = some (.slice A0_0 l0_0.length c0_0) := (blk_cell BK840.out 0).trans rfl; have hfy0 := blk_frozen BK840.out 0; have hcy1 : w17.cell? ⟨gb840, 1, none⟩ = some (.slice A0_1 l0_1.length c0_1) := (blk_cell BK840.out 1).trans rfl; have hfy1 := blk_frozen BK840.out 1; have hcy2 : w17.cell? ⟨gb840, 2, none⟩ = some (.slice (some ad843) l0_2.length c0_2) := (blk_cell BK840.out 2).trans rfl; have hfy2 := blk_frozen BK840.out 2))) | ((with_reducible refine gate_callee (f := 26) rfl ?_); refine goesL_ (some 28) rfl rfl Try.func26 (by kernel_rfl) rfl #[.agg #[.slice A0_0 l0_0.length c0_0, .slice A0_1 l0_1.length c0_1, .slice (some ad843) l0_2.length c0_2]] rfl (by (try simp only [List.map_toArray, List.map_cons, List.map_nil]); first | done | rfl | (simp only [List.length_drop, List.length_take]; rfl)) ?_; (with_reducible refine (laganref04_Copied.calls k _ _ l0_0 _ _ l0_1 _ _ l0_2 t845 t848 t851 _ ?side1 ?side2 ?side3 ?side4 ?side5 ?side6 A10.out).mono ?_); (case side1 => repeat (first | exact (Kd.C_below HR0_0.out HB.out) | (with_reducible refine Kd.C_alloc ?_ _) | (with_reducible refine Kd.C_drewN ?_ _) | (with_reducible refine Kd.C_drew ?_))); (case side2 => exact HC0_0.out); (case side3 => repeat (first | exact (Kd.C_below HR0_1.out HB.out) | (with_reducible refine Kd.C_alloc ?_ _) | (with_reducible refine Kd.C_drewN ?_ _) | (with_reducible refine Kd.C_drew ?_))); (case side4 => exact HC0_1.out); (case side5 => repeat (first | exact (Kd.C_below HR0_2.out HB.out) | (with_reducible refine Kd.C_alloc ?_ _) | (with_reducible refine Kd.C_drewN ?_ _) | (with_reducible refine Kd.C_drew ?_))); (case side6 => exact HC0_2.out); rintro e w19 ⟨v846, v849, v852, rfl, ho0, ho1, ho2, hb⟩; refine ⟨_, rfl, ?_⟩; have n0_ := Aside0.mk (Kd.R_lower ho0 (below_size (by repeat (first | (with_reducible first | exact HB.out | apply below_alloc | apply pw_below_drewN | apply below_drew1 | refine below_set ?_ GE840.out | refine below_set ?_ GE841.out) | exact HB.out)))); have n1_ := Aside0.mk (Kd.R_lower ho1 (below_size (by repeat (first | (with_reducible first | exact HB.out | apply below_alloc | apply pw_below_drewN | apply below_drew1 | refine below_set ?_ GE840.out | refine below_set ?_ GE841.out) | exact HB.out)))); have n2_ := Aside0.mk (Kd.S_lower ho2 (below_size (by repeat (first | (with_reducible first | exact HB.out | apply below_alloc | apply pw_below_drewN | apply below_drew1 | refine below_set ?_ GE840.out | refine below_set ?_ GE841.out) | exact HB.out)))); have n3_ := Aside0.mk (blk_below (g := gb840) (o := .cells #[.slice A0_0 l0_0.length c0_0, .slice A0_1 l0_1.length c0_1, .slice (some ad843) l0_2.length c0_2] 26 (0, 0)) (by (with_reducible repeat (first | refine blk_drewN ?_ _ | refine blk_drew ?_ | refine blk_alloc ?_ _)); exact BK840.out) hb); have n4_ := Aside0.mk (blk_below (g := gb841) (o := .cells #[.slice none 0 0, .slice none 0 0, .slice none 0 0] 26 (0, 0)) (by (with_reducible repeat (first | refine blk_drewN ?_ _ | refine blk_drew ?_ | refine blk_alloc ?_ _)); exact BK841.out) hb); have n5_ := Aside0.mk (below_step (by repeat (first | (with_reducible first | exact HB.out | apply below_alloc | apply pw_below_drewN | apply below_drew1 | refine below_set ?_ GE840.out | refine below_set ?_ GE841.out) | exact HB.out)) hb); clear BK840; clear BK841; clear HB; have HO847 := n0_; have HO850 := n1_; have HO853 := n2_; have BK840 := n3_; have BK841 := n4_; have HB := n5_; clear n0_ n1_ n2_ n3_ n4_ n5_; (try clear hb); (try clear hb2); (try clear hk); (try clear hi); (try clear ho0); (try clear ho1); (try clear ho2)) | ((with_reducible refine gate_dst (N := 9) rfl ?_); refine box_event ?hg (N := 9) ?hd (cs := #[.slice none 0 0, .slice none 0 0, .slice none 0 0]) (t := 26) ?hr ?_; (case hd => rfl); (case hg => rfl); (case hr => first | (go_simp; done) | (go_simp; rfl)); intro gb854 hg w20 hbox hb; have n0_ := Aside0.mk (Kd.R_below (by (with_reducible repeat (first | apply Kd.R_alloc | apply Kd.R_drewN | apply Kd.R_drew)); exact HO847.out) hb); have n1_ := Aside0.mk (Kd.R_below (by (with_reducible repeat (first | apply Kd.R_alloc | apply Kd.R_drewN | apply Kd.R_drew)); exact HO850.out) hb); have n2_ := Aside0.mk (Kd.S_below (by (with_reducible repeat (first | apply Kd.S_alloc | apply Kd.S_drewN | apply Kd.S_drew)); exact HO853.out) hb); have n3_ := Aside0.mk (blk_below (g := gb840) (o := .cells #[.slice A0_0 l0_0.length c0_0, .slice A0_1 l0_1.length c0_1, .slice (some ad843) l0_2.length c0_2] 26 (0, 0)) (by (with_reducible repeat (first | refine blk_drewN ?_ _ | refine blk_drew ?_ | refine blk_alloc ?_ _)); exact BK840.out) hb); have n4_ := Aside0.mk (blk_below (g := gb841) (o := .cells #[.slice none 0 0, .slice none 0 0, .slice none 0 0] 26 (0, 0)) (by (with_reducible repeat (first | refine blk_drewN ?_ _ | refine blk_drew ?_ | refine blk_alloc ?_ _)); exact BK841.out) hb); have n5_ := Aside0.mk (below_step (by repeat (first | (with_reducible first | exact HB.out | apply below_alloc | apply pw_below_drewN | apply below_drew1 | refine below_set ?_ GE840.out | refine below_set ?_ GE841.out) | exact HB.out)) hb); have n6_ := Aside0.mk (hbox); have n7_ := Aside0.mk ((by rw [hg]; exact (below_size (by repeat (first | (with_reducible first | exact HB.out | apply below_alloc | apply pw_below_drewN | apply below_drew1 | refine below_set ?_ GE840.out | refine below_set ?_ GE841.out) | exact HB.out))) : w.heap.size ≤ gb854)); have n8_ := Aside0.mk ((by rw [hg]; exact (below_size (by repeat (first | (with_reducible first | exact HB.out | apply below_alloc | apply pw_below_drewN | apply below_drew1 | refine below_set ?_ GE840.out | refine below_set ?_ GE841.out) | exact HB.out))) : w.heap.size ≤ gb854)); have n9_ := Aside0.mk ((by rw [hg]; exact Nat.ne_of_lt (blk_lt (g := gb840) (o := .cells #[.slice A0_0 l0_0.length c0_0, .slice A0_1 l0_1.length c0_1, .slice (some ad843) l0_2.length c0_2] 26 (0, 0)) (by (with_reducible repeat (first | refine blk_drewN ?_ _ | refine blk_drew ?_ | refine blk_alloc ?_ _)); exact BK840.out)) : gb840 ≠ gb854)); have n10_ := Aside0.mk ((by rw [hg]; exact Nat.ne_of_gt (blk_lt (g := gb840) (o := .cells #[.slice A0_0 l0_0.length c0_0, .slice A0_1 l0_1.length c0_1, .slice (some ad843) l0_2.length c0_2] 26 (0, 0)) (by (with_reducible repeat (first | refine blk_drewN ?_ _ | refine blk_drew ?_ | refine blk_alloc ?_ _)); exact BK840.out)) : gb854 ≠ gb840)); have n11_ := Aside0.mk ((by rw [hg]; exact Nat.ne_of_lt (blk_lt (g := gb841) (o := .cells #[.slice none 0 0, .slice none 0 0, .slice none 0 0] 26 (0, 0)) (by (with_reducible repeat (first | refine blk_drewN ?_ _ | refine blk_drew ?_ | refine blk_alloc ?_ _)); exact BK841.out)) : gb841 ≠ gb854)); have n12_ := Aside0.mk ((by rw [hg]; exact Nat.ne_of_gt (blk_lt (g := gb841) (o := .cells #[.slice none 0 0, .slice none 0 0, .slice none 0 0] 26 (0, 0)) (by (with_reducible repeat (first | refine blk_drewN ?_ _ | refine blk_drew ?_ | refine blk_alloc ?_ _)); exact BK841.out)) : gb854 ≠ gb841)); clear HO847; clear HO850; clear HO853; clear BK840; clear BK841; clear HB; have HO847 := n0_; have HO850 := n1_; have HO853 := n2_; have BK840 := n3_; have BK841 := n4_; have HB := n5_; have BK854 := n6_; have GW854 := n7_; have GE854 := n8_; have NB840_854 := n9_; have NB854_840 := n10_; have NB841_854 := n11_; have NB854_841 := n12_; clear n0_ n1_ n2_ n3_ n4_ n5_ n6_ n7_ n8_ n9_ n10_ n11_ n12_; clear hb hbox hg; obtain ⟨Ao21, co21, eo21⟩ := Kd.R_slice HO847.out; subst eo21; have hnb22 := NB854_840.out; have hnc22 := NB840_854.out; have hnb23 := NB854_841.out; have hnc23 := NB841_854.out; have hcz24_0 : w20.cell? ⟨gb854, 0, none⟩ = some (.slice none 0 0) := (blk_cell BK854.out 0).trans rfl; have hcz24_1 : w20.cell? ⟨gb854, 1, none⟩ = some (.slice none 0 0) := (blk_cell BK854.out 1).trans rfl; have hcz24_2 : w20.cell? ⟨gb854, 2, none⟩ = some (.slice none 0 0) := (blk_cell BK854.out 2).trans rfl; have hfz24_0 := blk_frozen BK854.out 0; have hfz24_1 := blk_frozen BK854.out 1; have hfz24_2 := blk_frozen BK854.out 2; obtain ⟨Ao25, co25, eo25⟩ := Kd.R_slice HO850.out; subst eo25; obtain ⟨Ao26, co26, eo26⟩ := Kd.S_slice HO853.out; subst eo26) | ((with_reducible refine gate_dst (N := 33) rfl ?_); refine Kd.R_lit (Kd.int .i64) _ 3 ?hg (N := 33) ?hd (xs := ([a2] : List Int)) (inner := [.int .i64 a2]) (ok := fun _ => True) (okp := fun _ => True) ?hr ?hp (fun _ hk => hk) trivial (Below.refl _ _) (Nat.le_refl _) (by simp) ?_; (case hd => rfl); (case hg => rfl); (case hr => first | (go_simp; done) | (go_simp; rfl)); (case hp => exact (Reps.one (show Kd.M (Kd.int .i64) _ _ _ a2 [.int .i64 a2] from rfl) (Reps.none _ _))); intro v856 w27 ho28 hb hg_ hnew_; clear hg_ hnew_; (first | rw [← Ny855.out] at ho28 | (simp only [Int.reduceToNat] at ho28; rw [← Ny855.out] at ho28)); have n0_ := Aside0.mk (Kd.R_elder' (by (with_reducible repeat (first | apply Kd.R_alloc | apply Kd.R_drewN | apply Kd.R_drew)); exact (Kd.R_mono (Kd.R_far (p := ⟨gb854, 2, none⟩) (Kd.R_far (p := ⟨gb854, 1, none⟩) (Kd.R_far (p := ⟨gb854, 0, none⟩) (Kd.R_types HO847.out BK854.out (by decide)) (fun _ hk => hk.2) (.slice Ao21 t845.length co21)) (fun _ hk => hk.2) (.slice Ao25 t848.length co25)) (fun _ hk => hk.2) (.slice Ao26 t851.length co26)) (fun _ h_ => h_.1))) (Kd.R_base ho28) hb); have n1_ := Aside0.mk (Kd.R_below (by (with_reducible repeat (first | apply Kd.R_alloc | apply Kd.R_drewN | apply Kd.R_drew)); exact (Kd.R_mono (Kd.R_far (p := ⟨gb854, 2, none⟩) (Kd.R_far (p := ⟨gb854, 1, none⟩) (Kd.R_far (p := ⟨gb854, 0, none⟩) (Kd.R_types HO850.out BK854.out (by decide)) (fun _ hk => hk.2) (.slice Ao21 t845.length co21)) (fun _ hk => hk.2) (.slice Ao25 t848.length co25)) (fun _ hk => hk.2) (.slice Ao26 t851.length co26)) (fun _ h_ => h_.1))) hb); have n2_ := Aside0.mk (Kd.S_elder' (by (with_reducible repeat (first | apply Kd.S_alloc | apply Kd.S_drewN | apply Kd.S_drew)); exact (Kd.S_mono (Kd.S_far (p := ⟨gb854, 2, none⟩) (Kd.S_far (p := ⟨gb854, 1, none⟩) (Kd.S_far (p := ⟨gb854, 0, none⟩) (Kd.S_types HO853.out BK854.out (by decide)) (fun _ hk => hk.2) (.slice Ao21 t845.length co21)) (fun _ hk => hk.2) (.slice Ao25 t848.length co25)) (fun _ hk => hk.2) (.slice Ao26 t851.length co26)) (fun _ h_ => h_.1))) (Kd.R_base ho28) hb); have n3_ := Aside0.mk (Kd.R_lower (Kd.R_new' ho28 (Kd.R_lt (by (with_reducible repeat (first | apply Kd.R_alloc | apply Kd.R_drewN | apply Kd.R_drew)); exact (Kd.R_mono (Kd.R_far (p := ⟨gb854, 2, none⟩) (Kd.R_far (p := ⟨gb854, 1, none⟩) (Kd.R_far (p := ⟨gb854, 0, none⟩) (Kd.R_types HO847.out BK854.out (by decide)) (fun _ hk => hk.2) (.slice Ao21 t845.length co21)) (fun _ hk => hk.2) (.slice Ao25 t848.length co25)) (fun _ hk => hk.2) (.slice Ao26 t851.length co26)) (fun _ h_ => h_.1))))) (below_size (by repeat (first | (with_reducible first | exact HB.out | apply below_alloc | apply pw_below_drewN | apply below_drew1 | refine below_set ?_ GE840.out | refine below_set ?_ GE841.out | refine below_set ?_ GE854.out) | exact HB.out)))); have n4_ := Aside0.mk (blk_below (g := gb840) (o := .cells #[.slice A0_0 l0_0.length c0_0, .slice A0_1 l0_1.length c0_1, .slice (some ad843) l0_2.length c0_2] 26 (0, 0)) (by (with_reducible repeat (first | refine blk_drewN ?_ _ | refine blk_drew ?_ | refine blk_alloc ?_ _)); refine blk_far ?_ NB840_854.out _; (with_reducible repeat (first | refine blk_drewN ?_ _ | refine blk_drew ?_ | refine blk_alloc ?_ _)); refine blk_far ?_ NB840_854.out _; (with_reducible repeat (first | refine blk_drewN ?_ _ | refine blk_drew ?_ | refine blk_alloc ?_ _)); refine blk_far ?_ NB840_854.out _; (with_reducible repeat (first | refine blk_drewN ?_ _ | refine blk_drew ?_ | refine blk_alloc ?_ _)); exact BK840.out) hb); have n5_ := Aside0.mk (blk_below (g := gb841) (o := .cells #[.slice none 0 0, .slice none 0 0, .slice none 0 0] 26 (0, 0)) (by (with_reducible repeat (first | refine blk_drewN ?_ _ | refine blk_drew ?_ | refine blk_alloc ?_ _)); refine blk_far ?_ NB841_854.out _; (with_reducible repeat (first | refine blk_drewN ?_ _ | refine blk_drew ?_ | refine blk_alloc ?_ _)); refine blk_far ?_ NB841_854.out _; (with_reducible repeat (first | refine blk_drewN ?_ _ | refine blk_drew ?_ | refine blk_alloc ?_ _)); refine blk_far ?_ NB841_854.out _; (with_reducible repeat (first | refine blk_drewN ?_ _ | refine blk_drew ?_ | refine blk_alloc ?_ _)); exact BK841.out) hb); have n6_ := Aside0.mk (blk_below (g := gb854) (o := .cells #[.slice Ao21 t845.length co21, .slice Ao25 t848.length co25, .slice Ao26 t851.length co26] 26 (0, 0)) (by (with_reducible repeat (first | refine blk_drewN ?_ _ | refine blk_drew ?_ | refine blk_alloc ?_ _)); refine blk_put (cs := #[.slice Ao21 t845.length co21, .slice Ao25 t848.length co25, .slice none 0 0]) ?_ 2 _ rfl; (with_reducible repeat (first | refine blk_drewN ?_ _ | refine blk_drew ?_ | refine blk_alloc ?_ _)); refine blk_put (cs := #[.slice Ao21 t845.length co21, .slice none 0 0, .slice none 0 0]) ?_ 1 _ rfl; (with_reducible repeat (first | refine blk_drewN ?_ _ | refine blk_drew ?_ | refine blk_alloc ?_ _)); refine blk_put (cs := #[.slice none 0 0, .slice none 0 0, .slice none 0 0]) ?_ 0 _ rfl; (with_reducible repeat (first | refine blk_drewN ?_ _ | refine blk_drew ?_ | refine blk_alloc ?_ _)); exact BK854.out) hb); have n7_ := Aside0.mk (below_step (by repeat (first | (with_reducible first | exact HB.out | apply below_alloc | apply pw_below_drewN | apply below_drew1 | refine below_set ?_ GE840.out | refine below_set ?_ GE841.out | refine below_set ?_ GE854.out) | exact HB.out)) hb); clear HO847; clear HO850; clear HO853; clear BK840; clear BK841; clear BK854; clear HB; have HO847 := n0_; have HO850 := n1_; have HO853 := n2_; have HO857 := n3_; have BK840 := n4_; have BK841 := n5_; have BK854 := n6_; have HB := n7_; clear n0_ n1_ n2_ n3_ n4_ n5_ n6_ n7_; clear hb ho28; have p12 : 0 ≤ (a1 : Int) := of_decide_eq_true (by first | (with_reducible assumption) | assumption); have q12 : (a1 : Int) < ((t851.length : Int) : Int) := of_decide_eq_true (by first | (with_reducible assumption) | assumption); obtain ⟨go12, co12, eo12, gb12, gl12, cl12, HG12⟩ := Kd.S_form HO853.out (by omega); (first | cases eo12 | (injection eo12 with ea_ en_ ec_; (first | subst ea_ | (injection ea_ with ea_; subst ea_)); subst ec_; clear en_)); have GB12 := Aside0.mk gb12; have GG12 := Aside0.mk HG12; clear gb12 gl12 HG12; obtain ⟨_, ce12, hcl12, hM12, hcc12, hfr12, _, _⟩ := Kd.S_elem HO853.out [] (a1 : Int) p12 q12; obtain ⟨ve12_0, rfl, ge12_0⟩ := hM12; have hx12_0 := hcc12 0 _ rfl; have hf12_0 := hfr12 0; (try simp only [show ((Kd.slice 3 (Kd.int .i64))).sz = 1 from rfl, Nat.mul_one, Nat.add_zero] at hx12_0); (try simp only [show ((Kd.slice 3 (Kd.int .i64))).sz = 1 from rfl, Nat.mul_one, Nat.add_zero] at hf12_0); clear hcl12 hcc12 hfr12; (try clear hM12); replace p12 := eq_true p12; replace q12 := eq_true q12; have HX29 := Aside0.mk (show Kd.S (Kd.slice 3 (Kd.int .i64)) 22 w27 w.heap.size (fun k_ => ((fun k_ => some k_ ≠ (.slice Ao21 t845.length co21 : Value).ownBlock)) k_ ∧ ¬ ((fun k_ => some k_ = (v856 : Value).ownBlock)) k_) (.slice (some ⟨go12, 0, none⟩) t851.length co26) t851 from (by (with_reducible repeat (first | apply Kd.S_alloc | apply Kd.S_drewN | apply Kd.S_drew)); exact Kd.S_mono HO853.out (fun k_ hk => ⟨hk.1, fun e_ => hk.2 e_⟩))); obtain ⟨oki29, ce29, hcl29, hM29, hcc29, hfr29, hoki29, hH29⟩ := Kd.S_elem HX29.out [] (a1 : Int) (of_decide_eq_true (by first | (with_reducible assumption) | assumption)) (by have h_ : (a1 : Int) < ((t851.length : Int) : Int) := of_decide_eq_true (by first | (with_reducible assumption) | assumption); first | exact h_ | (have e_ := (Kd.S_reads' HO853.out).1; omega) | simpa using h_); obtain ⟨ve29_0, rfl, ge29_0⟩ := hM29; have HP29 := Kd.S_seg hH29 (of_decide_eq_true (by first | (with_reducible assumption) | assumption)) (by have h_ : (a1 : Int) < ((t851.length : Int) : Int) := of_decide_eq_true (by first | (with_reducible assumption) | assumption); first | exact h_ | (have e_ := (Kd.S_reads' HO853.out).1; omega) | simpa using h_) (seg := [v856]) (j := 0) (show 1 ≤ 1 from by decide) (x' := y855) (Kd.M_row (Kd.R_mono (Kd.R_tight rfl (Kd.R_mono (ok' := fun k_ => ((fun k_ => some k_ ≠ (.slice Ao21 t845.length co21 : Value).ownBlock)) k_ ∧ k_ ≠ go12) (Kd.R_apart' (HO857.out) (Kd.S_typed HO853.out) (by decide)) (fun k_ hk => ⟨hk.1.2, fun e_ => (hk.2) (by rw [e_]; rfl)⟩))) (fun _ h_ => Or.inr (h_)))) (fun _ hk => hk) (fun k_ hk_ => ((Kd.R_mono (ok' := fun k_ => ((fun k_ => some k_ ≠ (.slice Ao21 t845.length co21 : Value).ownBlock)) k_ ∧ k_ ≠ go12) (Kd.R_apart' (HO857.out) (Kd.S_typed HO853.out) (by decide)) (fun k_ hk => ⟨hk.1.2, fun e_ => (hk.2) (by rw [e_]; rfl)⟩))).1 k_ hk_.symm); have hx29_0 := hcc29 0 _ rfl; (try simp only [show ((Kd.slice 3 (Kd.int .i64))).sz = 1 from rfl, Nat.mul_one, Nat.add_zero] at hx29_0); have hf29_0 := hfr29 0; (try simp only [show ((Kd.slice 3 (Kd.int .i64))).sz = 1 from rfl, Nat.mul_one, Nat.add_zero] at hf29_0); clear hcl29 hcc29 hfr29 hoki29 hH29; (try clear hM29); (try simp only [show ((Kd.slice 3 (Kd.int .i64))).sz = 1 from rfl, Nat.mul_one, Nat.add_zero] at HP29)) | ((with_reducible refine gate_store (t := 22) (p := 34) rfl ?_); refine store_event (t := 22) (p := 34) (v := ?vo_w30) (w1 := (w27.setCell ⟨go12, (a1 : Int).toNat, none⟩ (v856))) ?hg ?ho ?hn ?hr ?_; (case ho => rfl); (case hg => rfl); (case hn => rfl); (case hr => first | (go_simp; done) | (go_simp; rfl) | (obtain ⟨Ax_, cx_, ex_⟩ := Kd.R_slice HO857.out; rw [ex_]; go_simp; done) | (obtain ⟨Ax_, cx_, ex_⟩ := Kd.R_slice HO857.out; rw [ex_]; go_simp; rfl)); intro w30 hw; have hg : w27.grownBy w30 (some go12) := (by rw [hw]; exact HP29.2); have hp_ : Kd.S (Kd.slice 3 (Kd.int .i64)) 22 w30 w.heap.size (fun k_ => some k_ ≠ (.slice Ao21 t845.length co21 : Value).ownBlock) (.slice (some ⟨go12, 0, none⟩) t851.length co26) y858 := (by rw [hw, Ny858.out]; exact HP29.1); clear HP29; have n0_ := Aside0.mk (blk_grown (g := gb840) (o := .cells #[.slice A0_0 l0_0.length c0_0, .slice A0_1 l0_1.length c0_1, .slice (some ad843) l0_2.length c0_2] 26 (0, 0)) (by (with_reducible repeat (first | refine blk_drewN ?_ _ | refine blk_drew ?_ | refine blk_alloc ?_ _)); exact BK840.out) hg (Kd.S_ne HO853.out BK840.out (by decide))); have n1_ := Aside0.mk (blk_grown (g := gb841) (o := .cells #[.slice none 0 0, .slice none 0 0, .slice none 0 0] 26 (0, 0)) (by (with_reducible repeat (first | refine blk_drewN ?_ _ | refine blk_drew ?_ | refine blk_alloc ?_ _)); exact BK841.out) hg (Kd.S_ne HO853.out BK841.out (by decide))); have n2_ := Aside0.mk (Kd.R_over' (v := (.slice (some ⟨go12, 0, none⟩) t851.length co26)) (by (with_reducible repeat (first | apply Kd.R_alloc | apply Kd.R_drewN | apply Kd.R_drew)); exact HO847.out) (Kd.S_typed HO853.out) (by decide) hg); have n3_ := Aside0.mk (Kd.R_over' (v := (.slice (some ⟨go12, 0, none⟩) t851.length co26)) (by (with_reducible repeat (first | apply Kd.R_alloc | apply Kd.R_drewN | apply Kd.R_drew)); exact HO850.out) (Kd.S_typed HO853.out) (by decide) hg); have n4_ := Aside0.mk (hp_); have n5_ := Aside0.mk (blk_grown (g := gb854) (o := .cells #[.slice Ao21 t845.length co21, .slice Ao25 t848.length co25, .slice (some ⟨go12, 0, none⟩) t851.length co26] 26 (0, 0)) (by (with_reducible repeat (first | refine blk_drewN ?_ _ | refine blk_drew ?_ | refine blk_alloc ?_ _)); exact BK854.out) hg (Kd.S_ne HO853.out BK854.out (by decide))); have n6_ := Aside0.mk ((by rw [hw]; exact below_set (HB.out) GB12.out : Below w.heap.size w w30)); clear BK840; clear BK841; clear HO847; clear HO850; clear HO853; clear BK854; clear HB; clear HO857; have BK840 := n0_; have BK841 := n1_; have HO847 := n2_; have HO850 := n3_; have HO853 := n4_; have BK854 := n5_; have HB := n6_; clear n0_ n1_ n2_ n3_ n4_ n5_ n6_; clear hg hw hp_; have hcz31_0 : w30.cell? ⟨gb854, 0, none⟩ = some (.slice Ao21 t845.length co21) := (blk_cell BK854.out 0).trans rfl; have hcz31_1 : w30.cell? ⟨gb854, 1, none⟩ = some (.slice Ao25 t848.length co25) := (blk_cell BK854.out 1).trans rfl; have hcz31_2 : w30.cell? ⟨gb854, 2, none⟩ = some (.slice (some ⟨go12, 0, none⟩) t851.length co26) := (blk_cell BK854.out 2).trans rfl; have hfz31_0 := blk_frozen BK854.out 0; have hfz31_1 := blk_frozen BK854.out 1; have hfz31_2 := blk_frozen BK854.out 2; have hcz32_0 : w30.cell? ⟨gb841, 0, none⟩ = some (.slice none 0 0) := (blk_cell BK841.out 0).trans rfl; have hcz32_1 : w30.cell? ⟨gb841, 1, none⟩ = some (.slice none 0 0) := (blk_cell BK841.out 1).trans rfl; have hcz32_2 : w30.cell? ⟨gb841, 2, none⟩ = some (.slice none 0 0) := (blk_cell BK841.out 2).trans rfl; have hfz32_0 := blk_frozen BK841.out 0; have hfz32_1 := blk_frozen BK841.out 1; have hfz32_2 := blk_frozen BK841.out 2))
 refine bodyPost_ret (results_ct rfl _ _ gb841 26 #[.slice Ao21 t845.length co21, .slice Ao25 t848.length co25, .slice (some ⟨go12, 0, none⟩) t851.length co26] (0, 0) _ rfl (by (with_reducible repeat (first | refine blk_drewN ?_ _ | refine blk_drew ?_ | refine blk_alloc ?_ _)); refine blk_put (cs := #[.slice Ao21 t845.length co21, .slice Ao25 t848.length co25, .slice none 0 0]) ?_ 2 _ rfl; (with_reducible repeat (first | refine blk_drewN ?_ _ | refine blk_drew ?_ | refine blk_alloc ?_ _)); refine blk_put (cs := #[.slice Ao21 t845.length co21, .slice none 0 0, .slice none 0 0]) ?_ 1 _ rfl; (with_reducible repeat (first | refine blk_drewN ?_ _ | refine blk_drew ?_ | refine blk_alloc ?_ _)); refine blk_put (cs := #[.slice none 0 0, .slice none 0 0, .slice none 0 0]) ?_ 0 _ rfl; (with_reducible repeat (first | refine blk_drewN ?_ _ | refine blk_drew ?_ | refine blk_alloc ?_ _)); exact BK841.out) Try.underlying26 rfl (by kernel_rfl)) rfl ?_
 exact ⟨_, _, _, by first | rfl | (simp [errW_none, errW_some] <;> rfl) | (simp [*, errW_none, errW_some] <;> rfl), by (with_reducible repeat (first | apply Kd.R_alloc | apply Kd.R_drewN | apply Kd.R_drew)); exact Kd.R_mono (Kd.R_far (p := ⟨gb841, 2, none⟩) (Kd.R_far (p := ⟨gb841, 1, none⟩) (Kd.R_far (p := ⟨gb841, 0, none⟩) (Kd.R_types HO847.out BK841.out (by decide)) (fun _ hk => hk.2) (.slice Ao21 t845.length co21)) (fun _ hk => hk.2) (.slice Ao25 t848.length co25)) (fun _ hk => hk.2) (.slice (some ⟨go12, 0, none⟩) t851.length co26)) (fun _ hk => trivial), by (with_reducible repeat (first | apply Kd.R_alloc | apply Kd.R_drewN | apply Kd.R_drew)); exact Kd.R_mono (Kd.R_far (p := ⟨gb841, 2, none⟩) (Kd.R_far (p := ⟨gb841, 1, none⟩) (Kd.R_far (p := ⟨gb841, 0, none⟩) (Kd.R_types HO850.out BK841.out (by decide)) (fun _ hk => hk.2) (.slice Ao21 t845.length co21)) (fun _ hk => hk.2) (.slice Ao25 t848.length co25)) (fun _ hk => hk.2) (.slice (some ⟨go12, 0, none⟩) t851.length co26)) (fun _ hk => trivial), by (with_reducible repeat (first | apply Kd.S_alloc | apply Kd.S_drewN | apply Kd.S_drew)); exact Kd.S_mono (Kd.S_far (p := ⟨gb841, 2, none⟩) (Kd.S_far (p := ⟨gb841, 1, none⟩) (Kd.S_far (p := ⟨gb841, 0, none⟩) (Kd.S_types HO853.out BK841.out (by decide)) (fun _ hk => hk.2) (.slice Ao21 t845.length co21)) (fun _ hk => hk.2) (.slice Ao25 t848.length co25)) (fun _ hk => hk.2) (.slice (some ⟨go12, 0, none⟩) t851.length co26)) (fun _ hk => hk.1), by repeat (first | (with_reducible first | exact HB.out | apply below_alloc | apply pw_below_drewN | apply below_drew1 | refine below_set ?_ GE840.out | refine below_set ?_ GE841.out | refine below_set ?_ GE854.out) | exact HB.out)⟩
end Go.Proofs.Ytkmmihadcbfkoaa.PM
end
