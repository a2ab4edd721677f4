/-
  MatchShown holds: for every board, find, slot and two lists, the law returns true and what it is given reads as it did. (part 4 of 6 of the texts that it stands on)
-/
import Derived.Deep.QuietTactic
import Derived.BigQuiet
import Derived.Deep.RegionHeld3
import Derived.Test.YtkmmihadcbfkoaaZShownc
section
namespace Go.Proofs.Ytkmmihadcbfkoaa.PM
open Go.RowKit Go.Proofs.YtkmmihadcbfkoaaW.PrintWords Go.Proofs.YtkmmihadcbfkoaaW.PrintLast Go.Proofs.YtkmmihadcbfkoaaW.PrintMore
set_option linter.unusedVariables false
set_option linter.unusedSimpArgs false
def laganref04_meets.l0 : Nat → List Int → List Int → Int → List Int → List (S50) → List (List Int) → Option (Bool)
 | 0, _, _, _, _, _, _ => none
 | k + 1, x1, x5, x6, x407000, x407001, x407002 => if x6 < (x1.length : Int) then (if 0 ≤ x6 then (if x6 < (x407002.length : Int) then (if ((rd_L1 x407002 x6).length : Int) = 0 then (if (rd x1 x6) = (-1) then (laganref04_meets.l0 k x1 x5 (wrap64 (x6 + 1)) x407000 x407001 x407002) else (some false)) else ((laganref04_Has.f k (rd_L1 x407002 x6) (rd x1 x6)).bind fun t414 => (if t414 = true then (if 0 ≤ (rd x1 x6) then (if (rd x1 x6) < (x5.length : Int) then ((some (x5.set ((rd x1 x6) : Int).toNat (wrap64 ((rd x5 (rd x1 x6)) + 1)) : List Int)).bind fun y418 => (if (rd x1 x6) < (x407001.length : Int) then (if (rd y418 (rd x1 x6)) > ((rd_T50 x407001 (rd x1 x6)).f2) then (some false) else (laganref04_meets.l0 k x1 y418 (wrap64 (x6 + 1)) x407000 x407001 x407002)) else (none))) else (none)) else (none)) else (some false)))) else (none)) else (none)) else (some true)
def laganref04_meets.f (k : Nat) (l0_0 : List Int) (l0_1 : List (S50)) (l0_2 : List (List Int)) (l1 : List Int) : Option (Bool) := if (l1.length : Int) = (l0_0.length : Int) then (if 0 ≤ (l0_1.length : Int) then (if ((l0_1.length : Int) : Int).toNat ≤ 35184372088832 then (laganref04_meets.l0 k l1 (List.replicate ((l0_1.length : Int) : Int).toNat 0) 0 l0_0 l0_1 l0_2) else (none)) else (none)) else (some false)
theorem laganref04_meets.mono_l : ∀ k, (∀ y0 y1 y2 y3 y4 y5, LeO (laganref04_meets.l0 k y0 y1 y2 y3 y4 y5) (laganref04_meets.l0 (k + 1) y0 y1 y2 y3 y4 y5))
 | 0 => fun _ _ _ _ _ _ r h => by simp [laganref04_meets.l0] at h
 | k + 1 => by
  have ih0 := laganref04_meets.mono_l k
  ·
   intro y0 y1 y2 y3 y4 y5
   unfold laganref04_meets.l0
   repeat' first
   | (with_reducible exact ih0 _ _ _ _ _ _)
   | (with_reducible exact laganref04_Has.mono _ _ _)
   | (with_reducible exact LeO.refl _)
   | (with_reducible exact LeO.none _)
   | (with_reducible refine LeO.ite ?_ ?_)
   | (with_reducible refine LeO.bind ?_ (fun _ => ?_))
   | exact ih0 _ _ _ _ _ _
   | exact laganref04_Has.mono _ _ _
   | exact LeO.none _
   | refine LeO.ite ?_ ?_
   | refine LeO.bind ?_ (fun _ => ?_)
theorem laganref04_meets.mono : ∀ a0 a1 a2 a3 k, LeO (laganref04_meets.f k a0 a1 a2 a3) (laganref04_meets.f (k + 1) a0 a1 a2 a3) := by
 intro a0 a1 a2 a3 k
 have ih0 := laganref04_meets.mono_l k
 unfold laganref04_meets.f
 repeat' first
   | (with_reducible exact ih0 _ _ _ _ _ _)
   | (with_reducible exact laganref04_Has.mono _ _ _)
   | (with_reducible exact LeO.refl _)
   | (with_reducible exact LeO.none _)
   | (with_reducible refine LeO.ite ?_ ?_)
   | (with_reducible refine LeO.bind ?_ (fun _ => ?_))
   | exact ih0 _ _ _ _ _ _
   | exact laganref04_Has.mono _ _ _
   | exact LeO.none _
   | refine LeO.ite ?_ ?_
   | refine LeO.bind ?_ (fun _ => ?_)
def laganref04_meets.T10 : Bool × List (List Nat × List Nat) := (true, [([], []), ([0], [0]), ([], []), ([1, 2], [1, 2]), ([3], [3]), ([], []), ([], []), ([5, 6], [5, 6]), ([7], [7]), ([4, 8], [4, 8]), ([9], [9])])
def laganref04_meets.B10 : List Nat := [0, 1, 0, 7, 15, 0, 0, 96, 224, 511, 1023]
theorem laganref04_meets.tab10 : rtab .any (opsOf Try.f71 10) = laganref04_meets.T10 := by kernel_rfl
theorem laganref04_meets.bits10 : waitsOk laganref04_meets.T10.2 laganref04_meets.B10 = true := by kernel_rfl
def laganref04_meets.T12 : Bool × List (List Nat × List Nat) := (true, [([], []), ([], []), ([], []), ([1, 2], [1, 2]), ([3], [3]), ([], []), ([], []), ([], []), ([6, 7], [6, 7]), ([8], [8]), ([5, 9], [5, 9]), ([10], [10]), ([11], [11]), ([0, 4, 0, 1, 2, 3, 4, 5, 6, 7, 8, 9, 10, 11, 12], [0, 4]), ([13, 12, 0, 1, 2, 3, 4, 5, 6, 7, 8, 9, 10, 11, 12], [12, 13])])
def laganref04_meets.B12 : List Nat := [0, 0, 0, 6, 14, 0, 0, 0, 192, 448, 992, 2016, 4064, 8191, 16383]
theorem laganref04_meets.tab12 : rtab .any (opsOf Try.f71 12) = laganref04_meets.T12 := by kernel_rfl
theorem laganref04_meets.bits12 : waitsOk laganref04_meets.T12.2 laganref04_meets.B12 = true := by kernel_rfl
def laganref04_meets.T13 : Bool × List (List Nat × List Nat) := (true, [([], []), ([], []), ([], []), ([1, 2], [1, 2]), ([3], [3]), ([0, 4], [0, 4]), ([5], [5]), ([], []), ([7], [7]), ([], []), ([], []), ([9, 10], [9, 10]), ([11], [11]), ([8, 12], [8, 12]), ([13], [13]), ([14], [14]), ([6, 15], [6, 15])])
def laganref04_meets.B13 : List Nat := [0, 0, 0, 6, 14, 31, 63, 0, 128, 0, 0, 1536, 3584, 8064, 16256, 32640, 65535]
theorem laganref04_meets.tab13 : rtab .any (opsOf Try.f71 13) = laganref04_meets.T13 := by kernel_rfl
theorem laganref04_meets.bits13 : waitsOk laganref04_meets.T13.2 laganref04_meets.B13 = true := by kernel_rfl
set_option maxHeartbeats 8000000 in
set_option maxRecDepth 100000 in
theorem laganref04_meets.calls (k : Nat) (A0_0 : Option Addr) (c0_0 : Nat) (l0_0 : List Int) (A0_1 : Option Addr) (c0_1 : Nat) (l0_1 : List (S50)) (A0_2 : Option Addr) (c0_2 : Nat) (l0_2 : List (List Int)) (A1 : Option Addr) (c1 : Nat) (l1 : List Int) (r : Bool) (w : World) (hr0_0 : Kd.C (Kd.int .i64) w A0_0 l0_0.length l0_0) (hc0_0 : l0_0.length ≤ c0_0) (hr0_1 : Kd.C k50 w A0_1 l0_1.length l0_1) (hc0_1 : l0_1.length ≤ c0_1) (hr0_2 : Kd.C (Kd.slice 3 (Kd.int .i64)) w A0_2 l0_2.length l0_2) (hc0_2 : l0_2.length ≤ c0_2) (hr1 : Kd.C (Kd.int .i64) w A1 l1.length l1) (hc1 : l1.length ≤ c1) (h : laganref04_meets.f k l0_0 l0_1 l0_2 l1 = some r) :
  Calls Try.prog 71 #[.agg #[.slice A0_0 l0_0.length c0_0, .slice A0_1 l0_1.length c0_1, .slice A0_2 l0_2.length c0_2], .slice A1 l1.length c1] w fun e w' => e = .returned (.bool r) ∧ Below w.heap.size w w' := by
 have hu26 := Try.underlying26
 have HR0_0 := Aside0.mk hr0_0
 have HC0_0 := Aside0.mk hc0_0
 clear hr0_0 hc0_0
 have HR0_1 := Aside0.mk hr0_1
 have HC0_1 := Aside0.mk hc0_1
 clear hr0_1 hc0_1
 have HR0_2 := Aside0.mk hr0_2
 have HC0_2 := Aside0.mk hc0_2
 clear hr0_2 hc0_2
 have HR1 := Aside0.mk hr1
 have HC1 := Aside0.mk hc1
 clear hr1 hc1
 have HB := Aside0.mk (Below.refl w.heap.size w)
 have H : (if (l1.length : Int) = (l0_0.length : Int) then (if 0 ≤ (l0_1.length : Int) then (if ((l0_1.length : Int) : Int).toNat ≤ 35184372088832 then (laganref04_meets.l0 k l1 (List.replicate ((l0_1.length : Int) : Int).toNat 0) 0 l0_0 l0_1 l0_2) else (none)) else (none)) else (some false)) = some r := h
 clear h
 by_cases c3 : (l1.length : Int) = (l0_0.length : Int)
 ·
  rw [if_pos c3] at H
  have c3b0 : ((l1.length : Int) == (l0_0.length : Int)) = true := beq_iff_eq.mpr c3
  have c3b1 : ((l1.length : Int) != (l0_0.length : Int)) = false := bne_eq_false_iff_eq.mpr c3
  have c3b2 : (l1.length == l0_0.length) = true := by first | simpa using c3 | (simp at c3 ⊢; omega)
  clear c3
  by_cases c4 : 0 ≤ (l0_1.length : Int)
  ·
   rw [if_pos c4] at H
   have c4b0 := eq_true c4
   have c4b1 : decide (0 ≤ (l0_1.length : Int)) = true := decide_eq_true c4
   clear c4
   by_cases c5 : ((l0_1.length : Int) : Int).toNat ≤ 35184372088832
   ·
    rw [if_pos c5] at H
    have c5b0 := eq_true c5
    have c5b1 : decide (((l0_1.length : Int) : Int).toNat ≤ 35184372088832) = true := decide_eq_true c5
    clear c5
    obtain ⟨y407, hy407⟩ : ∃ y_ : List Int, y_ = (List.replicate ((l0_1.length : Int) : Int).toNat 0) := ⟨_, rfl⟩
    replace H : (laganref04_meets.l0 k l1 y407 0 l0_0 l0_1 l0_2) = some r := by first | (rw [hy407]; with_reducible exact H) | (have H2_ := (Option.bind_some _ _).symm.trans H; rw [hy407]; with_reducible exact H2_) | (have H2_ := (Option.bind_some _ _).symm.trans H; with_reducible exact H2_) | with_reducible exact H | (rw [hy407]; exact H) | exact H
    have Ny407 := Aside0.mk hy407
    clear hy407
    have H' := Aside0.mk H
    clear H
    go_enter Try.func71, Try.ntmps71
    go_wp2_with (first | ((with_reducible refine gate_dst (N := 2) rfl ?_); refine box_event ?hg (N := 2) ?hd (cs := #[.slice A0_0 l0_0.length c0_0, .slice A0_1 l0_1.length c0_1, .slice A0_2 l0_2.length c0_2]) (t := 26) ?hr ?_; (case hd => rfl); (case hg => rfl); (case hr => first | (go_simp; done) | (go_simp; rfl)); intro gb406 hg w6 hbox hb; have n0_ := Aside0.mk (below_step (by repeat (first | (with_reducible first | exact HB.out | apply below_alloc | apply pw_below_drewN | apply below_drew1) | exact HB.out)) hb); have n1_ := Aside0.mk (hbox); have n2_ := Aside0.mk ((by rw [hg]; exact (below_size (by repeat (first | (with_reducible first | exact HB.out | apply below_alloc | apply pw_below_drewN | apply below_drew1) | exact HB.out))) : w.heap.size ≤ gb406)); have n3_ := Aside0.mk ((by rw [hg]; exact (below_size (by repeat (first | (with_reducible first | exact HB.out | apply below_alloc | apply pw_below_drewN | apply below_drew1) | exact HB.out))) : w.heap.size ≤ gb406)); clear HB; have HB := n0_; have BK406 := n1_; have GW406 := n2_; have GE406 := n3_; clear n0_ n1_ n2_ n3_; clear hb hbox hg; have hcz7_0 : w6.cell? ⟨gb406, 0, none⟩ = some (.slice A0_0 l0_0.length c0_0) := (blk_cell BK406.out 0).trans rfl; have hcz7_1 : w6.cell? ⟨gb406, 1, none⟩ = some (.slice A0_1 l0_1.length c0_1) := (blk_cell BK406.out 1).trans rfl; have hcz7_2 : w6.cell? ⟨gb406, 2, none⟩ = some (.slice A0_2 l0_2.length c0_2) := (blk_cell BK406.out 2).trans rfl; have hfz7_0 := blk_frozen BK406.out 0; have hfz7_1 := blk_frozen BK406.out 1; have hfz7_2 := blk_frozen BK406.out 2) | ((with_reducible refine gate_dst (N := 16) rfl ?_); refine Kd.R_make (Kd.int .i64) _ 3 rfl (N := 16) rfl 22 _ _ rfl (l0_1.length : Int) rfl rfl Try.underlying22 (.int .i64 0) 8 info3 rfl (by decide) (by omega) 0 (ok := fun _ => True) (okp := fun _ => True) rfl (fun _ hk => hk) trivial (of_decide_eq_true (by first | (with_reducible assumption) | assumption)) (Nat.le_trans (Nat.mul_le_mul_right _ (of_decide_eq_true (by first | (with_reducible assumption) | assumption) : (l0_1.length : Int).toNat ≤ 35184372088832)) (by omega)) (Below.refl _ _) (Nat.le_refl _) ?_; intro v408 w8 ho9 hb hg_ hnew_; clear hg_ hnew_; (first | rw [← Ny407.out] at ho9 | (simp only [Int.reduceToNat] at ho9; rw [← Ny407.out] at ho9)); have n0_ := Aside0.mk (Kd.R_lower ho9 (below_size (by repeat (first | (with_reducible first | exact HB.out | apply below_alloc | apply pw_below_drewN | apply below_drew1 | refine below_set ?_ GE406.out) | exact HB.out)))); have n1_ := Aside0.mk (blk_below (g := gb406) (o := .cells #[.slice A0_0 l0_0.length c0_0, .slice A0_1 l0_1.length c0_1, .slice A0_2 l0_2.length c0_2] 26 (0, 0)) (by (with_reducible repeat (first | refine blk_drewN ?_ _ | refine blk_drew ?_ | refine blk_alloc ?_ _)); exact BK406.out) hb); have n2_ := Aside0.mk (below_step (by repeat (first | (with_reducible first | exact HB.out | apply below_alloc | apply pw_below_drewN | apply below_drew1 | refine below_set ?_ GE406.out) | exact HB.out)) hb); clear BK406; clear HB; have HO409 := n0_; have BK406 := n1_; have HB := n2_; clear n0_ n1_ n2_; clear hb ho9))
    go_loopg [6] k (fun kq v6 w' => ∃ (x5_1 : List Int) (x6_1 : Int), v6 = .int .i64 x6_1 ∧ Aside0 (laganref04_meets.l0 kq l1 x5_1 x6_1 l0_0 l0_1 l0_2 = some r) ∧ Aside0 (kq ≤ k) ∧ Aside0 (Kd.R (Kd.int .i64) 3 w' w.heap.size (fun _ => True) v408 x5_1) ∧ Aside0 (w'.heap[gb406]? = some (.cells #[(.slice A0_0 l0_0.length c0_0), (.slice A0_1 l0_1.length c0_1), (.slice A0_2 l0_2.length c0_2)] 26 (0, 0))) ∧ Aside0 (Below w.heap.size w w'))
    case atStart => exact ⟨(y407), (0), (by first | rfl | (simp; done) | (simp [*]; done)), H', ⟨Nat.le_refl _⟩, ⟨by (with_reducible repeat (first | apply Kd.R_alloc | apply Kd.R_drewN | apply Kd.R_drew)); exact HO409.out⟩, ⟨by (with_reducible repeat (first | refine blk_drewN ?_ _ | refine blk_drew ?_ | refine blk_alloc ?_ _)); exact BK406.out⟩, ⟨by repeat (first | (with_reducible first | exact HB.out | apply below_alloc | apply pw_below_drewN | apply below_drew1 | refine below_set ?_ GE406.out) | exact HB.out)⟩⟩
    case round =>
     clear H'
     try clear c1
     try clear p2
     try clear c3
     try clear c3b0
     try clear c3b1
     try clear c3b2
     try clear c4
     try clear c4b0
     try clear c4b1
     try clear c5
     try clear c5b0
     try clear c5b1
     try clear c7
     try clear hcz7_0
     try clear hcz7_1
     try clear hcz7_2
     try clear hfz7_0
     try clear hfz7_1
     try clear hfz7_2
     obtain ⟨x5_1, x6_1, rfl, HA, HK1, HO_5, BK406, HB⟩ := hrel
     cases gk with
     | zero => exact absurd HA.out (by simp [laganref04_meets.l0])
     | succ k1 =>
      have H := HA.out
      clear HA
      simp only [laganref04_meets.l0] at H
      by_cases c10 : x6_1 < (l1.length : Int)
      ·
       rw [if_pos c10] at H
       have c10b0 : decide (x6_1 < (l1.length : Int)) = true := decide_eq_true c10
       clear c10
       by_cases c11 : 0 ≤ x6_1
       ·
        rw [if_pos c11] at H
        have c11b0 : decide (0 ≤ x6_1) = true := decide_eq_true c11
        clear c11
        by_cases c12 : x6_1 < (l0_2.length : Int)
        ·
         rw [if_pos c12] at H
         have c12b0 : decide (x6_1 < (l0_2.length : Int)) = true := decide_eq_true c12
         clear c12
         by_cases c13 : ((rd_L1 l0_2 x6_1).length : Int) = 0
         ·
          rw [if_pos c13] at H
          have c13b0 : (((rd_L1 l0_2 x6_1).length : Int) == 0) = true := beq_iff_eq.mpr c13
          have c13b1 : (((rd_L1 l0_2 x6_1).length : Int) != 0) = false := bne_eq_false_iff_eq.mpr c13
          clear c13
          by_cases c14 : (rd l1 x6_1) = (-1)
          ·
           rw [if_pos c14] at H
           have c14b0 : ((rd l1 x6_1) == (-1)) = true := beq_iff_eq.mpr c14
           have c14b1 : ((rd l1 x6_1) != (-1)) = false := bne_eq_false_iff_eq.mpr c14
           clear c14
           have H' := Aside0.mk H
           clear H
           have hcz15_0 : wr.cell? ⟨gb406, 0, none⟩ = some (.slice A0_0 l0_0.length c0_0) := (blk_cell BK406.out 0).trans rfl
           have hcz15_1 : wr.cell? ⟨gb406, 1, none⟩ = some (.slice A0_1 l0_1.length c0_1) := (blk_cell BK406.out 1).trans rfl
           have hcz15_2 : wr.cell? ⟨gb406, 2, none⟩ = some (.slice A0_2 l0_2.length c0_2) := (blk_cell BK406.out 2).trans rfl
           have hfz15_0 := blk_frozen BK406.out 0
           have hfz15_1 := blk_frozen BK406.out 1
           have hfz15_2 := blk_frozen BK406.out 2
           have p410 : 0 ≤ (x6_1 : Int) := of_decide_eq_true (by first | (with_reducible assumption) | assumption)
           have q410 : x6_1 < (l0_2.length : Int) := of_decide_eq_true (by first | (with_reducible assumption) | assumption)
           obtain ⟨ad410, A410_0, c410_0, e410, hx410_0, hl410_0, hi410_0⟩ := at_L1 HR0_2.out x6_1 p410 q410
           cases e410
           replace hx410_0 := (HB.out.cell (World.block_lt_of_cell? w _ hx410_0)).trans hx410_0
           have HR410_0 := Aside0.mk hi410_0
           have HC410_0 := Aside0.mk hl410_0
           clear hi410_0 hl410_0
           replace p410 := eq_true p410
           replace q410 := eq_true q410
           have p411 : 0 ≤ (x6_1 : Int) := of_decide_eq_true (by first | (with_reducible assumption) | assumption)
           have q411 : x6_1 < (l1.length : Int) := of_decide_eq_true (by first | (with_reducible assumption) | assumption)
           obtain ⟨ad411, e411, hx411_0⟩ := Kd.at_int HR1.out x6_1 p411 q411
           cases e411
           replace hx411_0 := (HB.out.cell (World.block_lt_of_cell? w _ hx411_0)).trans hx411_0
           replace p411 := eq_true p411
           replace q411 := eq_true q411
           go_wp2
           go_roundg k1
           case measure => have := HK1.out; omega
           case rel => exact ⟨(x5_1), (wrap64 (x6_1 + 1)), (by first | rfl | (simp; done) | (simp [*]; done)), H', ⟨by have := HK1.out; omega⟩, ⟨by (with_reducible repeat (first | apply Kd.R_alloc | apply Kd.R_drewN | apply Kd.R_drew)); exact HO_5.out⟩, ⟨by (with_reducible repeat (first | refine blk_drewN ?_ _ | refine blk_drew ?_ | refine blk_alloc ?_ _)); exact BK406.out⟩, ⟨by repeat (first | (with_reducible first | exact HB.out | apply below_alloc | apply pw_below_drewN | apply below_drew1 | refine below_set ?_ GE406.out) | exact HB.out)⟩⟩
          ·
           rw [if_neg c14] at H
           have c14b0 : ((rd l1 x6_1) == (-1)) = false := beq_eq_false_iff_ne.mpr c14
           have c14b1 : ((rd l1 x6_1) != (-1)) = true := bne_iff_ne.mpr c14
           obtain rfl := Option.some.inj H
           have hcz16_0 : wr.cell? ⟨gb406, 0, none⟩ = some (.slice A0_0 l0_0.length c0_0) := (blk_cell BK406.out 0).trans rfl
           have hcz16_1 : wr.cell? ⟨gb406, 1, none⟩ = some (.slice A0_1 l0_1.length c0_1) := (blk_cell BK406.out 1).trans rfl
           have hcz16_2 : wr.cell? ⟨gb406, 2, none⟩ = some (.slice A0_2 l0_2.length c0_2) := (blk_cell BK406.out 2).trans rfl
           have hfz16_0 := blk_frozen BK406.out 0
           have hfz16_1 := blk_frozen BK406.out 1
           have hfz16_2 := blk_frozen BK406.out 2
           have p410 : 0 ≤ (x6_1 : Int) := of_decide_eq_true (by first | (with_reducible assumption) | assumption)
           have q410 : x6_1 < (l0_2.length : Int) := of_decide_eq_true (by first | (with_reducible assumption) | assumption)
           obtain ⟨ad410, A410_0, c410_0, e410, hx410_0, hl410_0, hi410_0⟩ := at_L1 HR0_2.out x6_1 p410 q410
           cases e410
           replace hx410_0 := (HB.out.cell (World.block_lt_of_cell? w _ hx410_0)).trans hx410_0
           have HR410_0 := Aside0.mk hi410_0
           have HC410_0 := Aside0.mk hl410_0
           clear hi410_0 hl410_0
           replace p410 := eq_true p410
           replace q410 := eq_true q410
           have p411 : 0 ≤ (x6_1 : Int) := of_decide_eq_true (by first | (with_reducible assumption) | assumption)
           have q411 : x6_1 < (l1.length : Int) := of_decide_eq_true (by first | (with_reducible assumption) | assumption)
           obtain ⟨ad411, e411, hx411_0⟩ := Kd.at_int HR1.out x6_1 p411 q411
           cases e411
           replace hx411_0 := (HB.out.cell (World.block_lt_of_cell? w _ hx411_0)).trans hx411_0
           replace p411 := eq_true p411
           replace q411 := eq_true q411
           go_wp2
           go_ret
           exact ⟨by first | rfl | (simp [errW_none, errW_some] <;> rfl) | (simp [*, errW_none, errW_some] <;> rfl), by repeat (first | (with_reducible first | exact HB.out | apply below_alloc | apply pw_below_drewN | apply below_drew1 | refine below_set ?_ GE406.out) | exact HB.out)⟩
         ·
          rw [if_neg c13] at H
          have c13b0 : (((rd_L1 l0_2 x6_1).length : Int) == 0) = false := beq_eq_false_iff_ne.mpr c13
          have c13b1 : (((rd_L1 l0_2 x6_1).length : Int) != 0) = true := bne_iff_ne.mpr c13
          have c13b2 : ¬ ((rd_L1 l0_2 x6_1) = []) := fun h_ => c13 (by rw [h_]; rfl)
          replace H := Option.bind_eq_some_iff.mp H
          obtain ⟨t414, A170, H⟩ := H
          replace H : (if t414 = true then (if 0 ≤ (rd l1 x6_1) then (if (rd l1 x6_1) < (x5_1.length : Int) then ((some (x5_1.set ((rd l1 x6_1) : Int).toNat (wrap64 ((rd x5_1 (rd l1 x6_1)) + 1)) : List Int)).bind fun y418 => (if (rd l1 x6_1) < (l0_1.length : Int) then (if (rd y418 (rd l1 x6_1)) > ((rd_T50 l0_1 (rd l1 x6_1)).f2) then (some false) else (laganref04_meets.l0 k1 l1 y418 (wrap64 (x6_1 + 1)) l0_0 l0_1 l0_2)) else (none))) else (none)) else (none)) else (some false)) = some r := H
          have A17 := Aside0.mk A170
          clear A170
          by_cases c18 : t414 = true
          ·
           subst c18
           have H1 : (if 0 ≤ (rd l1 x6_1) then (if (rd l1 x6_1) < (x5_1.length : Int) then ((some (x5_1.set ((rd l1 x6_1) : Int).toNat (wrap64 ((rd x5_1 (rd l1 x6_1)) + 1)) : List Int)).bind fun y418 => (if (rd l1 x6_1) < (l0_1.length : Int) then (if (rd y418 (rd l1 x6_1)) > ((rd_T50 l0_1 (rd l1 x6_1)).f2) then (some false) else (laganref04_meets.l0 k1 l1 y418 (wrap64 (x6_1 + 1)) l0_0 l0_1 l0_2)) else (none))) else (none)) else (none)) = some r := by rw [if_pos rfl] at H; exact H
           clear H
           have H := H1
           clear H1
           by_cases c19 : 0 ≤ (rd l1 x6_1)
           ·
            rw [if_pos c19] at H
            have c19b0 : decide (0 ≤ (rd l1 x6_1)) = true := decide_eq_true c19
            clear c19
            by_cases c20 : (rd l1 x6_1) < (x5_1.length : Int)
            ·
             rw [if_pos c20] at H
             have c20b0 : decide ((rd l1 x6_1) < (x5_1.length : Int)) = true := decide_eq_true c20
             clear c20
             obtain ⟨y418, hy418⟩ : ∃ y_ : List Int, y_ = (x5_1.set ((rd l1 x6_1) : Int).toNat (wrap64 ((rd x5_1 (rd l1 x6_1)) + 1))) := ⟨_, rfl⟩
             replace H : (if (rd l1 x6_1) < (l0_1.length : Int) then (if (rd y418 (rd l1 x6_1)) > ((rd_T50 l0_1 (rd l1 x6_1)).f2) then (some false) else (laganref04_meets.l0 k1 l1 y418 (wrap64 (x6_1 + 1)) l0_0 l0_1 l0_2)) else (none)) = some r := by first | (rw [hy418]; with_reducible exact H) | (have H2_ := (Option.bind_some _ _).symm.trans H; rw [hy418]; with_reducible exact H2_) | (have H2_ := (Option.bind_some _ _).symm.trans H; with_reducible exact H2_) | with_reducible exact H | (rw [hy418]; exact H) | exact H
             have Ny418 := Aside0.mk hy418
             clear hy418
             by_cases c22 : (rd l1 x6_1) < (l0_1.length : Int)
             ·
              rw [if_pos c22] at H
              have c22b0 : decide ((rd l1 x6_1) < (l0_1.length : Int)) = true := decide_eq_true c22
              clear c22
              by_cases c23 : (rd y418 (rd l1 x6_1)) > ((rd_T50 l0_1 (rd l1 x6_1)).f2)
              ·
               rw [if_pos c23] at H
               have c23b0 : decide (((rd_T50 l0_1 (rd l1 x6_1)).f2) < (rd y418 (rd l1 x6_1))) = true := decide_eq_true c23
               clear c23
               obtain rfl := Option.some.inj H
               have hcz24_0 : wr.cell? ⟨gb406, 0, none⟩ = some (.slice A0_0 l0_0.length c0_0) := (blk_cell BK406.out 0).trans rfl
               have hcz24_1 : wr.cell? ⟨gb406, 1, none⟩ = some (.slice A0_1 l0_1.length c0_1) := (blk_cell BK406.out 1).trans rfl
               have hcz24_2 : wr.cell? ⟨gb406, 2, none⟩ = some (.slice A0_2 l0_2.length c0_2) := (blk_cell BK406.out 2).trans rfl
               have hfz24_0 := blk_frozen BK406.out 0
               have hfz24_1 := blk_frozen BK406.out 1
               have hfz24_2 := blk_frozen BK406.out 2
               have p410 : 0 ≤ (x6_1 : Int) := of_decide_eq_true (by first | (with_reducible assumption) | assumption)
               have q410 : x6_1 < (l0_2.length : Int) := of_decide_eq_true (by first | (with_reducible assumption) | assumption)
               obtain ⟨ad410, A410_0, c410_0, e410, hx410_0, hl410_0, hi410_0⟩ := at_L1 HR0_2.out x6_1 p410 q410
               cases e410
               replace hx410_0 := (HB.out.cell (World.block_lt_of_cell? w _ hx410_0)).trans hx410_0
               have HR410_0 := Aside0.mk hi410_0
               have HC410_0 := Aside0.mk hl410_0
               clear hi410_0 hl410_0
               replace p410 := eq_true p410
               replace q410 := eq_true q410
               try go_wp2
               have n0_ := Aside0.mk (Kd.R_drew HO_5.out)
               have n1_ := Aside0.mk (blk_drew BK406.out)
               have n2_ := Aside0.mk (below_drew1 HB.out)
               clear HO_5
               clear BK406
               clear HB
               have HO_5 := n0_
               have BK406 := n1_
               have HB := n2_
               clear n0_ n1_ n2_
               have p412 : 0 ≤ (x6_1 : Int) := of_decide_eq_true (by first | (with_reducible assumption) | assumption)
               have q412 : x6_1 < (l0_2.length : Int) := of_decide_eq_true (by first | (with_reducible assumption) | assumption)
               obtain ⟨ad412, A412_0, c412_0, e412, hx412_0, hl412_0, hi412_0⟩ := at_L1 HR0_2.out x6_1 p412 q412
               have hw412_0 := hx412_0
               obtain rfl : ad410 = ad412 := (by injection e412)
               replace hx412_0 := (HB.out.cell (World.block_lt_of_cell? w _ hx412_0)).trans hx412_0
               have HR412_0 := Aside0.mk hi412_0
               have HC412_0 := Aside0.mk hl412_0
               clear hi412_0 hl412_0
               replace p412 := eq_true p412
               replace q412 := eq_true q412
               have p413 : 0 ≤ (x6_1 : Int) := of_decide_eq_true (by first | (with_reducible assumption) | assumption)
               have q413 : x6_1 < (l1.length : Int) := of_decide_eq_true (by first | (with_reducible assumption) | assumption)
               obtain ⟨ad413, e413, hx413_0⟩ := Kd.at_int HR1.out x6_1 p413 q413
               have hw413_0 := hx413_0
               cases e413
               replace hx413_0 := (HB.out.cell (World.block_lt_of_cell? w _ hx413_0)).trans hx413_0
               replace p413 := eq_true p413
               replace q413 := eq_true q413
               refine start_ (n := 11) (S := fun w' => w'.cell? ⟨gb406, 0, none⟩ = some (.slice A0_0 l0_0.length c0_0) ∧ w'.cell? ⟨gb406, 1, none⟩ = some (.slice A0_1 l0_1.length c0_1) ∧ w'.cell? ⟨gb406, 2, none⟩ = some (.slice (some ad410) l0_2.length c0_2) ∧ w'.cell? (ad410.add (x6_1).toNat) = some (.slice A412_0 (rd_L1 l0_2 x6_1).length c412_0) ∧ w'.cell? (ad413.add (x6_1).toNat) = some (.int .i64 (rd l1 x6_1))) (ds := []) #[false, false, false, false, false, false, false, false, false, false, false] (by kernel_rfl) rfl rfl ⟨(blk_cell BK406.out 0).trans rfl, (blk_cell BK406.out 1).trans rfl, (blk_cell BK406.out 2).trans rfl, ((HB.out.cell (World.block_lt_of_cell? w _ hw412_0)).trans hw412_0), ((HB.out.cell (World.block_lt_of_cell? w _ hw413_0)).trans hw413_0)⟩ (fun hHeld => ?_); refine with_tabW laganref04_meets.tab10 laganref04_meets.bits10 (fun HT_ HW_ => ?_)
               generalize wr.drew = w25 at HO_5 BK406 HB HR412_0 hx412_0 hx413_0 hHeld ⊢
               refine pure_ (i := 0) (N := some 35) (v := ?_) (a' := ?_) #[true, false, false, false, false, false, false, false, false, false, false] rfl rfl (any_of HT_.out (by kernel_rfl)) (fun _ _ _ h => h) (Or.inl ⟨by rfl, ?_⟩) ?_ ?_
               rotate_left
               ·
                intro w'
                go_simp
                with_reducible rfl
               rotate_left
               ·
                simp only [Act.put, List.setIfInBounds_toArray, List.set_cons_zero, List.set_cons_succ, i64_w, i32_w]
                rfl
               refine pure_ (i := 2) (N := some 37) (v := ?_) (a' := ?_) #[true, false, true, false, false, false, false, false, false, false, false] rfl rfl (any_of HT_.out (by kernel_rfl)) (fun _ _ _ h => h) (Or.inl ⟨by rfl, ?_⟩) ?_ ?_
               rotate_left
               ·
                intro w'
                go_simp
                with_reducible rfl
               rotate_left
               ·
                simp only [Act.put, List.setIfInBounds_toArray, List.set_cons_zero, List.set_cons_succ, i64_w, i32_w]
                rfl
               refine pure_ (i := 5) (N := some 40) (v := ?_) (a' := ?_) #[true, false, true, false, false, true, false, false, false, false, false] rfl rfl (any_of HT_.out (by kernel_rfl)) (fun _ _ _ h => h) (Or.inl ⟨by rfl, ?_⟩) ?_ ?_
               rotate_left
               ·
                intro w'
                go_simp
                with_reducible rfl
               rotate_left
               ·
                simp only [Act.put, List.setIfInBounds_toArray, List.set_cons_zero, List.set_cons_succ, i64_w, i32_w]
                rfl
               refine pure_ (i := 6) (N := some 41) (v := ?_) (a' := ?_) #[true, false, true, false, false, true, true, false, false, false, false] rfl rfl (any_of HT_.out (by kernel_rfl)) (fun _ _ _ h => h) (Or.inl ⟨by rfl, ?_⟩) ?_ ?_
               rotate_left
               ·
                intro w'
                go_simp
                with_reducible rfl
               rotate_left
               ·
                simp only [Act.put, List.setIfInBounds_toArray, List.set_cons_zero, List.set_cons_succ, i64_w, i32_w]
                rfl
               refine pure_ (i := 7) (N := some 42) (v := ?_) (a' := ?_) #[true, false, true, false, false, true, true, true, false, false, false] rfl rfl (any_of HT_.out (by kernel_rfl)) (fun _ _ _ h => h) (Or.inl ⟨by rfl, ?_⟩) ?_ ?_
               rotate_left
               ·
                intro w'
                go_simp
                with_reducible rfl
               rotate_left
               ·
                simp only [Act.put, List.setIfInBounds_toArray, List.set_cons_zero, List.set_cons_succ, i64_w, i32_w]
                rfl
               refine take_ (i := 1) (N := some 36) (v := ?_) (a' := ?_) #[true, true, true, false, false, true, true, true, false, false, false] rfl rfl (take_ofW HT_.out HW_.out (by kernel_rfl)) (fun _ _ _ h => h) (Or.inl ⟨by rfl, ?_⟩) hHeld ?_ ?_
               rotate_left
               ·
                rintro w' ⟨s0, s1, s2, s3, s4⟩
                go_simp
                with_reducible rfl
               rotate_left
               ·
                simp only [Act.put, List.setIfInBounds_toArray, List.set_cons_zero, List.set_cons_succ, i64_w, i32_w]
                rfl
               refine pure_ (i := 3) (N := some 38) (v := ?_) (a' := ?_) #[true, true, true, true, false, true, true, true, false, false, false] rfl rfl (any_of HT_.out (by kernel_rfl)) (fun _ _ _ h => h) (Or.inl ⟨by rfl, ?_⟩) ?_ ?_
               rotate_left
               ·
                intro w'
                go_simp
                with_reducible rfl
               rotate_left
               ·
                simp only [Act.put, List.setIfInBounds_toArray, List.set_cons_zero, List.set_cons_succ, i64_w, i32_w]
                rfl
               refine take_ (i := 4) (N := some 39) (v := ?_) (a' := ?_) #[true, true, true, true, true, true, true, true, false, false, false] rfl rfl (take_ofW HT_.out HW_.out (by kernel_rfl)) (fun _ _ _ h => h) (Or.inl ⟨by rfl, ?_⟩) hHeld ?_ ?_
               rotate_left
               ·
                rintro w' ⟨s0, s1, s2, s3, s4⟩
                go_simp
                with_reducible rfl
               rotate_left
               ·
                simp only [Act.put, List.setIfInBounds_toArray, List.set_cons_zero, List.set_cons_succ, i64_w, i32_w]
                rfl
               refine take_ (i := 8) (N := some 43) (v := ?_) (a' := ?_) #[true, true, true, true, true, true, true, true, true, false, false] rfl rfl (take_ofW HT_.out HW_.out (by kernel_rfl)) (fun _ _ _ h => h) (Or.inl ⟨by rfl, ?_⟩) hHeld ?_ ?_
               rotate_left
               ·
                rintro w' ⟨s0, s1, s2, s3, s4⟩
                go_simp
                with_reducible rfl
               rotate_left
               ·
                simp only [Act.put, List.setIfInBounds_toArray, List.set_cons_zero, List.set_cons_succ, i64_w, i32_w]
                rfl
               refine one_ (i := 9) (N := some 44) #[true, true, true, true, true, true, true, true, true, true, false] rfl rfl (one_of HT_.out (by kernel_rfl)) (by decide) (fun K hK => ?_)
               refine goes_ Try.func33 (by kernel_rfl) rfl #[.slice A412_0 (rd_L1 l0_2 x6_1).length c412_0, .int .i64 (rd l1 x6_1)] (by rfl) rfl rfl (by (try simp only [List.map_toArray, List.map_cons, List.map_nil]); first | done | rfl | (simp only [List.length_drop, List.length_take]; rfl)) ?_
               with_reducible refine (laganref04_Has.calls k1 _ _ (rd_L1 l0_2 x6_1) (rd l1 x6_1) true _ ?side1 ?side2 A17.out).mono ?_
               (case side1 => repeat (first | exact (Kd.C_below HR412_0.out HB.out) | (with_reducible refine Kd.C_alloc ?_ _) | (with_reducible refine Kd.C_drewN ?_ _) | (with_reducible refine Kd.C_drew ?_)))
               (case side2 => exact HC412_0.out)
               rintro e w' ⟨rfl, ⟨nd, rfl⟩⟩
               refine ⟨_, rfl, ?_⟩
               refine hK.out _ _ ⟨(blk_cell BK406.out 0).trans rfl, (blk_cell BK406.out 1).trans rfl, (blk_cell BK406.out 2).trans rfl, ((HB.out.cell (World.block_lt_of_cell? w _ hw412_0)).trans hw412_0), ((HB.out.cell (World.block_lt_of_cell? w _ hw413_0)).trans hw413_0)⟩ (fun hHeld => ?_)
               clear hK K
               refine norm_ (a' := ?_) ?_ ?_
               rotate_left
               ·
                show Act.put _ (some 44) _ = _
                simp only [Act.put, List.setIfInBounds_toArray, List.set_cons_zero, List.set_cons_succ, i64_w, i32_w]
                rfl
               refine pure_ (i := 10) (N := some 45) (v := ?_) (a' := ?_) #[true, true, true, true, true, true, true, true, true, true, true] rfl rfl (any_of HT_.out (by kernel_rfl)) (fun _ _ _ h => h) (Or.inl ⟨by rfl, ?_⟩) ?_ ?_
               rotate_left
               ·
                intro w'
                go_simp
                with_reducible rfl
               rotate_left
               ·
                simp only [Act.put, List.setIfInBounds_toArray, List.set_cons_zero, List.set_cons_succ, i64_w, i32_w]
                rfl
               refine done_ (done_of HT_.out (by kernel_rfl)) ?_
               try go_wp2
               (try (rw [drewN_self w25]; generalize hq_ : World.drewN w25 _ = w25; have n0_ : Aside0 (Kd.R (Kd.int .i64) 3 w25 w.heap.size (fun _ => True) v408 x5_1) := ⟨by rw [← hq_]; exact (by (with_reducible repeat (first | apply Kd.R_alloc | apply Kd.R_drewN | apply Kd.R_drew)); exact HO_5.out)⟩; have n1_ : Aside0 (w25.heap[gb406]? = some (.cells #[.slice A0_0 l0_0.length c0_0, .slice A0_1 l0_1.length c0_1, .slice (some ad410) l0_2.length c0_2] 26 (0, 0))) := ⟨by rw [← hq_]; exact (by (with_reducible repeat (first | refine blk_drewN ?_ _ | refine blk_drew ?_ | refine blk_alloc ?_ _)); exact BK406.out)⟩; have n2_ : Aside0 (Below w.heap.size w w25) := ⟨by rw [← hq_]; exact (by repeat (first | (with_reducible first | exact HB.out | apply below_alloc | apply pw_below_drewN | apply below_drew1 | refine below_set ?_ GE406.out) | exact HB.out))⟩; clear HO_5 BK406 HB hq_; have HO_5 := n0_; have BK406 := n1_; have HB := n2_; clear n0_ n1_ n2_))
               have n0_ := Aside0.mk (Kd.R_drew HO_5.out)
               have n1_ := Aside0.mk (blk_drew BK406.out)
               have n2_ := Aside0.mk (below_drew1 HB.out)
               clear HO_5
               clear BK406
               clear HB
               have HO_5 := n0_
               have BK406 := n1_
               have HB := n2_
               clear n0_ n1_ n2_
               have p415 : 0 ≤ (x6_1 : Int) := of_decide_eq_true (by first | (with_reducible assumption) | assumption)
               have q415 : x6_1 < (l1.length : Int) := of_decide_eq_true (by first | (with_reducible assumption) | assumption)
               obtain ⟨ad415, e415, hx415_0⟩ := Kd.at_int HR1.out x6_1 p415 q415
               have hw415_0 := hx415_0
               obtain rfl : ad413 = ad415 := (by injection e415)
               replace hx415_0 := (HB.out.cell (World.block_lt_of_cell? w _ hx415_0)).trans hx415_0
               replace p415 := eq_true p415
               replace q415 := eq_true q415
               have p416 : 0 ≤ (x6_1 : Int) := of_decide_eq_true (by first | (with_reducible assumption) | assumption)
               have q416 : x6_1 < (l1.length : Int) := of_decide_eq_true (by first | (with_reducible assumption) | assumption)
               obtain ⟨ad416, e416, hx416_0⟩ := Kd.at_int HR1.out x6_1 p416 q416
               have hw416_0 := hx416_0
               obtain rfl : ad413 = ad416 := (by injection e416)
               replace hx416_0 := (HB.out.cell (World.block_lt_of_cell? w _ hx416_0)).trans hx416_0
               replace p416 := eq_true p416
               replace q416 := eq_true q416
               obtain ⟨Ao27, co27, eo27⟩ := Kd.R_slice HO_5.out
               (first | subst eo27 | (injection eo27 with f1_ f2_ f3_; have f4_ := f1_.symm; have f5_ := f3_.symm; clear f1_ f2_ f3_; subst f4_; subst f5_))
               have p417 : 0 ≤ ((rd l1 x6_1) : Int) := of_decide_eq_true (by first | (with_reducible assumption) | assumption)
               have q417 : (rd l1 x6_1) < (x5_1.length : Int) := of_decide_eq_true (by first | (with_reducible assumption) | assumption)
               obtain ⟨ad417, e417, hx417_0⟩ := Kd.at_int (Kd.R_reads' HO_5.out).2.2 (rd l1 x6_1) p417 q417
               cases e417
               replace p417 := eq_true p417
               replace q417 := eq_true q417
               have p21 : 0 ≤ ((rd l1 x6_1) : Int) := of_decide_eq_true (by first | (with_reducible assumption) | assumption)
               have q21 : ((rd l1 x6_1) : Int) < ((x5_1.length : Int) : Int) := of_decide_eq_true (by first | (with_reducible assumption) | assumption)
               obtain ⟨go21, co21, eo21, gb21, gl21, cl21, HG21⟩ := Kd.R_form HO_5.out (by omega)
               (first | cases eo21 | (injection eo21 with ea_ en_ ec_; (first | subst ea_ | (injection ea_ with ea_; subst ea_)); subst ec_; clear en_))
               have GB21 := Aside0.mk gb21
               have GG21 := Aside0.mk HG21
               clear gb21 gl21 HG21
               (first | simp only [add_plain] at hx417_0 | skip)
               obtain ⟨hx21_0, hf21_0⟩ := Kd.R_celln 0 HO_5.out ((rd l1 x6_1) : Int) p21 q21
               replace p21 := eq_true p21
               replace q21 := eq_true q21
               have HP28 := Kd.R_putn HO_5.out ((rd l1 x6_1) : Int) (wrap64 ((rd x5_1 (rd l1 x6_1)) + 1))
               rw [← Ny418.out] at HP28
               have HQ28 := Aside0.mk HP28
               clear HP28
               refine start_ (n := 15) (S := fun w' => w'.cell? (ad413.add (x6_1).toNat) = some (.int .i64 (rd l1 x6_1)) ∧ w'.cell? (ad413.add (x6_1).toNat) = some (.int .i64 (rd l1 x6_1)) ∧ w'.cell? ⟨go21, ((rd l1 x6_1)).toNat, none⟩ = some (.int .i64 (rd x5_1 (rd l1 x6_1)))) (ds := [14]) #[false, false, false, false, false, false, false, false, false, false, false, false, false, false, false] (by kernel_rfl) rfl rfl ⟨((HB.out.cell (World.block_lt_of_cell? w _ hw415_0)).trans hw415_0), ((HB.out.cell (World.block_lt_of_cell? w _ hw416_0)).trans hw416_0), hx417_0⟩ (fun hHeld => ?_); refine with_tabW laganref04_meets.tab12 laganref04_meets.bits12 (fun HT_ HW_ => ?_)
               generalize w25.drew = w26 at HO_5 BK406 HB GG21 HQ28 hf21_0 hx21_0 hx415_0 hx416_0 hx417_0 hHeld ⊢
               refine pure_ (i := 0) (N := some 46) (v := ?_) (a' := ?_) #[true, false, false, false, false, false, false, false, false, false, false, false, false, false, false] rfl rfl (any_of HT_.out (by kernel_rfl)) (fun _ _ _ h => h) (Or.inl ⟨by rfl, ?_⟩) ?_ ?_
               rotate_left
               ·
                intro w'
                go_simp
                with_reducible rfl
               rotate_left
               ·
                simp only [Act.put, List.setIfInBounds_toArray, List.set_cons_zero, List.set_cons_succ, i64_w, i32_w]
                rfl
               refine pure_ (i := 1) (N := some 47) (v := ?_) (a' := ?_) #[true, true, false, false, false, false, false, false, false, false, false, false, false, false, false] rfl rfl (any_of HT_.out (by kernel_rfl)) (fun _ _ _ h => h) (Or.inl ⟨by rfl, ?_⟩) ?_ ?_
               rotate_left
               ·
                intro w'
                go_simp
                with_reducible rfl
               rotate_left
               ·
                simp only [Act.put, List.setIfInBounds_toArray, List.set_cons_zero, List.set_cons_succ, i64_w, i32_w]
                rfl
               refine pure_ (i := 2) (N := some 48) (v := ?_) (a' := ?_) #[true, true, true, false, false, false, false, false, false, false, false, false, false, false, false] rfl rfl (any_of HT_.out (by kernel_rfl)) (fun _ _ _ h => h) (Or.inl ⟨by rfl, ?_⟩) ?_ ?_
               rotate_left
               ·
                intro w'
                go_simp
                with_reducible rfl
               rotate_left
               ·
                simp only [Act.put, List.setIfInBounds_toArray, List.set_cons_zero, List.set_cons_succ, i64_w, i32_w]
                rfl
               refine pure_ (i := 3) (N := some 49) (v := ?_) (a' := ?_) #[true, true, true, true, false, false, false, false, false, false, false, false, false, false, false] rfl rfl (any_of HT_.out (by kernel_rfl)) (fun _ _ _ h => h) (Or.inl ⟨by rfl, ?_⟩) ?_ ?_
               rotate_left
               ·
                intro w'
                go_simp
                with_reducible rfl
               rotate_left
               ·
                simp only [Act.put, List.setIfInBounds_toArray, List.set_cons_zero, List.set_cons_succ, i64_w, i32_w]
                rfl
               refine pure_ (i := 5) (N := some 51) (v := ?_) (a' := ?_) #[true, true, true, true, false, true, false, false, false, false, false, false, false, false, false] rfl rfl (any_of HT_.out (by kernel_rfl)) (fun _ _ _ h => h) (Or.inl ⟨by rfl, ?_⟩) ?_ ?_
               rotate_left
               ·
                intro w'
                go_simp
                with_reducible rfl
               rotate_left
               ·
                simp only [Act.put, List.setIfInBounds_toArray, List.set_cons_zero, List.set_cons_succ, i64_w, i32_w]
                rfl
               refine pure_ (i := 6) (N := some 52) (v := ?_) (a' := ?_) #[true, true, true, true, false, true, true, false, false, false, false, false, false, false, false] rfl rfl (any_of HT_.out (by kernel_rfl)) (fun _ _ _ h => h) (Or.inl ⟨by rfl, ?_⟩) ?_ ?_
               rotate_left
               ·
                intro w'
                go_simp
                with_reducible rfl
               rotate_left
               ·
                simp only [Act.put, List.setIfInBounds_toArray, List.set_cons_zero, List.set_cons_succ, i64_w, i32_w]
                rfl
               refine pure_ (i := 7) (N := some 53) (v := ?_) (a' := ?_) #[true, true, true, true, false, true, true, true, false, false, false, false, false, false, false] rfl rfl (any_of HT_.out (by kernel_rfl)) (fun _ _ _ h => h) (Or.inl ⟨by rfl, ?_⟩) ?_ ?_
               rotate_left
               ·
                intro w'
                go_simp
                with_reducible rfl
               rotate_left
               ·
                simp only [Act.put, List.setIfInBounds_toArray, List.set_cons_zero, List.set_cons_succ, i64_w, i32_w]
                rfl
               refine pure_ (i := 8) (N := some 54) (v := ?_) (a' := ?_) #[true, true, true, true, false, true, true, true, true, false, false, false, false, false, false] rfl rfl (any_of HT_.out (by kernel_rfl)) (fun _ _ _ h => h) (Or.inl ⟨by rfl, ?_⟩) ?_ ?_
               rotate_left
               ·
                intro w'
                go_simp
                with_reducible rfl
               rotate_left
               ·
                simp only [Act.put, List.setIfInBounds_toArray, List.set_cons_zero, List.set_cons_succ, i64_w, i32_w]
                rfl
               refine take_ (i := 4) (N := some 50) (v := ?_) (a' := ?_) #[true, true, true, true, true, true, true, true, true, false, false, false, false, false, false] rfl rfl (take_ofW HT_.out HW_.out (by kernel_rfl)) (fun _ _ _ h => h) (Or.inl ⟨by rfl, ?_⟩) hHeld ?_ ?_
               rotate_left
               ·
                rintro w' ⟨s0, s1, s2⟩
                go_simp
                with_reducible rfl
               rotate_left
               ·
                simp only [Act.put, List.setIfInBounds_toArray, List.set_cons_zero, List.set_cons_succ, i64_w, i32_w]
                rfl
               refine take_ (i := 9) (N := some 55) (v := ?_) (a' := ?_) #[true, true, true, true, true, true, true, true, true, true, false, false, false, false, false] rfl rfl (take_ofW HT_.out HW_.out (by kernel_rfl)) (fun _ _ _ h => h) (Or.inl ⟨by rfl, ?_⟩) hHeld ?_ ?_
               rotate_left
               ·
                rintro w' ⟨s0, s1, s2⟩
                go_simp
                with_reducible rfl
               rotate_left
               ·
                simp only [Act.put, List.setIfInBounds_toArray, List.set_cons_zero, List.set_cons_succ, i64_w, i32_w]
                rfl
               refine pure_ (i := 10) (N := some 56) (v := ?_) (a' := ?_) #[true, true, true, true, true, true, true, true, true, true, true, false, false, false, false] rfl rfl (any_of HT_.out (by kernel_rfl)) (fun _ _ _ h => h) (Or.inl ⟨by rfl, ?_⟩) ?_ ?_
               rotate_left
               ·
                intro w'
                go_simp
                with_reducible rfl
               rotate_left
               ·
                simp only [Act.put, List.setIfInBounds_toArray, List.set_cons_zero, List.set_cons_succ, i64_w, i32_w]
                rfl
               refine take_ (i := 11) (N := some 57) (v := ?_) (a' := ?_) #[true, true, true, true, true, true, true, true, true, true, true, true, false, false, false] rfl rfl (take_ofW HT_.out HW_.out (by kernel_rfl)) (fun _ _ _ h => h) (Or.inl ⟨by rfl, ?_⟩) hHeld ?_ ?_
               rotate_left
               ·
                rintro w' ⟨s0, s1, s2⟩
                go_simp
                with_reducible rfl
               rotate_left
               ·
                simp only [Act.put, List.setIfInBounds_toArray, List.set_cons_zero, List.set_cons_succ, i64_w, i32_w]
                rfl
               refine pure_ (i := 12) (N := some 58) (v := ?_) (a' := ?_) #[true, true, true, true, true, true, true, true, true, true, true, true, true, false, false] rfl rfl (any_of HT_.out (by kernel_rfl)) (fun _ _ _ h => h) (Or.inl ⟨by rfl, ?_⟩) ?_ ?_
               rotate_left
               ·
                intro w'
                go_simp
                with_reducible rfl
               rotate_left
               ·
                simp only [Act.put, List.setIfInBounds_toArray, List.set_cons_zero, List.set_cons_succ, i64_w, i32_w]
                rfl
               refine pure_ (i := 13) (N := some 59) (v := ?_) (a' := ?_) #[true, true, true, true, true, true, true, true, true, true, true, true, true, true, false] rfl rfl (any_of HT_.out (by kernel_rfl)) (fun _ _ _ h => h) (Or.inl ⟨by rfl, ?_⟩) ?_ ?_
               rotate_left
               ·
                intro w'
                go_simp
                with_reducible rfl
               rotate_left
               ·
                simp only [Act.put, List.setIfInBounds_toArray, List.set_cons_zero, List.set_cons_succ, i64_w, i32_w]
                rfl
               refine last_ (i := 14) (N := none) #[true, true, true, true, true, true, true, true, true, true, true, true, true, true, true] rfl rfl (one_of HT_.out (by kernel_rfl)) (by decide) (fun K hK => ?_)
               refine skip_ (w1 := ?_) (by rfl) rfl ?_ ?_
               rotate_left
               ·
                go_simp
                rfl
               refine hK.out _ _ ?_
               clear hK K
               refine done_ (done_of HT_.out (by kernel_rfl)) ?_
               try go_wp2
               have n0_ : Aside0 (Kd.R (Kd.int .i64) 3 (w26.setCell ⟨go21, ((rd l1 x6_1) : Int).toNat, none⟩ (.int .i64 (wrap64 ((rd x5_1 (rd l1 x6_1)) + 1)))) w.heap.size (fun _ => True) (.slice (some ⟨go21, 0, none⟩) x5_1.length co27) y418) := ⟨by (with_reducible repeat (first | apply Kd.R_alloc | apply Kd.R_drewN | apply Kd.R_drew)); exact HQ28.out⟩
               have n1_ : Aside0 ((w26.setCell ⟨go21, ((rd l1 x6_1) : Int).toNat, none⟩ (.int .i64 (wrap64 ((rd x5_1 (rd l1 x6_1)) + 1)))).heap[gb406]? = some (.cells #[.slice A0_0 l0_0.length c0_0, .slice A0_1 l0_1.length c0_1, .slice (some ad410) l0_2.length c0_2] 26 (0, 0))) := ⟨by (with_reducible repeat (first | refine blk_drewN ?_ _ | refine blk_drew ?_ | refine blk_alloc ?_ _)); refine blk_far ?_ (by have h_ := Kd.R_ne HO_5.out BK406.out (by decide); intro e_; exact h_ (by rw [e_]; rfl)) _; (with_reducible repeat (first | refine blk_drewN ?_ _ | refine blk_drew ?_ | refine blk_alloc ?_ _)); exact BK406.out⟩
               have n2_ : Aside0 (Below w.heap.size w (w26.setCell ⟨go21, ((rd l1 x6_1) : Int).toNat, none⟩ (.int .i64 (wrap64 ((rd x5_1 (rd l1 x6_1)) + 1))))) := ⟨by repeat (first | (with_reducible first | exact HB.out | apply below_alloc | apply pw_below_drewN | apply below_drew1 | refine below_set ?_ GB21.out | refine below_set ?_ GE406.out) | exact HB.out)⟩
               (try clear HO_5)
               (try clear BK406)
               (try clear HB)
               generalize (w26.setCell ⟨go21, ((rd l1 x6_1) : Int).toNat, none⟩ (.int .i64 (wrap64 ((rd x5_1 (rd l1 x6_1)) + 1)))) = w29 at n0_ n1_ n2_ ⊢
               have HO_5 := n0_
               have BK406 := n1_
               have HB := n2_
               clear n0_ n1_ n2_
               have n0_ := Aside0.mk (Kd.R_drew HO_5.out)
               have n1_ := Aside0.mk (blk_drew BK406.out)
               have n2_ := Aside0.mk (below_drew1 HB.out)
               clear HO_5
               clear BK406
               clear HB
               have HO_5 := n0_
               have BK406 := n1_
               have HB := n2_
               clear n0_ n1_ n2_
               have p419 : 0 ≤ (x6_1 : Int) := of_decide_eq_true (by first | (with_reducible assumption) | assumption)
               have q419 : x6_1 < (l1.length : Int) := of_decide_eq_true (by first | (with_reducible assumption) | assumption)
               obtain ⟨ad419, e419, hx419_0⟩ := Kd.at_int HR1.out x6_1 p419 q419
               have hw419_0 := hx419_0
               obtain rfl : ad413 = ad419 := (by injection e419)
               replace hx419_0 := (HB.out.cell (World.block_lt_of_cell? w _ hx419_0)).trans hx419_0
               replace p419 := eq_true p419
               replace q419 := eq_true q419
               have p420 : 0 ≤ ((rd l1 x6_1) : Int) := of_decide_eq_true (by first | (with_reducible assumption) | assumption)
               have q420 : (rd l1 x6_1) < (y418.length : Int) := (by have h_ : ((rd l1 x6_1) : Int) < ((x5_1.length : Int) : Int) := of_decide_eq_true (by first | (with_reducible assumption) | assumption); first | (have e_ := (Kd.R_reads' HO_5.out).1; omega) | simpa only [Ny418.out, List.length_set] using h_)
               have ql420 : (((rd l1 x6_1) : Int) < ((x5_1.length : Int) : Int)) = True := eq_true (of_decide_eq_true (by first | (with_reducible assumption) | assumption))
               obtain ⟨ad420, e420, hx420_0⟩ := Kd.at_int (Kd.R_reads' HO_5.out).2.2 (rd l1 x6_1) p420 q420
               obtain rfl : (⟨go21, 0, none⟩ : Addr) = ad420 := (by injection e420)
               (first | simp only [add_plain] at hx420_0 | simp only [add_at] at hx420_0 | simp only [Addr.add, Nat.zero_add] at hx420_0 | skip)
               replace p420 := eq_true p420
               replace q420 := eq_true q420
               have p421 : 0 ≤ (x6_1 : Int) := of_decide_eq_true (by first | (with_reducible assumption) | assumption)
               have q421 : x6_1 < (l1.length : Int) := of_decide_eq_true (by first | (with_reducible assumption) | assumption)
               obtain ⟨ad421, e421, hx421_0⟩ := Kd.at_int HR1.out x6_1 p421 q421
               have hw421_0 := hx421_0
               obtain rfl : ad413 = ad421 := (by injection e421)
               replace hx421_0 := (HB.out.cell (World.block_lt_of_cell? w _ hx421_0)).trans hx421_0
               replace p421 := eq_true p421
               replace q421 := eq_true q421
               have p422 : 0 ≤ ((rd l1 x6_1) : Int) := of_decide_eq_true (by first | (with_reducible assumption) | assumption)
               have q422 : (rd l1 x6_1) < (l0_1.length : Int) := of_decide_eq_true (by first | (with_reducible assumption) | assumption)
               obtain ⟨ad422, e422, hx422_0, hx422_1, hx422_2⟩ := at_T50 HR0_1.out (rd l1 x6_1) p422 q422
               have hw422_2 := hx422_2
               have hw422_1 := hx422_1
               have hw422_0 := hx422_0
               cases e422
               replace hx422_0 := (HB.out.cell (World.block_lt_of_cell? w _ hx422_0)).trans hx422_0
               replace hx422_1 := (HB.out.cell (World.block_lt_of_cell? w _ hx422_1)).trans hx422_1
               replace hx422_2 := (HB.out.cell (World.block_lt_of_cell? w _ hx422_2)).trans hx422_2
               replace p422 := eq_true p422
               replace q422 := eq_true q422
               refine start_ (n := 17) (S := fun w' => w'.cell? ⟨gb406, 0, none⟩ = some (.slice A0_0 l0_0.length c0_0) ∧ w'.cell? ⟨gb406, 1, none⟩ = some (.slice (some ad422) l0_1.length c0_1) ∧ w'.cell? ⟨gb406, 2, none⟩ = some (.slice (some ad410) l0_2.length c0_2) ∧ w'.cell? (ad413.add (x6_1).toNat) = some (.int .i64 (rd l1 x6_1)) ∧ w'.cell? ⟨go21, ((rd l1 x6_1)).toNat, none⟩ = some (.int .i64 (rd y418 (rd l1 x6_1))) ∧ w'.cell? (ad413.add (x6_1).toNat) = some (.int .i64 (rd l1 x6_1)) ∧ w'.cell? (ad422.add (((rd l1 x6_1)).toNat * 3)) = some (.int .i64 ((rd_T50 l0_1 (rd l1 x6_1)).f0)) ∧ w'.cell? ⟨(ad422.add (((rd l1 x6_1)).toNat * 3)).block, (ad422.add (((rd l1 x6_1)).toNat * 3)).off + 1, none⟩ = some (.int .i64 ((rd_T50 l0_1 (rd l1 x6_1)).f1)) ∧ w'.cell? ⟨(ad422.add (((rd l1 x6_1)).toNat * 3)).block, (ad422.add (((rd l1 x6_1)).toNat * 3)).off + 2, none⟩ = some (.int .i64 ((rd_T50 l0_1 (rd l1 x6_1)).f2))) (ds := []) #[false, false, false, false, false, false, false, false, false, false, false, false, false, false, false, false, false] (by kernel_rfl) rfl rfl ⟨(blk_cell BK406.out 0).trans rfl, (blk_cell BK406.out 1).trans rfl, (blk_cell BK406.out 2).trans rfl, ((HB.out.cell (World.block_lt_of_cell? w _ hw419_0)).trans hw419_0), hx420_0, ((HB.out.cell (World.block_lt_of_cell? w _ hw421_0)).trans hw421_0), ((HB.out.cell (World.block_lt_of_cell? w _ hw422_0)).trans hw422_0), ((HB.out.cell (World.block_lt_of_cell? w _ hw422_1)).trans hw422_1), ((HB.out.cell (World.block_lt_of_cell? w _ hw422_2)).trans hw422_2)⟩ (fun hHeld => ?_); refine with_tabW laganref04_meets.tab13 laganref04_meets.bits13 (fun HT_ HW_ => ?_)
               generalize w29.drew = w30 at HO_5 BK406 HB HQ28 hx419_0 hx420_0 hx421_0 hx422_0 hx422_1 hx422_2 hHeld ⊢
               refine pure_ (i := 0) (N := some 60) (v := ?_) (a' := ?_) #[true, false, false, false, false, false, false, false, false, false, false, false, false, false, false, false, false] rfl rfl (any_of HT_.out (by kernel_rfl)) (fun _ _ _ h => h) (Or.inl ⟨by rfl, ?_⟩) ?_ ?_
               rotate_left
               ·
                intro w'
                go_simp
                with_reducible rfl
               rotate_left
               ·
                simp only [Act.put, List.setIfInBounds_toArray, List.set_cons_zero, List.set_cons_succ, i64_w, i32_w]
                rfl
               refine pure_ (i := 1) (N := some 61) (v := ?_) (a' := ?_) #[true, true, false, false, false, false, false, false, false, false, false, false, false, false, false, false, false] rfl rfl (any_of HT_.out (by kernel_rfl)) (fun _ _ _ h => h) (Or.inl ⟨by rfl, ?_⟩) ?_ ?_
               rotate_left
               ·
                intro w'
                go_simp
                with_reducible rfl
               rotate_left
               ·
                simp only [Act.put, List.setIfInBounds_toArray, List.set_cons_zero, List.set_cons_succ, i64_w, i32_w]
                rfl
               refine pure_ (i := 2) (N := some 62) (v := ?_) (a' := ?_) #[true, true, true, false, false, false, false, false, false, false, false, false, false, false, false, false, false] rfl rfl (any_of HT_.out (by kernel_rfl)) (fun _ _ _ h => h) (Or.inl ⟨by rfl, ?_⟩) ?_ ?_
               rotate_left
               ·
                intro w'
                go_simp
                with_reducible rfl
               rotate_left
               ·
                simp only [Act.put, List.setIfInBounds_toArray, List.set_cons_zero, List.set_cons_succ, i64_w, i32_w]
                rfl
               refine pure_ (i := 3) (N := some 63) (v := ?_) (a' := ?_) #[true, true, true, true, false, false, false, false, false, false, false, false, false, false, false, false, false] rfl rfl (any_of HT_.out (by kernel_rfl)) (fun _ _ _ h => h) (Or.inl ⟨by rfl, ?_⟩) ?_ ?_
               rotate_left
               ·
                intro w'
                go_simp
                with_reducible rfl
               rotate_left
               ·
                simp only [Act.put, List.setIfInBounds_toArray, List.set_cons_zero, List.set_cons_succ, i64_w, i32_w]
                rfl
               refine pure_ (i := 7) (N := some 67) (v := ?_) (a' := ?_) #[true, true, true, true, false, false, false, true, false, false, false, false, false, false, false, false, false] rfl rfl (any_of HT_.out (by kernel_rfl)) (fun _ _ _ h => h) (Or.inl ⟨by rfl, ?_⟩) ?_ ?_
               rotate_left
               ·
                intro w'
                go_simp
                with_reducible rfl
               rotate_left
               ·
                simp only [Act.put, List.setIfInBounds_toArray, List.set_cons_zero, List.set_cons_succ, i64_w, i32_w]
                rfl
               refine pure_ (i := 9) (N := some 69) (v := ?_) (a' := ?_) #[true, true, true, true, false, false, false, true, false, true, false, false, false, false, false, false, false] rfl rfl (any_of HT_.out (by kernel_rfl)) (fun _ _ _ h => h) (Or.inl ⟨by rfl, ?_⟩) ?_ ?_
               rotate_left
               ·
                intro w'
                go_simp
                with_reducible rfl
               rotate_left
               ·
                simp only [Act.put, List.setIfInBounds_toArray, List.set_cons_zero, List.set_cons_succ, i64_w, i32_w]
                rfl
               refine pure_ (i := 10) (N := some 70) (v := ?_) (a' := ?_) #[true, true, true, true, false, false, false, true, false, true, true, false, false, false, false, false, false] rfl rfl (any_of HT_.out (by kernel_rfl)) (fun _ _ _ h => h) (Or.inl ⟨by rfl, ?_⟩) ?_ ?_
               rotate_left
               ·
                intro w'
                go_simp
                with_reducible rfl
               rotate_left
               ·
                simp only [Act.put, List.setIfInBounds_toArray, List.set_cons_zero, List.set_cons_succ, i64_w, i32_w]
                rfl
               refine pure_ (i := 11) (N := some 71) (v := ?_) (a' := ?_) #[true, true, true, true, false, false, false, true, false, true, true, true, false, false, false, false, false] rfl rfl (any_of HT_.out (by kernel_rfl)) (fun _ _ _ h => h) (Or.inl ⟨by rfl, ?_⟩) ?_ ?_
               rotate_left
               ·
                intro w'
                go_simp
                with_reducible rfl
               rotate_left
               ·
                simp only [Act.put, List.setIfInBounds_toArray, List.set_cons_zero, List.set_cons_succ, i64_w, i32_w]
                rfl
               refine take_ (i := 4) (N := some 64) (v := ?_) (a' := ?_) #[true, true, true, true, true, false, false, true, false, true, true, true, false, false, false, false, false] rfl rfl (take_ofW HT_.out HW_.out (by kernel_rfl)) (fun _ _ _ h => h) (Or.inl ⟨by rfl, ?_⟩) hHeld ?_ ?_
               rotate_left
               ·
                rintro w' ⟨s0, s1, s2, s3, s4, s5, s6, s7, s8⟩
                go_simp
                with_reducible rfl
               rotate_left
               ·
                simp only [Act.put, List.setIfInBounds_toArray, List.set_cons_zero, List.set_cons_succ, i64_w, i32_w]
                rfl
               refine pure_ (i := 5) (N := some 65) (v := ?_) (a' := ?_) #[true, true, true, true, true, true, false, true, false, true, true, true, false, false, false, false, false] rfl rfl (any_of HT_.out (by kernel_rfl)) (fun _ _ _ h => h) (Or.inl ⟨by rfl, ?_⟩) ?_ ?_
               rotate_left
               ·
                intro w'
                go_simp
                with_reducible rfl
               rotate_left
               ·
                simp only [Act.put, List.setIfInBounds_toArray, List.set_cons_zero, List.set_cons_succ, i64_w, i32_w]
                rfl
               refine take_ (i := 6) (N := some 66) (v := ?_) (a' := ?_) #[true, true, true, true, true, true, true, true, false, true, true, true, false, false, false, false, false] rfl rfl (take_ofW HT_.out HW_.out (by kernel_rfl)) (fun _ _ _ h => h) (Or.inl ⟨by rfl, ?_⟩) hHeld ?_ ?_
               rotate_left
               ·
                rintro w' ⟨s0, s1, s2, s3, s4, s5, s6, s7, s8⟩
                go_simp
                with_reducible rfl
               rotate_left
               ·
                simp only [Act.put, List.setIfInBounds_toArray, List.set_cons_zero, List.set_cons_succ, i64_w, i32_w]
                rfl
               refine take_ (i := 8) (N := some 68) (v := ?_) (a' := ?_) #[true, true, true, true, true, true, true, true, true, true, true, true, false, false, false, false, false] rfl rfl (take_ofW HT_.out HW_.out (by kernel_rfl)) (fun _ _ _ h => h) (Or.inl ⟨by rfl, ?_⟩) hHeld ?_ ?_
               rotate_left
               ·
                rintro w' ⟨s0, s1, s2, s3, s4, s5, s6, s7, s8⟩
                go_simp
                with_reducible rfl
               rotate_left
               ·
                simp only [Act.put, List.setIfInBounds_toArray, List.set_cons_zero, List.set_cons_succ, i64_w, i32_w]
                rfl
               refine take_ (i := 12) (N := some 72) (v := ?_) (a' := ?_) #[true, true, true, true, true, true, true, true, true, true, true, true, true, false, false, false, false] rfl rfl (take_ofW HT_.out HW_.out (by kernel_rfl)) (fun _ _ _ h => h) (Or.inl ⟨by rfl, ?_⟩) hHeld ?_ ?_
               rotate_left
               ·
                rintro w' ⟨s0, s1, s2, s3, s4, s5, s6, s7, s8⟩
                go_simp
                with_reducible rfl
               rotate_left
               ·
                simp only [Act.put, List.setIfInBounds_toArray, List.set_cons_zero, List.set_cons_succ, i64_w, i32_w]
                rfl
               refine pure_ (i := 13) (N := some 73) (v := ?_) (a' := ?_) #[true, true, true, true, true, true, true, true, true, true, true, true, true, true, false, false, false] rfl rfl (any_of HT_.out (by kernel_rfl)) (fun _ _ _ h => h) (Or.inl ⟨by rfl, ?_⟩) ?_ ?_
               rotate_left
               ·
                intro w'
                go_simp
                with_reducible rfl
               rotate_left
               ·
                simp only [Act.put, List.setIfInBounds_toArray, List.set_cons_zero, List.set_cons_succ, i64_w, i32_w]
                rfl
               refine pure_ (i := 14) (N := some 74) (v := ?_) (a' := ?_) #[true, true, true, true, true, true, true, true, true, true, true, true, true, true, true, false, false] rfl rfl (any_of HT_.out (by kernel_rfl)) (fun _ _ _ h => h) (Or.inl ⟨by rfl, ?_⟩) ?_ ?_
               rotate_left
               ·
                intro w'
                go_simp
                with_reducible rfl
               rotate_left
               ·
                simp only [Act.put, List.setIfInBounds_toArray, List.set_cons_zero, List.set_cons_succ, i64_w, i32_w]
                rfl
               refine take_ (i := 15) (N := some 75) (v := ?_) (a' := ?_) #[true, true, true, true, true, true, true, true, true, true, true, true, true, true, true, true, false] rfl rfl (take_ofW HT_.out HW_.out (by kernel_rfl)) (fun _ _ _ h => h) (Or.inl ⟨by rfl, ?_⟩) hHeld ?_ ?_
               rotate_left
               ·
                rintro w' ⟨s0, s1, s2, s3, s4, s5, s6, s7, s8⟩
                go_simp
                with_reducible rfl
               rotate_left
               ·
                simp only [Act.put, List.setIfInBounds_toArray, List.set_cons_zero, List.set_cons_succ, i64_w, i32_w]
                rfl
               refine pure_ (i := 16) (N := some 76) (v := ?_) (a' := ?_) #[true, true, true, true, true, true, true, true, true, true, true, true, true, true, true, true, true] rfl rfl (any_of HT_.out (by kernel_rfl)) (fun _ _ _ h => h) (Or.inl ⟨by rfl, ?_⟩) ?_ ?_
               rotate_left
               ·
                intro w'
                go_simp
                with_reducible rfl
               rotate_left
               ·
                simp only [Act.put, List.setIfInBounds_toArray, List.set_cons_zero, List.set_cons_succ, i64_w, i32_w]
                rfl
               refine done_ (done_of HT_.out (by kernel_rfl)) ?_
               try go_wp2
               go_ret
               exact ⟨by first | rfl | (simp [errW_none, errW_some] <;> rfl) | (simp [*, errW_none, errW_some] <;> rfl), by repeat (first | (with_reducible first | exact HB.out | apply below_alloc | apply pw_below_drewN | apply below_drew1 | refine below_set ?_ GE406.out) | exact HB.out)⟩
              ·
               rw [if_neg c23] at H
               have c23b0 : decide (((rd_T50 l0_1 (rd l1 x6_1)).f2) < (rd y418 (rd l1 x6_1))) = false := decide_eq_false c23
               clear c23
               have H' := Aside0.mk H
               clear H
               have hcz31_0 : wr.cell? ⟨gb406, 0, none⟩ = some (.slice A0_0 l0_0.length c0_0) := (blk_cell BK406.out 0).trans rfl
               have hcz31_1 : wr.cell? ⟨gb406, 1, none⟩ = some (.slice A0_1 l0_1.length c0_1) := (blk_cell BK406.out 1).trans rfl
               have hcz31_2 : wr.cell? ⟨gb406, 2, none⟩ = some (.slice A0_2 l0_2.length c0_2) := (blk_cell BK406.out 2).trans rfl
               have hfz31_0 := blk_frozen BK406.out 0
               have hfz31_1 := blk_frozen BK406.out 1
               have hfz31_2 := blk_frozen BK406.out 2
               have p410 : 0 ≤ (x6_1 : Int) := of_decide_eq_true (by first | (with_reducible assumption) | assumption)
               have q410 : x6_1 < (l0_2.length : Int) := of_decide_eq_true (by first | (with_reducible assumption) | assumption)
               obtain ⟨ad410, A410_0, c410_0, e410, hx410_0, hl410_0, hi410_0⟩ := at_L1 HR0_2.out x6_1 p410 q410
               cases e410
               replace hx410_0 := (HB.out.cell (World.block_lt_of_cell? w _ hx410_0)).trans hx410_0
               have HR410_0 := Aside0.mk hi410_0
               have HC410_0 := Aside0.mk hl410_0
               clear hi410_0 hl410_0
               replace p410 := eq_true p410
               replace q410 := eq_true q410
               try go_wp2
               have n0_ := Aside0.mk (Kd.R_drew HO_5.out)
               have n1_ := Aside0.mk (blk_drew BK406.out)
               have n2_ := Aside0.mk (below_drew1 HB.out)
               clear HO_5
               clear BK406
               clear HB
               have HO_5 := n0_
               have BK406 := n1_
               have HB := n2_
               clear n0_ n1_ n2_
               have p412 : 0 ≤ (x6_1 : Int) := of_decide_eq_true (by first | (with_reducible assumption) | assumption)
               have q412 : x6_1 < (l0_2.length : Int) := of_decide_eq_true (by first | (with_reducible assumption) | assumption)
               obtain ⟨ad412, A412_0, c412_0, e412, hx412_0, hl412_0, hi412_0⟩ := at_L1 HR0_2.out x6_1 p412 q412
               have hw412_0 := hx412_0
               obtain rfl : ad410 = ad412 := (by injection e412)
               replace hx412_0 := (HB.out.cell (World.block_lt_of_cell? w _ hx412_0)).trans hx412_0
               have HR412_0 := Aside0.mk hi412_0
               have HC412_0 := Aside0.mk hl412_0
               clear hi412_0 hl412_0
               replace p412 := eq_true p412
               replace q412 := eq_true q412
               have p413 : 0 ≤ (x6_1 : Int) := of_decide_eq_true (by first | (with_reducible assumption) | assumption)
               have q413 : x6_1 < (l1.length : Int) := of_decide_eq_true (by first | (with_reducible assumption) | assumption)
               obtain ⟨ad413, e413, hx413_0⟩ := Kd.at_int HR1.out x6_1 p413 q413
               have hw413_0 := hx413_0
               cases e413
               replace hx413_0 := (HB.out.cell (World.block_lt_of_cell? w _ hx413_0)).trans hx413_0
               replace p413 := eq_true p413
               replace q413 := eq_true q413
               refine start_ (n := 11) (S := fun w' => w'.cell? ⟨gb406, 0, none⟩ = some (.slice A0_0 l0_0.length c0_0) ∧ w'.cell? ⟨gb406, 1, none⟩ = some (.slice A0_1 l0_1.length c0_1) ∧ w'.cell? ⟨gb406, 2, none⟩ = some (.slice (some ad410) l0_2.length c0_2) ∧ w'.cell? (ad410.add (x6_1).toNat) = some (.slice A412_0 (rd_L1 l0_2 x6_1).length c412_0) ∧ w'.cell? (ad413.add (x6_1).toNat) = some (.int .i64 (rd l1 x6_1))) (ds := []) #[false, false, false, false, false, false, false, false, false, false, false] (by kernel_rfl) rfl rfl ⟨(blk_cell BK406.out 0).trans rfl, (blk_cell BK406.out 1).trans rfl, (blk_cell BK406.out 2).trans rfl, ((HB.out.cell (World.block_lt_of_cell? w _ hw412_0)).trans hw412_0), ((HB.out.cell (World.block_lt_of_cell? w _ hw413_0)).trans hw413_0)⟩ (fun hHeld => ?_); refine with_tabW laganref04_meets.tab10 laganref04_meets.bits10 (fun HT_ HW_ => ?_)
               generalize wr.drew = w32 at HO_5 BK406 HB HR412_0 hx412_0 hx413_0 hHeld ⊢
               refine pure_ (i := 0) (N := some 35) (v := ?_) (a' := ?_) #[true, false, false, false, false, false, false, false, false, false, false] rfl rfl (any_of HT_.out (by kernel_rfl)) (fun _ _ _ h => h) (Or.inl ⟨by rfl, ?_⟩) ?_ ?_
               rotate_left
               ·
                intro w'
                go_simp
                with_reducible rfl
               rotate_left
               ·
                simp only [Act.put, List.setIfInBounds_toArray, List.set_cons_zero, List.set_cons_succ, i64_w, i32_w]
                rfl
               refine pure_ (i := 2) (N := some 37) (v := ?_) (a' := ?_) #[true, false, true, false, false, false, false, false, false, false, false] rfl rfl (any_of HT_.out (by kernel_rfl)) (fun _ _ _ h => h) (Or.inl ⟨by rfl, ?_⟩) ?_ ?_
               rotate_left
               ·
                intro w'
                go_simp
                with_reducible rfl
               rotate_left
               ·
                simp only [Act.put, List.setIfInBounds_toArray, List.set_cons_zero, List.set_cons_succ, i64_w, i32_w]
                rfl
               refine pure_ (i := 5) (N := some 40) (v := ?_) (a' := ?_) #[true, false, true, false, false, true, false, false, false, false, false] rfl rfl (any_of HT_.out (by kernel_rfl)) (fun _ _ _ h => h) (Or.inl ⟨by rfl, ?_⟩) ?_ ?_
               rotate_left
               ·
                intro w'
                go_simp
                with_reducible rfl
               rotate_left
               ·
                simp only [Act.put, List.setIfInBounds_toArray, List.set_cons_zero, List.set_cons_succ, i64_w, i32_w]
                rfl
               refine pure_ (i := 6) (N := some 41) (v := ?_) (a' := ?_) #[true, false, true, false, false, true, true, false, false, false, false] rfl rfl (any_of HT_.out (by kernel_rfl)) (fun _ _ _ h => h) (Or.inl ⟨by rfl, ?_⟩) ?_ ?_
               rotate_left
               ·
                intro w'
                go_simp
                with_reducible rfl
               rotate_left
               ·
                simp only [Act.put, List.setIfInBounds_toArray, List.set_cons_zero, List.set_cons_succ, i64_w, i32_w]
                rfl
               refine pure_ (i := 7) (N := some 42) (v := ?_) (a' := ?_) #[true, false, true, false, false, true, true, true, false, false, false] rfl rfl (any_of HT_.out (by kernel_rfl)) (fun _ _ _ h => h) (Or.inl ⟨by rfl, ?_⟩) ?_ ?_
               rotate_left
               ·
                intro w'
                go_simp
                with_reducible rfl
               rotate_left
               ·
                simp only [Act.put, List.setIfInBounds_toArray, List.set_cons_zero, List.set_cons_succ, i64_w, i32_w]
                rfl
               refine take_ (i := 1) (N := some 36) (v := ?_) (a' := ?_) #[true, true, true, false, false, true, true, true, false, false, false] rfl rfl (take_ofW HT_.out HW_.out (by kernel_rfl)) (fun _ _ _ h => h) (Or.inl ⟨by rfl, ?_⟩) hHeld ?_ ?_
               rotate_left
               ·
                rintro w' ⟨s0, s1, s2, s3, s4⟩
                go_simp
                with_reducible rfl
               rotate_left
               ·
                simp only [Act.put, List.setIfInBounds_toArray, List.set_cons_zero, List.set_cons_succ, i64_w, i32_w]
                rfl
               refine pure_ (i := 3) (N := some 38) (v := ?_) (a' := ?_) #[true, true, true, true, false, true, true, true, false, false, false] rfl rfl (any_of HT_.out (by kernel_rfl)) (fun _ _ _ h => h) (Or.inl ⟨by rfl, ?_⟩) ?_ ?_
               rotate_left
               ·
                intro w'
                go_simp
                with_reducible rfl
               rotate_left
               ·
                simp only [Act.put, List.setIfInBounds_toArray, List.set_cons_zero, List.set_cons_succ, i64_w, i32_w]
                rfl
               refine take_ (i := 4) (N := some 39) (v := ?_) (a' := ?_) #[true, true, true, true, true, true, true, true, false, false, false] rfl rfl (take_ofW HT_.out HW_.out (by kernel_rfl)) (fun _ _ _ h => h) (Or.inl ⟨by rfl, ?_⟩) hHeld ?_ ?_
               rotate_left
               ·
                rintro w' ⟨s0, s1, s2, s3, s4⟩
                go_simp
                with_reducible rfl
               rotate_left
               ·
                simp only [Act.put, List.setIfInBounds_toArray, List.set_cons_zero, List.set_cons_succ, i64_w, i32_w]
                rfl
               refine take_ (i := 8) (N := some 43) (v := ?_) (a' := ?_) #[true, true, true, true, true, true, true, true, true, false, false] rfl rfl (take_ofW HT_.out HW_.out (by kernel_rfl)) (fun _ _ _ h => h) (Or.inl ⟨by rfl, ?_⟩) hHeld ?_ ?_
               rotate_left
               ·
                rintro w' ⟨s0, s1, s2, s3, s4⟩
                go_simp
                with_reducible rfl
               rotate_left
               ·
                simp only [Act.put, List.setIfInBounds_toArray, List.set_cons_zero, List.set_cons_succ, i64_w, i32_w]
                rfl
               refine one_ (i := 9) (N := some 44) #[true, true, true, true, true, true, true, true, true, true, false] rfl rfl (one_of HT_.out (by kernel_rfl)) (by decide) (fun K hK => ?_)
               refine goes_ Try.func33 (by kernel_rfl) rfl #[.slice A412_0 (rd_L1 l0_2 x6_1).length c412_0, .int .i64 (rd l1 x6_1)] (by rfl) rfl rfl (by (try simp only [List.map_toArray, List.map_cons, List.map_nil]); first | done | rfl | (simp only [List.length_drop, List.length_take]; rfl)) ?_
               with_reducible refine (laganref04_Has.calls k1 _ _ (rd_L1 l0_2 x6_1) (rd l1 x6_1) true _ ?side1 ?side2 A17.out).mono ?_
               (case side1 => repeat (first | exact (Kd.C_below HR412_0.out HB.out) | (with_reducible refine Kd.C_alloc ?_ _) | (with_reducible refine Kd.C_drewN ?_ _) | (with_reducible refine Kd.C_drew ?_)))
               (case side2 => exact HC412_0.out)
               rintro e w' ⟨rfl, ⟨nd, rfl⟩⟩
               refine ⟨_, rfl, ?_⟩
               refine hK.out _ _ ⟨(blk_cell BK406.out 0).trans rfl, (blk_cell BK406.out 1).trans rfl, (blk_cell BK406.out 2).trans rfl, ((HB.out.cell (World.block_lt_of_cell? w _ hw412_0)).trans hw412_0), ((HB.out.cell (World.block_lt_of_cell? w _ hw413_0)).trans hw413_0)⟩ (fun hHeld => ?_)
               clear hK K
               refine norm_ (a' := ?_) ?_ ?_
               rotate_left
               ·
                show Act.put _ (some 44) _ = _
                simp only [Act.put, List.setIfInBounds_toArray, List.set_cons_zero, List.set_cons_succ, i64_w, i32_w]
                rfl
               refine pure_ (i := 10) (N := some 45) (v := ?_) (a' := ?_) #[true, true, true, true, true, true, true, true, true, true, true] rfl rfl (any_of HT_.out (by kernel_rfl)) (fun _ _ _ h => h) (Or.inl ⟨by rfl, ?_⟩) ?_ ?_
               rotate_left
               ·
                intro w'
                go_simp
                with_reducible rfl
               rotate_left
               ·
                simp only [Act.put, List.setIfInBounds_toArray, List.set_cons_zero, List.set_cons_succ, i64_w, i32_w]
                rfl
               refine done_ (done_of HT_.out (by kernel_rfl)) ?_
               try go_wp2
               (try (rw [drewN_self w32]; generalize hq_ : World.drewN w32 _ = w32; have n0_ : Aside0 (Kd.R (Kd.int .i64) 3 w32 w.heap.size (fun _ => True) v408 x5_1) := ⟨by rw [← hq_]; exact (by (with_reducible repeat (first | apply Kd.R_alloc | apply Kd.R_drewN | apply Kd.R_drew)); exact HO_5.out)⟩; have n1_ : Aside0 (w32.heap[gb406]? = some (.cells #[.slice A0_0 l0_0.length c0_0, .slice A0_1 l0_1.length c0_1, .slice (some ad410) l0_2.length c0_2] 26 (0, 0))) := ⟨by rw [← hq_]; exact (by (with_reducible repeat (first | refine blk_drewN ?_ _ | refine blk_drew ?_ | refine blk_alloc ?_ _)); exact BK406.out)⟩; have n2_ : Aside0 (Below w.heap.size w w32) := ⟨by rw [← hq_]; exact (by repeat (first | (with_reducible first | exact HB.out | apply below_alloc | apply pw_below_drewN | apply below_drew1 | refine below_set ?_ GE406.out) | exact HB.out))⟩; clear HO_5 BK406 HB hq_; have HO_5 := n0_; have BK406 := n1_; have HB := n2_; clear n0_ n1_ n2_))
               have n0_ := Aside0.mk (Kd.R_drew HO_5.out)
               have n1_ := Aside0.mk (blk_drew BK406.out)
               have n2_ := Aside0.mk (below_drew1 HB.out)
               clear HO_5
               clear BK406
               clear HB
               have HO_5 := n0_
               have BK406 := n1_
               have HB := n2_
               clear n0_ n1_ n2_
               have p415 : 0 ≤ (x6_1 : Int) := of_decide_eq_true (by first | (with_reducible assumption) | assumption)
               have q415 : x6_1 < (l1.length : Int) := of_decide_eq_true (by first | (with_reducible assumption) | assumption)
               obtain ⟨ad415, e415, hx415_0⟩ := Kd.at_int HR1.out x6_1 p415 q415
               have hw415_0 := hx415_0
               obtain rfl : ad413 = ad415 := (by injection e415)
               replace hx415_0 := (HB.out.cell (World.block_lt_of_cell? w _ hx415_0)).trans hx415_0
               replace p415 := eq_true p415
               replace q415 := eq_true q415
               have p416 : 0 ≤ (x6_1 : Int) := of_decide_eq_true (by first | (with_reducible assumption) | assumption)
               have q416 : x6_1 < (l1.length : Int) := of_decide_eq_true (by first | (with_reducible assumption) | assumption)
               obtain ⟨ad416, e416, hx416_0⟩ := Kd.at_int HR1.out x6_1 p416 q416
               have hw416_0 := hx416_0
               obtain rfl : ad413 = ad416 := (by injection e416)
               replace hx416_0 := (HB.out.cell (World.block_lt_of_cell? w _ hx416_0)).trans hx416_0
               replace p416 := eq_true p416
               replace q416 := eq_true q416
               obtain ⟨Ao34, co34, eo34⟩ := Kd.R_slice HO_5.out
               (first | subst eo34 | (injection eo34 with f1_ f2_ f3_; have f4_ := f1_.symm; have f5_ := f3_.symm; clear f1_ f2_ f3_; subst f4_; subst f5_))
               have p417 : 0 ≤ ((rd l1 x6_1) : Int) := of_decide_eq_true (by first | (with_reducible assumption) | assumption)
               have q417 : (rd l1 x6_1) < (x5_1.length : Int) := of_decide_eq_true (by first | (with_reducible assumption) | assumption)
               obtain ⟨ad417, e417, hx417_0⟩ := Kd.at_int (Kd.R_reads' HO_5.out).2.2 (rd l1 x6_1) p417 q417
               cases e417
               replace p417 := eq_true p417
               replace q417 := eq_true q417
               have p21 : 0 ≤ ((rd l1 x6_1) : Int) := of_decide_eq_true (by first | (with_reducible assumption) | assumption)
               have q21 : ((rd l1 x6_1) : Int) < ((x5_1.length : Int) : Int) := of_decide_eq_true (by first | (with_reducible assumption) | assumption)
               obtain ⟨go21, co21, eo21, gb21, gl21, cl21, HG21⟩ := Kd.R_form HO_5.out (by omega)
               (first | cases eo21 | (injection eo21 with ea_ en_ ec_; (first | subst ea_ | (injection ea_ with ea_; subst ea_)); subst ec_; clear en_))
               have GB21 := Aside0.mk gb21
               have GG21 := Aside0.mk HG21
               clear gb21 gl21 HG21
               (first | simp only [add_plain] at hx417_0 | skip)
               obtain ⟨hx21_0, hf21_0⟩ := Kd.R_celln 0 HO_5.out ((rd l1 x6_1) : Int) p21 q21
               replace p21 := eq_true p21
               replace q21 := eq_true q21
               have HP35 := Kd.R_putn HO_5.out ((rd l1 x6_1) : Int) (wrap64 ((rd x5_1 (rd l1 x6_1)) + 1))
               rw [← Ny418.out] at HP35
               have HQ35 := Aside0.mk HP35
               clear HP35
               refine start_ (n := 15) (S := fun w' => w'.cell? (ad413.add (x6_1).toNat) = some (.int .i64 (rd l1 x6_1)) ∧ w'.cell? (ad413.add (x6_1).toNat) = some (.int .i64 (rd l1 x6_1)) ∧ w'.cell? ⟨go21, ((rd l1 x6_1)).toNat, none⟩ = some (.int .i64 (rd x5_1 (rd l1 x6_1)))) (ds := [14]) #[false, false, false, false, false, false, false, false, false, false, false, false, false, false, false] (by kernel_rfl) rfl rfl ⟨((HB.out.cell (World.block_lt_of_cell? w _ hw415_0)).trans hw415_0), ((HB.out.cell (World.block_lt_of_cell? w _ hw416_0)).trans hw416_0), hx417_0⟩ (fun hHeld => ?_); refine with_tabW laganref04_meets.tab12 laganref04_meets.bits12 (fun HT_ HW_ => ?_)
               generalize w32.drew = w33 at HO_5 BK406 HB GG21 HQ35 hf21_0 hx21_0 hx415_0 hx416_0 hx417_0 hHeld ⊢
               refine pure_ (i := 0) (N := some 46) (v := ?_) (a' := ?_) #[true, false, false, false, false, false, false, false, false, false, false, false, false, false, false] rfl rfl (any_of HT_.out (by kernel_rfl)) (fun _ _ _ h => h) (Or.inl ⟨by rfl, ?_⟩) ?_ ?_
               rotate_left
               ·
                intro w'
                go_simp
                with_reducible rfl
               rotate_left
               ·
                simp only [Act.put, List.setIfInBounds_toArray, List.set_cons_zero, List.set_cons_succ, i64_w, i32_w]
                rfl
               refine pure_ (i := 1) (N := some 47) (v := ?_) (a' := ?_) #[true, true, false, false, false, false, false, false, false, false, false, false, false, false, false] rfl rfl (any_of HT_.out (by kernel_rfl)) (fun _ _ _ h => h) (Or.inl ⟨by rfl, ?_⟩) ?_ ?_
               rotate_left
               ·
                intro w'
                go_simp
                with_reducible rfl
               rotate_left
               ·
                simp only [Act.put, List.setIfInBounds_toArray, List.set_cons_zero, List.set_cons_succ, i64_w, i32_w]
                rfl
               refine pure_ (i := 2) (N := some 48) (v := ?_) (a' := ?_) #[true, true, true, false, false, false, false, false, false, false, false, false, false, false, false] rfl rfl (any_of HT_.out (by kernel_rfl)) (fun _ _ _ h => h) (Or.inl ⟨by rfl, ?_⟩) ?_ ?_
               rotate_left
               ·
                intro w'
                go_simp
                with_reducible rfl
               rotate_left
               ·
                simp only [Act.put, List.setIfInBounds_toArray, List.set_cons_zero, List.set_cons_succ, i64_w, i32_w]
                rfl
               refine pure_ (i := 3) (N := some 49) (v := ?_) (a' := ?_) #[true, true, true, true, false, false, false, false, false, false, false, false, false, false, false] rfl rfl (any_of HT_.out (by kernel_rfl)) (fun _ _ _ h => h) (Or.inl ⟨by rfl, ?_⟩) ?_ ?_
               rotate_left
               ·
                intro w'
                go_simp
                with_reducible rfl
               rotate_left
               ·
                simp only [Act.put, List.setIfInBounds_toArray, List.set_cons_zero, List.set_cons_succ, i64_w, i32_w]
                rfl
               refine pure_ (i := 5) (N := some 51) (v := ?_) (a' := ?_) #[true, true, true, true, false, true, false, false, false, false, false, false, false, false, false] rfl rfl (any_of HT_.out (by kernel_rfl)) (fun _ _ _ h => h) (Or.inl ⟨by rfl, ?_⟩) ?_ ?_
               rotate_left
               ·
                intro w'
                go_simp
                with_reducible rfl
               rotate_left
               ·
                simp only [Act.put, List.setIfInBounds_toArray, List.set_cons_zero, List.set_cons_succ, i64_w, i32_w]
                rfl
               refine pure_ (i := 6) (N := some 52) (v := ?_) (a' := ?_) #[true, true, true, true, false, true, true, false, false, false, false, false, false, false, false] rfl rfl (any_of HT_.out (by kernel_rfl)) (fun _ _ _ h => h) (Or.inl ⟨by rfl, ?_⟩) ?_ ?_
               rotate_left
               ·
                intro w'
                go_simp
                with_reducible rfl
               rotate_left
               ·
                simp only [Act.put, List.setIfInBounds_toArray, List.set_cons_zero, List.set_cons_succ, i64_w, i32_w]
                rfl
               refine pure_ (i := 7) (N := some 53) (v := ?_) (a' := ?_) #[true, true, true, true, false, true, true, true, false, false, false, false, false, false, false] rfl rfl (any_of HT_.out (by kernel_rfl)) (fun _ _ _ h => h) (Or.inl ⟨by rfl, ?_⟩) ?_ ?_
               rotate_left
               ·
                intro w'
                go_simp
                with_reducible rfl
               rotate_left
               ·
                simp only [Act.put, List.setIfInBounds_toArray, List.set_cons_zero, List.set_cons_succ, i64_w, i32_w]
                rfl
               refine pure_ (i := 8) (N := some 54) (v := ?_) (a' := ?_) #[true, true, true, true, false, true, true, true, true, false, false, false, false, false, false] rfl rfl (any_of HT_.out (by kernel_rfl)) (fun _ _ _ h => h) (Or.inl ⟨by rfl, ?_⟩) ?_ ?_
               rotate_left
               ·
                intro w'
                go_simp
                with_reducible rfl
               rotate_left
               ·
                simp only [Act.put, List.setIfInBounds_toArray, List.set_cons_zero, List.set_cons_succ, i64_w, i32_w]
                rfl
               refine take_ (i := 4) (N := some 50) (v := ?_) (a' := ?_) #[true, true, true, true, true, true, true, true, true, false, false, false, false, false, false] rfl rfl (take_ofW HT_.out HW_.out (by kernel_rfl)) (fun _ _ _ h => h) (Or.inl ⟨by rfl, ?_⟩) hHeld ?_ ?_
               rotate_left
               ·
                rintro w' ⟨s0, s1, s2⟩
                go_simp
                with_reducible rfl
               rotate_left
               ·
                simp only [Act.put, List.setIfInBounds_toArray, List.set_cons_zero, List.set_cons_succ, i64_w, i32_w]
                rfl
               refine take_ (i := 9) (N := some 55) (v := ?_) (a' := ?_) #[true, true, true, true, true, true, true, true, true, true, false, false, false, false, false] rfl rfl (take_ofW HT_.out HW_.out (by kernel_rfl)) (fun _ _ _ h => h) (Or.inl ⟨by rfl, ?_⟩) hHeld ?_ ?_
               rotate_left
               ·
                rintro w' ⟨s0, s1, s2⟩
                go_simp
                with_reducible rfl
               rotate_left
               ·
                simp only [Act.put, List.setIfInBounds_toArray, List.set_cons_zero, List.set_cons_succ, i64_w, i32_w]
                rfl
               refine pure_ (i := 10) (N := some 56) (v := ?_) (a' := ?_) #[true, true, true, true, true, true, true, true, true, true, true, false, false, false, false] rfl rfl (any_of HT_.out (by kernel_rfl)) (fun _ _ _ h => h) (Or.inl ⟨by rfl, ?_⟩) ?_ ?_
               rotate_left
               ·
                intro w'
                go_simp
                with_reducible rfl
               rotate_left
               ·
                simp only [Act.put, List.setIfInBounds_toArray, List.set_cons_zero, List.set_cons_succ, i64_w, i32_w]
                rfl
               refine take_ (i := 11) (N := some 57) (v := ?_) (a' := ?_) #[true, true, true, true, true, true, true, true, true, true, true, true, false, false, false] rfl rfl (take_ofW HT_.out HW_.out (by kernel_rfl)) (fun _ _ _ h => h) (Or.inl ⟨by rfl, ?_⟩) hHeld ?_ ?_
               rotate_left
               ·
                rintro w' ⟨s0, s1, s2⟩
                go_simp
                with_reducible rfl
               rotate_left
               ·
                simp only [Act.put, List.setIfInBounds_toArray, List.set_cons_zero, List.set_cons_succ, i64_w, i32_w]
                rfl
               refine pure_ (i := 12) (N := some 58) (v := ?_) (a' := ?_) #[true, true, true, true, true, true, true, true, true, true, true, true, true, false, false] rfl rfl (any_of HT_.out (by kernel_rfl)) (fun _ _ _ h => h) (Or.inl ⟨by rfl, ?_⟩) ?_ ?_
               rotate_left
               ·
                intro w'
                go_simp
                with_reducible rfl
               rotate_left
               ·
                simp only [Act.put, List.setIfInBounds_toArray, List.set_cons_zero, List.set_cons_succ, i64_w, i32_w]
                rfl
               refine pure_ (i := 13) (N := some 59) (v := ?_) (a' := ?_) #[true, true, true, true, true, true, true, true, true, true, true, true, true, true, false] rfl rfl (any_of HT_.out (by kernel_rfl)) (fun _ _ _ h => h) (Or.inl ⟨by rfl, ?_⟩) ?_ ?_
               rotate_left
               ·
                intro w'
                go_simp
                with_reducible rfl
               rotate_left
               ·
                simp only [Act.put, List.setIfInBounds_toArray, List.set_cons_zero, List.set_cons_succ, i64_w, i32_w]
                rfl
               refine last_ (i := 14) (N := none) #[true, true, true, true, true, true, true, true, true, true, true, true, true, true, true] rfl rfl (one_of HT_.out (by kernel_rfl)) (by decide) (fun K hK => ?_)
               refine skip_ (w1 := ?_) (by rfl) rfl ?_ ?_
               rotate_left
               ·
                go_simp
                rfl
               refine hK.out _ _ ?_
               clear hK K
               refine done_ (done_of HT_.out (by kernel_rfl)) ?_
               try go_wp2
               have n0_ : Aside0 (Kd.R (Kd.int .i64) 3 (w33.setCell ⟨go21, ((rd l1 x6_1) : Int).toNat, none⟩ (.int .i64 (wrap64 ((rd x5_1 (rd l1 x6_1)) + 1)))) w.heap.size (fun _ => True) (.slice (some ⟨go21, 0, none⟩) x5_1.length co34) y418) := ⟨by (with_reducible repeat (first | apply Kd.R_alloc | apply Kd.R_drewN | apply Kd.R_drew)); exact HQ35.out⟩
               have n1_ : Aside0 ((w33.setCell ⟨go21, ((rd l1 x6_1) : Int).toNat, none⟩ (.int .i64 (wrap64 ((rd x5_1 (rd l1 x6_1)) + 1)))).heap[gb406]? = some (.cells #[.slice A0_0 l0_0.length c0_0, .slice A0_1 l0_1.length c0_1, .slice (some ad410) l0_2.length c0_2] 26 (0, 0))) := ⟨by (with_reducible repeat (first | refine blk_drewN ?_ _ | refine blk_drew ?_ | refine blk_alloc ?_ _)); refine blk_far ?_ (by have h_ := Kd.R_ne HO_5.out BK406.out (by decide); intro e_; exact h_ (by rw [e_]; rfl)) _; (with_reducible repeat (first | refine blk_drewN ?_ _ | refine blk_drew ?_ | refine blk_alloc ?_ _)); exact BK406.out⟩
               have n2_ : Aside0 (Below w.heap.size w (w33.setCell ⟨go21, ((rd l1 x6_1) : Int).toNat, none⟩ (.int .i64 (wrap64 ((rd x5_1 (rd l1 x6_1)) + 1))))) := ⟨by repeat (first | (with_reducible first | exact HB.out | apply below_alloc | apply pw_below_drewN | apply below_drew1 | refine below_set ?_ GB21.out | refine below_set ?_ GE406.out) | exact HB.out)⟩
               (try clear HO_5)
               (try clear BK406)
               (try clear HB)
               generalize (w33.setCell ⟨go21, ((rd l1 x6_1) : Int).toNat, none⟩ (.int .i64 (wrap64 ((rd x5_1 (rd l1 x6_1)) + 1)))) = w36 at n0_ n1_ n2_ ⊢
               have HO_5 := n0_
               have BK406 := n1_
               have HB := n2_
               clear n0_ n1_ n2_
               have n0_ := Aside0.mk (Kd.R_drew HO_5.out)
               have n1_ := Aside0.mk (blk_drew BK406.out)
               have n2_ := Aside0.mk (below_drew1 HB.out)
               clear HO_5
               clear BK406
               clear HB
               have HO_5 := n0_
               have BK406 := n1_
               have HB := n2_
               clear n0_ n1_ n2_
               have p419 : 0 ≤ (x6_1 : Int) := of_decide_eq_true (by first | (with_reducible assumption) | assumption)
               have q419 : x6_1 < (l1.length : Int) := of_decide_eq_true (by first | (with_reducible assumption) | assumption)
               obtain ⟨ad419, e419, hx419_0⟩ := Kd.at_int HR1.out x6_1 p419 q419
               have hw419_0 := hx419_0
               obtain rfl : ad413 = ad419 := (by injection e419)
               replace hx419_0 := (HB.out.cell (World.block_lt_of_cell? w _ hx419_0)).trans hx419_0
               replace p419 := eq_true p419
               replace q419 := eq_true q419
               have p420 : 0 ≤ ((rd l1 x6_1) : Int) := of_decide_eq_true (by first | (with_reducible assumption) | assumption)
               have q420 : (rd l1 x6_1) < (y418.length : Int) := (by have h_ : ((rd l1 x6_1) : Int) < ((x5_1.length : Int) : Int) := of_decide_eq_true (by first | (with_reducible assumption) | assumption); first | (have e_ := (Kd.R_reads' HO_5.out).1; omega) | simpa only [Ny418.out, List.length_set] using h_)
               have ql420 : (((rd l1 x6_1) : Int) < ((x5_1.length : Int) : Int)) = True := eq_true (of_decide_eq_true (by first | (with_reducible assumption) | assumption))
               obtain ⟨ad420, e420, hx420_0⟩ := Kd.at_int (Kd.R_reads' HO_5.out).2.2 (rd l1 x6_1) p420 q420
               obtain rfl : (⟨go21, 0, none⟩ : Addr) = ad420 := (by injection e420)
               (first | simp only [add_plain] at hx420_0 | simp only [add_at] at hx420_0 | simp only [Addr.add, Nat.zero_add] at hx420_0 | skip)
               replace p420 := eq_true p420
               replace q420 := eq_true q420
               have p421 : 0 ≤ (x6_1 : Int) := of_decide_eq_true (by first | (with_reducible assumption) | assumption)
               have q421 : x6_1 < (l1.length : Int) := of_decide_eq_true (by first | (with_reducible assumption) | assumption)
               obtain ⟨ad421, e421, hx421_0⟩ := Kd.at_int HR1.out x6_1 p421 q421
               have hw421_0 := hx421_0
               obtain rfl : ad413 = ad421 := (by injection e421)
               replace hx421_0 := (HB.out.cell (World.block_lt_of_cell? w _ hx421_0)).trans hx421_0
               replace p421 := eq_true p421
               replace q421 := eq_true q421
               have p422 : 0 ≤ ((rd l1 x6_1) : Int) := of_decide_eq_true (by first | (with_reducible assumption) | assumption)
               have q422 : (rd l1 x6_1) < (l0_1.length : Int) := of_decide_eq_true (by first | (with_reducible assumption) | assumption)
               obtain ⟨ad422, e422, hx422_0, hx422_1, hx422_2⟩ := at_T50 HR0_1.out (rd l1 x6_1) p422 q422
               have hw422_2 := hx422_2
               have hw422_1 := hx422_1
               have hw422_0 := hx422_0
               cases e422
               replace hx422_0 := (HB.out.cell (World.block_lt_of_cell? w _ hx422_0)).trans hx422_0
               replace hx422_1 := (HB.out.cell (World.block_lt_of_cell? w _ hx422_1)).trans hx422_1
               replace hx422_2 := (HB.out.cell (World.block_lt_of_cell? w _ hx422_2)).trans hx422_2
               replace p422 := eq_true p422
               replace q422 := eq_true q422
               refine start_ (n := 17) (S := fun w' => w'.cell? ⟨gb406, 0, none⟩ = some (.slice A0_0 l0_0.length c0_0) ∧ w'.cell? ⟨gb406, 1, none⟩ = some (.slice (some ad422) l0_1.length c0_1) ∧ w'.cell? ⟨gb406, 2, none⟩ = some (.slice (some ad410) l0_2.length c0_2) ∧ w'.cell? (ad413.add (x6_1).toNat) = some (.int .i64 (rd l1 x6_1)) ∧ w'.cell? ⟨go21, ((rd l1 x6_1)).toNat, none⟩ = some (.int .i64 (rd y418 (rd l1 x6_1))) ∧ w'.cell? (ad413.add (x6_1).toNat) = some (.int .i64 (rd l1 x6_1)) ∧ w'.cell? (ad422.add (((rd l1 x6_1)).toNat * 3)) = some (.int .i64 ((rd_T50 l0_1 (rd l1 x6_1)).f0)) ∧ w'.cell? ⟨(ad422.add (((rd l1 x6_1)).toNat * 3)).block, (ad422.add (((rd l1 x6_1)).toNat * 3)).off + 1, none⟩ = some (.int .i64 ((rd_T50 l0_1 (rd l1 x6_1)).f1)) ∧ w'.cell? ⟨(ad422.add (((rd l1 x6_1)).toNat * 3)).block, (ad422.add (((rd l1 x6_1)).toNat * 3)).off + 2, none⟩ = some (.int .i64 ((rd_T50 l0_1 (rd l1 x6_1)).f2))) (ds := []) #[false, false, false, false, false, false, false, false, false, false, false, false, false, false, false, false, false] (by kernel_rfl) rfl rfl ⟨(blk_cell BK406.out 0).trans rfl, (blk_cell BK406.out 1).trans rfl, (blk_cell BK406.out 2).trans rfl, ((HB.out.cell (World.block_lt_of_cell? w _ hw419_0)).trans hw419_0), hx420_0, ((HB.out.cell (World.block_lt_of_cell? w _ hw421_0)).trans hw421_0), ((HB.out.cell (World.block_lt_of_cell? w _ hw422_0)).trans hw422_0), ((HB.out.cell (World.block_lt_of_cell? w _ hw422_1)).trans hw422_1), ((HB.out.cell (World.block_lt_of_cell? w _ hw422_2)).trans hw422_2)⟩ (fun hHeld => ?_); refine with_tabW laganref04_meets.tab13 laganref04_meets.bits13 (fun HT_ HW_ => ?_)
               generalize w36.drew = w37 at HO_5 BK406 HB HQ35 hx419_0 hx420_0 hx421_0 hx422_0 hx422_1 hx422_2 hHeld ⊢
               refine pure_ (i := 0) (N := some 60) (v := ?_) (a' := ?_) #[true, false, false, false, false, false, false, false, false, false, false, false, false, false, false, false, false] rfl rfl (any_of HT_.out (by kernel_rfl)) (fun _ _ _ h => h) (Or.inl ⟨by rfl, ?_⟩) ?_ ?_
               rotate_left
               ·
                intro w'
                go_simp
                with_reducible rfl
               rotate_left
               ·
                simp only [Act.put, List.setIfInBounds_toArray, List.set_cons_zero, List.set_cons_succ, i64_w, i32_w]
                rfl
               refine pure_ (i := 1) (N := some 61) (v := ?_) (a' := ?_) #[true, true, false, false, false, false, false, false, false, false, false, false, false, false, false, false, false] rfl rfl (any_of HT_.out (by kernel_rfl)) (fun _ _ _ h => h) (Or.inl ⟨by rfl, ?_⟩) ?_ ?_
               rotate_left
               ·
                intro w'
                go_simp
                with_reducible rfl
               rotate_left
               ·
                simp only [Act.put, List.setIfInBounds_toArray, List.set_cons_zero, List.set_cons_succ, i64_w, i32_w]
                rfl
               refine pure_ (i := 2) (N := some 62) (v := ?_) (a' := ?_) #[true, true, true, false, false, false, false, false, false, false, false, false, false, false, false, false, false] rfl rfl (any_of HT_.out (by kernel_rfl)) (fun _ _ _ h => h) (Or.inl ⟨by rfl, ?_⟩) ?_ ?_
               rotate_left
               ·
                intro w'
                go_simp
                with_reducible rfl
               rotate_left
               ·
                simp only [Act.put, List.setIfInBounds_toArray, List.set_cons_zero, List.set_cons_succ, i64_w, i32_w]
                rfl
               refine pure_ (i := 3) (N := some 63) (v := ?_) (a' := ?_) #[true, true, true, true, false, false, false, false, false, false, false, false, false, false, false, false, false] rfl rfl (any_of HT_.out (by kernel_rfl)) (fun _ _ _ h => h) (Or.inl ⟨by rfl, ?_⟩) ?_ ?_
               rotate_left
               ·
                intro w'
                go_simp
                with_reducible rfl
               rotate_left
               ·
                simp only [Act.put, List.setIfInBounds_toArray, List.set_cons_zero, List.set_cons_succ, i64_w, i32_w]
                rfl
               refine pure_ (i := 7) (N := some 67) (v := ?_) (a' := ?_) #[true, true, true, true, false, false, false, true, false, false, false, false, false, false, false, false, false] rfl rfl (any_of HT_.out (by kernel_rfl)) (fun _ _ _ h => h) (Or.inl ⟨by rfl, ?_⟩) ?_ ?_
               rotate_left
               ·
                intro w'
                go_simp
                with_reducible rfl
               rotate_left
               ·
                simp only [Act.put, List.setIfInBounds_toArray, List.set_cons_zero, List.set_cons_succ, i64_w, i32_w]
                rfl
               refine pure_ (i := 9) (N := some 69) (v := ?_) (a' := ?_) #[true, true, true, true, false, false, false, true, false, true, false, false, false, false, false, false, false] rfl rfl (any_of HT_.out (by kernel_rfl)) (fun _ _ _ h => h) (Or.inl ⟨by rfl, ?_⟩) ?_ ?_
               rotate_left
               ·
                intro w'
                go_simp
                with_reducible rfl
               rotate_left
               ·
                simp only [Act.put, List.setIfInBounds_toArray, List.set_cons_zero, List.set_cons_succ, i64_w, i32_w]
                rfl
               refine pure_ (i := 10) (N := some 70) (v := ?_) (a' := ?_) #[true, true, true, true, false, false, false, true, false, true, true, false, false, false, false, false, false] rfl rfl (any_of HT_.out (by kernel_rfl)) (fun _ _ _ h => h) (Or.inl ⟨by rfl, ?_⟩) ?_ ?_
               rotate_left
               ·
                intro w'
                go_simp
                with_reducible rfl
               rotate_left
               ·
                simp only [Act.put, List.setIfInBounds_toArray, List.set_cons_zero, List.set_cons_succ, i64_w, i32_w]
                rfl
               refine pure_ (i := 11) (N := some 71) (v := ?_) (a' := ?_) #[true, true, true, true, false, false, false, true, false, true, true, true, false, false, false, false, false] rfl rfl (any_of HT_.out (by kernel_rfl)) (fun _ _ _ h => h) (Or.inl ⟨by rfl, ?_⟩) ?_ ?_
               rotate_left
               ·
                intro w'
                go_simp
                with_reducible rfl
               rotate_left
               ·
                simp only [Act.put, List.setIfInBounds_toArray, List.set_cons_zero, List.set_cons_succ, i64_w, i32_w]
                rfl
               refine take_ (i := 4) (N := some 64) (v := ?_) (a' := ?_) #[true, true, true, true, true, false, false, true, false, true, true, true, false, false, false, false, false] rfl rfl (take_ofW HT_.out HW_.out (by kernel_rfl)) (fun _ _ _ h => h) (Or.inl ⟨by rfl, ?_⟩) hHeld ?_ ?_
               rotate_left
               ·
                rintro w' ⟨s0, s1, s2, s3, s4, s5, s6, s7, s8⟩
                go_simp
                with_reducible rfl
               rotate_left
               ·
                simp only [Act.put, List.setIfInBounds_toArray, List.set_cons_zero, List.set_cons_succ, i64_w, i32_w]
                rfl
               refine pure_ (i := 5) (N := some 65) (v := ?_) (a' := ?_) #[true, true, true, true, true, true, false, true, false, true, true, true, false, false, false, false, false] rfl rfl (any_of HT_.out (by kernel_rfl)) (fun _ _ _ h => h) (Or.inl ⟨by rfl, ?_⟩) ?_ ?_
               rotate_left
               ·
                intro w'
                go_simp
                with_reducible rfl
               rotate_left
               ·
                simp only [Act.put, List.setIfInBounds_toArray, List.set_cons_zero, List.set_cons_succ, i64_w, i32_w]
                rfl
               refine take_ (i := 6) (N := some 66) (v := ?_) (a' := ?_) #[true, true, true, true, true, true, true, true, false, true, true, true, false, false, false, false, false] rfl rfl (take_ofW HT_.out HW_.out (by kernel_rfl)) (fun _ _ _ h => h) (Or.inl ⟨by rfl, ?_⟩) hHeld ?_ ?_
               rotate_left
               ·
                rintro w' ⟨s0, s1, s2, s3, s4, s5, s6, s7, s8⟩
                go_simp
                with_reducible rfl
               rotate_left
               ·
                simp only [Act.put, List.setIfInBounds_toArray, List.set_cons_zero, List.set_cons_succ, i64_w, i32_w]
                rfl
               refine take_ (i := 8) (N := some 68) (v := ?_) (a' := ?_) #[true, true, true, true, true, true, true, true, true, true, true, true, false, false, false, false, false] rfl rfl (take_ofW HT_.out HW_.out (by kernel_rfl)) (fun _ _ _ h => h) (Or.inl ⟨by rfl, ?_⟩) hHeld ?_ ?_
               rotate_left
               ·
                rintro w' ⟨s0, s1, s2, s3, s4, s5, s6, s7, s8⟩
                go_simp
                with_reducible rfl
               rotate_left
               ·
                simp only [Act.put, List.setIfInBounds_toArray, List.set_cons_zero, List.set_cons_succ, i64_w, i32_w]
                rfl
               refine take_ (i := 12) (N := some 72) (v := ?_) (a' := ?_) #[true, true, true, true, true, true, true, true, true, true, true, true, true, false, false, false, false] rfl rfl (take_ofW HT_.out HW_.out (by kernel_rfl)) (fun _ _ _ h => h) (Or.inl ⟨by rfl, ?_⟩) hHeld ?_ ?_
               rotate_left
               ·
                rintro w' ⟨s0, s1, s2, s3, s4, s5, s6, s7, s8⟩
                go_simp
                with_reducible rfl
               rotate_left
               ·
                simp only [Act.put, List.setIfInBounds_toArray, List.set_cons_zero, List.set_cons_succ, i64_w, i32_w]
                rfl
               refine pure_ (i := 13) (N := some 73) (v := ?_) (a' := ?_) #[true, true, true, true, true, true, true, true, true, true, true, true, true, true, false, false, false] rfl rfl (any_of HT_.out (by kernel_rfl)) (fun _ _ _ h => h) (Or.inl ⟨by rfl, ?_⟩) ?_ ?_
               rotate_left
               ·
                intro w'
                go_simp
                with_reducible rfl
               rotate_left
               ·
                simp only [Act.put, List.setIfInBounds_toArray, List.set_cons_zero, List.set_cons_succ, i64_w, i32_w]
                rfl
               refine pure_ (i := 14) (N := some 74) (v := ?_) (a' := ?_) #[true, true, true, true, true, true, true, true, true, true, true, true, true, true, true, false, false] rfl rfl (any_of HT_.out (by kernel_rfl)) (fun _ _ _ h => h) (Or.inl ⟨by rfl, ?_⟩) ?_ ?_
               rotate_left
               ·
                intro w'
                go_simp
                with_reducible rfl
               rotate_left
               ·
                simp only [Act.put, List.setIfInBounds_toArray, List.set_cons_zero, List.set_cons_succ, i64_w, i32_w]
                rfl
               refine take_ (i := 15) (N := some 75) (v := ?_) (a' := ?_) #[true, true, true, true, true, true, true, true, true, true, true, true, true, true, true, true, false] rfl rfl (take_ofW HT_.out HW_.out (by kernel_rfl)) (fun _ _ _ h => h) (Or.inl ⟨by rfl, ?_⟩) hHeld ?_ ?_
               rotate_left
               ·
                rintro w' ⟨s0, s1, s2, s3, s4, s5, s6, s7, s8⟩
                go_simp
                with_reducible rfl
               rotate_left
               ·
                simp only [Act.put, List.setIfInBounds_toArray, List.set_cons_zero, List.set_cons_succ, i64_w, i32_w]
                rfl
               refine pure_ (i := 16) (N := some 76) (v := ?_) (a' := ?_) #[true, true, true, true, true, true, true, true, true, true, true, true, true, true, true, true, true] rfl rfl (any_of HT_.out (by kernel_rfl)) (fun _ _ _ h => h) (Or.inl ⟨by rfl, ?_⟩) ?_ ?_
               rotate_left
               ·
                intro w'
                go_simp
                with_reducible rfl
               rotate_left
               ·
                simp only [Act.put, List.setIfInBounds_toArray, List.set_cons_zero, List.set_cons_succ, i64_w, i32_w]
                rfl
               refine done_ (done_of HT_.out (by kernel_rfl)) ?_
               try go_wp2
               go_roundg k1
               case measure => have := HK1.out; omega
               case rel => exact ⟨(y418), (wrap64 (x6_1 + 1)), (by first | rfl | (simp; done) | (simp [*]; done)), H', ⟨by have := HK1.out; omega⟩, ⟨by (with_reducible repeat (first | apply Kd.R_alloc | apply Kd.R_drewN | apply Kd.R_drew)); exact HO_5.out⟩, ⟨by (with_reducible repeat (first | refine blk_drewN ?_ _ | refine blk_drew ?_ | refine blk_alloc ?_ _)); exact BK406.out⟩, ⟨by repeat (first | (with_reducible first | exact HB.out | apply below_alloc | apply pw_below_drewN | apply below_drew1 | refine below_set ?_ GE406.out) | exact HB.out)⟩⟩
             ·
              rw [if_neg c22] at H
              exact absurd H (by simp)
            ·
             rw [if_neg c20] at H
             exact absurd H (by simp)
           ·
            rw [if_neg c19] at H
            exact absurd H (by simp)
          ·
           replace c18 := Bool.eq_false_iff.mpr c18
           subst c18
           have H1 : (some false) = some r := by rw [if_neg (show ¬ (false = true) by decide)] at H; exact H
           clear H
           have H := H1
           clear H1
           obtain rfl := Option.some.inj H
           have hcz38_0 : wr.cell? ⟨gb406, 0, none⟩ = some (.slice A0_0 l0_0.length c0_0) := (blk_cell BK406.out 0).trans rfl
           have hcz38_1 : wr.cell? ⟨gb406, 1, none⟩ = some (.slice A0_1 l0_1.length c0_1) := (blk_cell BK406.out 1).trans rfl
           have hcz38_2 : wr.cell? ⟨gb406, 2, none⟩ = some (.slice A0_2 l0_2.length c0_2) := (blk_cell BK406.out 2).trans rfl
           have hfz38_0 := blk_frozen BK406.out 0
           have hfz38_1 := blk_frozen BK406.out 1
           have hfz38_2 := blk_frozen BK406.out 2
           have p410 : 0 ≤ (x6_1 : Int) := of_decide_eq_true (by first | (with_reducible assumption) | assumption)
           have q410 : x6_1 < (l0_2.length : Int) := of_decide_eq_true (by first | (with_reducible assumption) | assumption)
           obtain ⟨ad410, A410_0, c410_0, e410, hx410_0, hl410_0, hi410_0⟩ := at_L1 HR0_2.out x6_1 p410 q410
           cases e410
           replace hx410_0 := (HB.out.cell (World.block_lt_of_cell? w _ hx410_0)).trans hx410_0
           have HR410_0 := Aside0.mk hi410_0
           have HC410_0 := Aside0.mk hl410_0
           clear hi410_0 hl410_0
           replace p410 := eq_true p410
           replace q410 := eq_true q410
           try go_wp2
           have n0_ := Aside0.mk (Kd.R_drew HO_5.out)
           have n1_ := Aside0.mk (blk_drew BK406.out)
           have n2_ := Aside0.mk (below_drew1 HB.out)
           clear HO_5
           clear BK406
           clear HB
           have HO_5 := n0_
           have BK406 := n1_
           have HB := n2_
           clear n0_ n1_ n2_
           have p412 : 0 ≤ (x6_1 : Int) := of_decide_eq_true (by first | (with_reducible assumption) | assumption)
           have q412 : x6_1 < (l0_2.length : Int) := of_decide_eq_true (by first | (with_reducible assumption) | assumption)
           obtain ⟨ad412, A412_0, c412_0, e412, hx412_0, hl412_0, hi412_0⟩ := at_L1 HR0_2.out x6_1 p412 q412
           have hw412_0 := hx412_0
           obtain rfl : ad410 = ad412 := (by injection e412)
           replace hx412_0 := (HB.out.cell (World.block_lt_of_cell? w _ hx412_0)).trans hx412_0
           have HR412_0 := Aside0.mk hi412_0
           have HC412_0 := Aside0.mk hl412_0
           clear hi412_0 hl412_0
           replace p412 := eq_true p412
           replace q412 := eq_true q412
           have p413 : 0 ≤ (x6_1 : Int) := of_decide_eq_true (by first | (with_reducible assumption) | assumption)
           have q413 : x6_1 < (l1.length : Int) := of_decide_eq_true (by first | (with_reducible assumption) | assumption)
           obtain ⟨ad413, e413, hx413_0⟩ := Kd.at_int HR1.out x6_1 p413 q413
           have hw413_0 := hx413_0
           cases e413
           replace hx413_0 := (HB.out.cell (World.block_lt_of_cell? w _ hx413_0)).trans hx413_0
           replace p413 := eq_true p413
           replace q413 := eq_true q413
           refine start_ (n := 11) (S := fun w' => w'.cell? ⟨gb406, 0, none⟩ = some (.slice A0_0 l0_0.length c0_0) ∧ w'.cell? ⟨gb406, 1, none⟩ = some (.slice A0_1 l0_1.length c0_1) ∧ w'.cell? ⟨gb406, 2, none⟩ = some (.slice (some ad410) l0_2.length c0_2) ∧ w'.cell? (ad410.add (x6_1).toNat) = some (.slice A412_0 (rd_L1 l0_2 x6_1).length c412_0) ∧ w'.cell? (ad413.add (x6_1).toNat) = some (.int .i64 (rd l1 x6_1))) (ds := []) #[false, false, false, false, false, false, false, false, false, false, false] (by kernel_rfl) rfl rfl ⟨(blk_cell BK406.out 0).trans rfl, (blk_cell BK406.out 1).trans rfl, (blk_cell BK406.out 2).trans rfl, ((HB.out.cell (World.block_lt_of_cell? w _ hw412_0)).trans hw412_0), ((HB.out.cell (World.block_lt_of_cell? w _ hw413_0)).trans hw413_0)⟩ (fun hHeld => ?_); refine with_tabW laganref04_meets.tab10 laganref04_meets.bits10 (fun HT_ HW_ => ?_)
           generalize wr.drew = w39 at HO_5 BK406 HB HR412_0 hx412_0 hx413_0 hHeld ⊢
           refine pure_ (i := 0) (N := some 35) (v := ?_) (a' := ?_) #[true, false, false, false, false, false, false, false, false, false, false] rfl rfl (any_of HT_.out (by kernel_rfl)) (fun _ _ _ h => h) (Or.inl ⟨by rfl, ?_⟩) ?_ ?_
           rotate_left
           ·
            intro w'
            go_simp
            with_reducible rfl
           rotate_left
           ·
            simp only [Act.put, List.setIfInBounds_toArray, List.set_cons_zero, List.set_cons_succ, i64_w, i32_w]
            rfl
           refine pure_ (i := 2) (N := some 37) (v := ?_) (a' := ?_) #[true, false, true, false, false, false, false, false, false, false, false] rfl rfl (any_of HT_.out (by kernel_rfl)) (fun _ _ _ h => h) (Or.inl ⟨by rfl, ?_⟩) ?_ ?_
           rotate_left
           ·
            intro w'
            go_simp
            with_reducible rfl
           rotate_left
           ·
            simp only [Act.put, List.setIfInBounds_toArray, List.set_cons_zero, List.set_cons_succ, i64_w, i32_w]
            rfl
           refine pure_ (i := 5) (N := some 40) (v := ?_) (a' := ?_) #[true, false, true, false, false, true, false, false, false, false, false] rfl rfl (any_of HT_.out (by kernel_rfl)) (fun _ _ _ h => h) (Or.inl ⟨by rfl, ?_⟩) ?_ ?_
           rotate_left
           ·
            intro w'
            go_simp
            with_reducible rfl
           rotate_left
           ·
            simp only [Act.put, List.setIfInBounds_toArray, List.set_cons_zero, List.set_cons_succ, i64_w, i32_w]
            rfl
           refine pure_ (i := 6) (N := some 41) (v := ?_) (a' := ?_) #[true, false, true, false, false, true, true, false, false, false, false] rfl rfl (any_of HT_.out (by kernel_rfl)) (fun _ _ _ h => h) (Or.inl ⟨by rfl, ?_⟩) ?_ ?_
           rotate_left
           ·
            intro w'
            go_simp
            with_reducible rfl
           rotate_left
           ·
            simp only [Act.put, List.setIfInBounds_toArray, List.set_cons_zero, List.set_cons_succ, i64_w, i32_w]
            rfl
           refine pure_ (i := 7) (N := some 42) (v := ?_) (a' := ?_) #[true, false, true, false, false, true, true, true, false, false, false] rfl rfl (any_of HT_.out (by kernel_rfl)) (fun _ _ _ h => h) (Or.inl ⟨by rfl, ?_⟩) ?_ ?_
           rotate_left
           ·
            intro w'
            go_simp
            with_reducible rfl
           rotate_left
           ·
            simp only [Act.put, List.setIfInBounds_toArray, List.set_cons_zero, List.set_cons_succ, i64_w, i32_w]
            rfl
           refine take_ (i := 1) (N := some 36) (v := ?_) (a' := ?_) #[true, true, true, false, false, true, true, true, false, false, false] rfl rfl (take_ofW HT_.out HW_.out (by kernel_rfl)) (fun _ _ _ h => h) (Or.inl ⟨by rfl, ?_⟩) hHeld ?_ ?_
           rotate_left
           ·
            rintro w' ⟨s0, s1, s2, s3, s4⟩
            go_simp
            with_reducible rfl
           rotate_left
           ·
            simp only [Act.put, List.setIfInBounds_toArray, List.set_cons_zero, List.set_cons_succ, i64_w, i32_w]
            rfl
           refine pure_ (i := 3) (N := some 38) (v := ?_) (a' := ?_) #[true, true, true, true, false, true, true, true, false, false, false] rfl rfl (any_of HT_.out (by kernel_rfl)) (fun _ _ _ h => h) (Or.inl ⟨by rfl, ?_⟩) ?_ ?_
           rotate_left
           ·
            intro w'
            go_simp
            with_reducible rfl
           rotate_left
           ·
            simp only [Act.put, List.setIfInBounds_toArray, List.set_cons_zero, List.set_cons_succ, i64_w, i32_w]
            rfl
           refine take_ (i := 4) (N := some 39) (v := ?_) (a' := ?_) #[true, true, true, true, true, true, true, true, false, false, false] rfl rfl (take_ofW HT_.out HW_.out (by kernel_rfl)) (fun _ _ _ h => h) (Or.inl ⟨by rfl, ?_⟩) hHeld ?_ ?_
           rotate_left
           ·
            rintro w' ⟨s0, s1, s2, s3, s4⟩
            go_simp
            with_reducible rfl
           rotate_left
           ·
            simp only [Act.put, List.setIfInBounds_toArray, List.set_cons_zero, List.set_cons_succ, i64_w, i32_w]
            rfl
           refine take_ (i := 8) (N := some 43) (v := ?_) (a' := ?_) #[true, true, true, true, true, true, true, true, true, false, false] rfl rfl (take_ofW HT_.out HW_.out (by kernel_rfl)) (fun _ _ _ h => h) (Or.inl ⟨by rfl, ?_⟩) hHeld ?_ ?_
           rotate_left
           ·
            rintro w' ⟨s0, s1, s2, s3, s4⟩
            go_simp
            with_reducible rfl
           rotate_left
           ·
            simp only [Act.put, List.setIfInBounds_toArray, List.set_cons_zero, List.set_cons_succ, i64_w, i32_w]
            rfl
           refine one_ (i := 9) (N := some 44) #[true, true, true, true, true, true, true, true, true, true, false] rfl rfl (one_of HT_.out (by kernel_rfl)) (by decide) (fun K hK => ?_)
           refine goes_ Try.func33 (by kernel_rfl) rfl #[.slice A412_0 (rd_L1 l0_2 x6_1).length c412_0, .int .i64 (rd l1 x6_1)] (by rfl) rfl rfl (by (try simp only [List.map_toArray, List.map_cons, List.map_nil]); first | done | rfl | (simp only [List.length_drop, List.length_take]; rfl)) ?_
           with_reducible refine (laganref04_Has.calls k1 _ _ (rd_L1 l0_2 x6_1) (rd l1 x6_1) false _ ?side1 ?side2 A17.out).mono ?_
           (case side1 => repeat (first | exact (Kd.C_below HR412_0.out HB.out) | (with_reducible refine Kd.C_alloc ?_ _) | (with_reducible refine Kd.C_drewN ?_ _) | (with_reducible refine Kd.C_drew ?_)))
           (case side2 => exact HC412_0.out)
           rintro e w' ⟨rfl, ⟨nd, rfl⟩⟩
           refine ⟨_, rfl, ?_⟩
           refine hK.out _ _ ⟨(blk_cell BK406.out 0).trans rfl, (blk_cell BK406.out 1).trans rfl, (blk_cell BK406.out 2).trans rfl, ((HB.out.cell (World.block_lt_of_cell? w _ hw412_0)).trans hw412_0), ((HB.out.cell (World.block_lt_of_cell? w _ hw413_0)).trans hw413_0)⟩ (fun hHeld => ?_)
           clear hK K
           refine norm_ (a' := ?_) ?_ ?_
           rotate_left
           ·
            show Act.put _ (some 44) _ = _
            simp only [Act.put, List.setIfInBounds_toArray, List.set_cons_zero, List.set_cons_succ, i64_w, i32_w]
            rfl
           refine pure_ (i := 10) (N := some 45) (v := ?_) (a' := ?_) #[true, true, true, true, true, true, true, true, true, true, true] rfl rfl (any_of HT_.out (by kernel_rfl)) (fun _ _ _ h => h) (Or.inl ⟨by rfl, ?_⟩) ?_ ?_
           rotate_left
           ·
            intro w'
            go_simp
            with_reducible rfl
           rotate_left
           ·
            simp only [Act.put, List.setIfInBounds_toArray, List.set_cons_zero, List.set_cons_succ, i64_w, i32_w]
            rfl
           refine done_ (done_of HT_.out (by kernel_rfl)) ?_
           try go_wp2
           go_ret
           exact ⟨by first | rfl | (simp [errW_none, errW_some] <;> rfl) | (simp [*, errW_none, errW_some] <;> rfl), by repeat (first | (with_reducible first | exact HB.out | apply below_alloc | apply pw_below_drewN | apply below_drew1 | refine below_set ?_ GE406.out) | exact HB.out)⟩
        ·
         rw [if_neg c12] at H
         exact absurd H (by simp)
       ·
        rw [if_neg c11] at H
        exact absurd H (by simp)
      ·
       rw [if_neg c10] at H
       have c10b0 : decide (x6_1 < (l1.length : Int)) = false := decide_eq_false c10
       clear c10
       obtain rfl := Option.some.inj H
       go_wp2
       go_ret
       exact ⟨by first | rfl | (simp [errW_none, errW_some] <;> rfl) | (simp [*, errW_none, errW_some] <;> rfl), by repeat (first | (with_reducible first | exact HB.out | apply below_alloc | apply pw_below_drewN | apply below_drew1 | refine below_set ?_ GE406.out) | exact HB.out)⟩
   ·
    rw [if_neg c5] at H
    exact absurd H (by simp)
  ·
   rw [if_neg c4] at H
   exact absurd H (by simp)
 ·
  rw [if_neg c3] at H
  have c3b0 : ((l1.length : Int) == (l0_0.length : Int)) = false := beq_eq_false_iff_ne.mpr c3
  have c3b1 : ((l1.length : Int) != (l0_0.length : Int)) = true := bne_iff_ne.mpr c3
  have c3b2 : (l1.length == l0_0.length) = false := by first | simpa using c3 | (simp at c3 ⊢; omega)
  obtain rfl := Option.some.inj H
  go_enter Try.func71, Try.ntmps71
  go_wp2_with (first | ((with_reducible refine gate_dst (N := 2) rfl ?_); refine box_event ?hg (N := 2) ?hd (cs := #[.slice A0_0 l0_0.length c0_0, .slice A0_1 l0_1.length c0_1, .slice A0_2 l0_2.length c0_2]) (t := 26) ?hr ?_; (case hd => rfl); (case hg => rfl); (case hr => first | (go_simp; done) | (go_simp; rfl)); intro gb406 hg w40 hbox hb; have n0_ := Aside0.mk (below_step (by repeat (first | (with_reducible first | exact HB.out | apply below_alloc | apply pw_below_drewN | apply below_drew1) | exact HB.out)) hb); have n1_ := Aside0.mk (hbox); have n2_ := Aside0.mk ((by rw [hg]; exact (below_size (by repeat (first | (with_reducible first | exact HB.out | apply below_alloc | apply pw_below_drewN | apply below_drew1) | exact HB.out))) : w.heap.size ≤ gb406)); have n3_ := Aside0.mk ((by rw [hg]; exact (below_size (by repeat (first | (with_reducible first | exact HB.out | apply below_alloc | apply pw_below_drewN | apply below_drew1) | exact HB.out))) : w.heap.size ≤ gb406)); clear HB; have HB := n0_; have BK406 := n1_; have GW406 := n2_; have GE406 := n3_; clear n0_ n1_ n2_ n3_; clear hb hbox hg; have hcz41_0 : w40.cell? ⟨gb406, 0, none⟩ = some (.slice A0_0 l0_0.length c0_0) := (blk_cell BK406.out 0).trans rfl; have hcz41_1 : w40.cell? ⟨gb406, 1, none⟩ = some (.slice A0_1 l0_1.length c0_1) := (blk_cell BK406.out 1).trans rfl; have hcz41_2 : w40.cell? ⟨gb406, 2, none⟩ = some (.slice A0_2 l0_2.length c0_2) := (blk_cell BK406.out 2).trans rfl; have hfz41_0 := blk_frozen BK406.out 0; have hfz41_1 := blk_frozen BK406.out 1; have hfz41_2 := blk_frozen BK406.out 2))
  go_ret
  exact ⟨by first | rfl | (simp [errW_none, errW_some] <;> rfl) | (simp [*, errW_none, errW_some] <;> rfl), by repeat (first | (with_reducible first | exact HB.out | apply below_alloc | apply pw_below_drewN | apply below_drew1 | refine below_set ?_ GE406.out) | exact HB.out)⟩
def laganref04_Meets.f (k : Nat) (l0_0 : List Int) (l0_1 : List (S50)) (l0_2 : List (List Int)) (l1 : List Int) : Option (Bool × Int) := (laganref04_CheckBoard.f k l0_0 l0_1 l0_2).bind fun t424 => (if t424 = 0 then ((laganref04_meets.f k l0_0 l0_1 l0_2 l1).bind fun t425 => (some (t425, t424))) else (some (false, t424)))
theorem laganref04_Meets.mono : ∀ a0 a1 a2 a3 k, LeO (laganref04_Meets.f k a0 a1 a2 a3) (laganref04_Meets.f (k + 1) a0 a1 a2 a3) := by
 intro a0 a1 a2 a3 k
 unfold laganref04_Meets.f
 repeat' first
   | (with_reducible exact laganref04_CheckBoard.mono _ _ _ _)
   | (with_reducible exact laganref04_meets.mono _ _ _ _ _)
   | (with_reducible exact LeO.refl _)
   | (with_reducible exact LeO.none _)
   | (with_reducible refine LeO.ite ?_ ?_)
   | (with_reducible refine LeO.bind ?_ (fun _ => ?_))
   | exact laganref04_CheckBoard.mono _ _ _ _
   | exact laganref04_meets.mono _ _ _ _ _
   | exact LeO.none _
   | refine LeO.ite ?_ ?_
   | refine LeO.bind ?_ (fun _ => ?_)
set_option maxHeartbeats 8000000 in
set_option maxRecDepth 100000 in
theorem laganref04_Meets.calls (k : Nat) (A0_0 : Option Addr) (c0_0 : Nat) (l0_0 : List Int) (A0_1 : Option Addr) (c0_1 : Nat) (l0_1 : List (S50)) (A0_2 : Option Addr) (c0_2 : Nat) (l0_2 : List (List Int)) (A1 : Option Addr) (c1 : Nat) (l1 : List Int) (r1 : Bool) (r2 : Int) (w : World) (hr0_0 : Kd.C (Kd.int .i64) w A0_0 l0_0.length l0_0) (hc0_0 : l0_0.length ≤ c0_0) (hr0_1 : Kd.C k50 w A0_1 l0_1.length l0_1) (hc0_1 : l0_1.length ≤ c0_1) (hr0_2 : Kd.C (Kd.slice 3 (Kd.int .i64)) w A0_2 l0_2.length l0_2) (hc0_2 : l0_2.length ≤ c0_2) (hr1 : Kd.C (Kd.int .i64) w A1 l1.length l1) (hc1 : l1.length ≤ c1) (h : laganref04_Meets.f k l0_0 l0_1 l0_2 l1 = some (r1, r2)) :
  Calls Try.prog 34 #[.agg #[.slice A0_0 l0_0.length c0_0, .slice A0_1 l0_1.length c0_1, .slice A0_2 l0_2.length c0_2], .slice A1 l1.length c1] w fun e w' => e = .returned (.tuple #[.bool r1, .int .i64 r2]) ∧ Below w.heap.size w w' := by
 have hu26 := Try.underlying26
 have HR0_0 := Aside0.mk hr0_0
 have HC0_0 := Aside0.mk hc0_0
 clear hr0_0 hc0_0
 have HR0_1 := Aside0.mk hr0_1
 have HC0_1 := Aside0.mk hc0_1
 clear hr0_1 hc0_1
 have HR0_2 := Aside0.mk hr0_2
 have HC0_2 := Aside0.mk hc0_2
 clear hr0_2 hc0_2
 have HR1 := Aside0.mk hr1
 have HC1 := Aside0.mk hc1
 clear hr1 hc1
 have HB := Aside0.mk (Below.refl w.heap.size w)
 have H : ((laganref04_CheckBoard.f k l0_0 l0_1 l0_2).bind fun t424 => (if t424 = 0 then ((laganref04_meets.f k l0_0 l0_1 l0_2 l1).bind fun t425 => (some (t425, t424))) else (some (false, t424)))) = some (r1, r2) := h
 clear h
 replace H := Option.bind_eq_some_iff.mp H
 obtain ⟨t424, A30, H⟩ := H
 replace H : (if t424 = 0 then ((laganref04_meets.f k l0_0 l0_1 l0_2 l1).bind fun t425 => (some (t425, t424))) else (some (false, t424))) = some (r1, r2) := H
 have A3 := Aside0.mk A30
 clear A30
 by_cases c4 : t424 = 0
 ·
  rw [if_pos c4] at H
  have c4b0 : (t424 == 0) = true := beq_iff_eq.mpr c4
  have c4b1 : (t424 != 0) = false := bne_eq_false_iff_eq.mpr c4
  clear c4
  replace H := Option.bind_eq_some_iff.mp H
  obtain ⟨t425, A50, H⟩ := H
  replace H : (some (t425, t424)) = some (r1, r2) := H
  have A5 := Aside0.mk A50
  clear A50
  simp only [Option.some.injEq, Prod.mk.injEq] at H
  obtain ⟨rfl, rfl⟩ := H
  go_enter Try.func34, Try.ntmps34
  go_wp2_with (first | ((with_reducible refine gate_dst (N := 2) rfl ?_); refine box_event ?hg (N := 2) ?hd (cs := #[.slice A0_0 l0_0.length c0_0, .slice A0_1 l0_1.length c0_1, .slice A0_2 l0_2.length c0_2]) (t := 26) ?hr ?_; (case hd => rfl); (case hg => rfl); (case hr => first | (go_simp; done) | (go_simp; rfl)); intro gb423 hg w6 hbox hb; have n0_ := Aside0.mk (below_step (by repeat (first | (with_reducible first | exact HB.out | apply below_alloc | apply pw_below_drewN | apply below_drew1) | exact HB.out)) hb); have n1_ := Aside0.mk (hbox); have n2_ := Aside0.mk ((by rw [hg]; exact (below_size (by repeat (first | (with_reducible first | exact HB.out | apply below_alloc | apply pw_below_drewN | apply below_drew1) | exact HB.out))) : w.heap.size ≤ gb423)); have n3_ := Aside0.mk ((by rw [hg]; exact (below_size (by repeat (first | (with_reducible first | exact HB.out | apply below_alloc | apply pw_below_drewN | apply below_drew1) | exact HB.out))) : w.heap.size ≤ gb423)); clear HB; have HB := n0_; have BK423 := n1_; have GW423 := n2_; have GE423 := n3_; clear n0_ n1_ n2_ n3_; clear hb hbox hg; have hcz7_0 : w6.cell? ⟨gb423, 0, none⟩ = some (.slice A0_0 l0_0.length c0_0) := (blk_cell BK423.out 0).trans rfl; have hcz7_1 : w6.cell? ⟨gb423, 1, none⟩ = some (.slice A0_1 l0_1.length c0_1) := (blk_cell BK423.out 1).trans rfl; have hcz7_2 : w6.cell? ⟨gb423, 2, none⟩ = some (.slice A0_2 l0_2.length c0_2) := (blk_cell BK423.out 2).trans rfl; have hfz7_0 := blk_frozen BK423.out 0; have hfz7_1 := blk_frozen BK423.out 1; have hfz7_2 := blk_frozen BK423.out 2) | ((with_reducible refine gate_callee (f := 19) rfl ?_); refine goesL_ (some 8) rfl rfl Try.func19 (by kernel_rfl) rfl #[.agg #[.slice A0_0 l0_0.length c0_0, .slice A0_1 l0_1.length c0_1, .slice A0_2 l0_2.length c0_2]] rfl (by (try simp only [List.map_toArray, List.map_cons, List.map_nil]); first | done | rfl | (simp only [List.length_drop, List.length_take]; rfl)) ?_; (with_reducible refine (laganref04_CheckBoard.calls k _ _ l0_0 _ _ l0_1 _ _ l0_2 t424 _ ?side1 ?side2 ?side3 ?side4 ?side5 ?side6 A3.out).mono ?_); (case side1 => repeat (first | exact (Kd.C_below HR0_0.out HB.out) | (with_reducible refine Kd.C_alloc ?_ _) | (with_reducible refine Kd.C_drewN ?_ _) | (with_reducible refine Kd.C_drew ?_))); (case side2 => exact HC0_0.out); (case side3 => repeat (first | exact (Kd.C_below HR0_1.out HB.out) | (with_reducible refine Kd.C_alloc ?_ _) | (with_reducible refine Kd.C_drewN ?_ _) | (with_reducible refine Kd.C_drew ?_))); (case side4 => exact HC0_1.out); (case side5 => repeat (first | exact (Kd.C_below HR0_2.out HB.out) | (with_reducible refine Kd.C_alloc ?_ _) | (with_reducible refine Kd.C_drewN ?_ _) | (with_reducible refine Kd.C_drew ?_))); (case side6 => exact HC0_2.out); rintro e w8 ⟨rfl, hb⟩; refine ⟨_, rfl, ?_⟩; have n0_ := Aside0.mk (blk_below (g := gb423) (o := .cells #[.slice A0_0 l0_0.length c0_0, .slice A0_1 l0_1.length c0_1, .slice A0_2 l0_2.length c0_2] 26 (0, 0)) (by (with_reducible repeat (first | refine blk_drewN ?_ _ | refine blk_drew ?_ | refine blk_alloc ?_ _)); exact BK423.out) hb); have n1_ := Aside0.mk (below_step (by repeat (first | (with_reducible first | exact HB.out | apply below_alloc | apply pw_below_drewN | apply below_drew1 | refine below_set ?_ GE423.out) | exact HB.out)) hb); clear BK423; clear HB; have BK423 := n0_; have HB := n1_; clear n0_ n1_; (try clear hb); (try clear hb2); (try clear hk); (try clear hi); have hcz9_0 : w8.cell? ⟨gb423, 0, none⟩ = some (.slice A0_0 l0_0.length c0_0) := (blk_cell BK423.out 0).trans rfl; have hcz9_1 : w8.cell? ⟨gb423, 1, none⟩ = some (.slice A0_1 l0_1.length c0_1) := (blk_cell BK423.out 1).trans rfl; have hcz9_2 : w8.cell? ⟨gb423, 2, none⟩ = some (.slice A0_2 l0_2.length c0_2) := (blk_cell BK423.out 2).trans rfl; have hfz9_0 := blk_frozen BK423.out 0; have hfz9_1 := blk_frozen BK423.out 1; have hfz9_2 := blk_frozen BK423.out 2) | (go_at_call 71; (with_reducible refine (laganref04_meets.calls k _ _ l0_0 _ _ l0_1 _ _ l0_2 _ _ l1 t425 _ ?side1 ?side2 ?side3 ?side4 ?side5 ?side6 ?side7 ?side8 A5.out).mono ?_); (case side1 => repeat (first | exact (Kd.C_below HR0_0.out HB.out) | (with_reducible refine Kd.C_alloc ?_ _) | (with_reducible refine Kd.C_drewN ?_ _) | (with_reducible refine Kd.C_drew ?_))); (case side2 => exact HC0_0.out); (case side3 => repeat (first | exact (Kd.C_below HR0_1.out HB.out) | (with_reducible refine Kd.C_alloc ?_ _) | (with_reducible refine Kd.C_drewN ?_ _) | (with_reducible refine Kd.C_drew ?_))); (case side4 => exact HC0_1.out); (case side5 => repeat (first | exact (Kd.C_below HR0_2.out HB.out) | (with_reducible refine Kd.C_alloc ?_ _) | (with_reducible refine Kd.C_drewN ?_ _) | (with_reducible refine Kd.C_drew ?_))); (case side6 => exact HC0_2.out); (case side7 => repeat (first | exact (Kd.C_below HR1.out HB.out) | (with_reducible refine Kd.C_alloc ?_ _) | (with_reducible refine Kd.C_drewN ?_ _) | (with_reducible refine Kd.C_drew ?_))); (case side8 => exact HC1.out); rintro e w10 ⟨rfl, hb⟩; have n0_ := Aside0.mk (blk_below (g := gb423) (o := .cells #[.slice A0_0 l0_0.length c0_0, .slice A0_1 l0_1.length c0_1, .slice A0_2 l0_2.length c0_2] 26 (0, 0)) (by (with_reducible repeat (first | refine blk_drewN ?_ _ | refine blk_drew ?_ | refine blk_alloc ?_ _)); exact BK423.out) hb); have n1_ := Aside0.mk (below_step (by repeat (first | (with_reducible first | exact HB.out | apply below_alloc | apply pw_below_drewN | apply below_drew1 | refine below_set ?_ GE423.out) | exact HB.out)) hb); clear BK423; clear HB; have BK423 := n0_; have HB := n1_; clear n0_ n1_; (try clear hb); (try clear hb2); (try clear hk); (try clear hi)))
  go_ret2
  exact ⟨by first | rfl | (simp [errW_none, errW_some] <;> rfl) | (simp [*, errW_none, errW_some] <;> rfl), by repeat (first | (with_reducible first | exact HB.out | apply below_alloc | apply pw_below_drewN | apply below_drew1 | refine below_set ?_ GE423.out) | exact HB.out)⟩
 ·
  rw [if_neg c4] at H
  have c4b0 : (t424 == 0) = false := beq_eq_false_iff_ne.mpr c4
  have c4b1 : (t424 != 0) = true := bne_iff_ne.mpr c4
  simp only [Option.some.injEq, Prod.mk.injEq] at H
  obtain ⟨rfl, rfl⟩ := H
  go_enter Try.func34, Try.ntmps34
  go_wp2_with (first | ((with_reducible refine gate_dst (N := 2) rfl ?_); refine box_event ?hg (N := 2) ?hd (cs := #[.slice A0_0 l0_0.length c0_0, .slice A0_1 l0_1.length c0_1, .slice A0_2 l0_2.length c0_2]) (t := 26) ?hr ?_; (case hd => rfl); (case hg => rfl); (case hr => first | (go_simp; done) | (go_simp; rfl)); intro gb423 hg w11 hbox hb; have n0_ := Aside0.mk (below_step (by repeat (first | (with_reducible first | exact HB.out | apply below_alloc | apply pw_below_drewN | apply below_drew1) | exact HB.out)) hb); have n1_ := Aside0.mk (hbox); have n2_ := Aside0.mk ((by rw [hg]; exact (below_size (by repeat (first | (with_reducible first | exact HB.out | apply below_alloc | apply pw_below_drewN | apply below_drew1) | exact HB.out))) : w.heap.size ≤ gb423)); have n3_ := Aside0.mk ((by rw [hg]; exact (below_size (by repeat (first | (with_reducible first | exact HB.out | apply below_alloc | apply pw_below_drewN | apply below_drew1) | exact HB.out))) : w.heap.size ≤ gb423)); clear HB; have HB := n0_; have BK423 := n1_; have GW423 := n2_; have GE423 := n3_; clear n0_ n1_ n2_ n3_; clear hb hbox hg; have hcz12_0 : w11.cell? ⟨gb423, 0, none⟩ = some (.slice A0_0 l0_0.length c0_0) := (blk_cell BK423.out 0).trans rfl; have hcz12_1 : w11.cell? ⟨gb423, 1, none⟩ = some (.slice A0_1 l0_1.length c0_1) := (blk_cell BK423.out 1).trans rfl; have hcz12_2 : w11.cell? ⟨gb423, 2, none⟩ = some (.slice A0_2 l0_2.length c0_2) := (blk_cell BK423.out 2).trans rfl; have hfz12_0 := blk_frozen BK423.out 0; have hfz12_1 := blk_frozen BK423.out 1; have hfz12_2 := blk_frozen BK423.out 2) | ((with_reducible refine gate_callee (f := 19) rfl ?_); refine goesL_ (some 8) rfl rfl Try.func19 (by kernel_rfl) rfl #[.agg #[.slice A0_0 l0_0.length c0_0, .slice A0_1 l0_1.length c0_1, .slice A0_2 l0_2.length c0_2]] rfl (by (try simp only [List.map_toArray, List.map_cons, List.map_nil]); first | done | rfl | (simp only [List.length_drop, List.length_take]; rfl)) ?_; (with_reducible refine (laganref04_CheckBoard.calls k _ _ l0_0 _ _ l0_1 _ _ l0_2 t424 _ ?side1 ?side2 ?side3 ?side4 ?side5 ?side6 A3.out).mono ?_); (case side1 => repeat (first | exact (Kd.C_below HR0_0.out HB.out) | (with_reducible refine Kd.C_alloc ?_ _) | (with_reducible refine Kd.C_drewN ?_ _) | (with_reducible refine Kd.C_drew ?_))); (case side2 => exact HC0_0.out); (case side3 => repeat (first | exact (Kd.C_below HR0_1.out HB.out) | (with_reducible refine Kd.C_alloc ?_ _) | (with_reducible refine Kd.C_drewN ?_ _) | (with_reducible refine Kd.C_drew ?_))); (case side4 => exact HC0_1.out); (case side5 => repeat (first | exact (Kd.C_below HR0_2.out HB.out) | (with_reducible refine Kd.C_alloc ?_ _) | (with_reducible refine Kd.C_drewN ?_ _) | (with_reducible refine Kd.C_drew ?_))); (case side6 => exact HC0_2.out); rintro e w13 ⟨rfl, hb⟩; refine ⟨_, rfl, ?_⟩; have n0_ := Aside0.mk (blk_below (g := gb423) (o := .cells #[.slice A0_0 l0_0.length c0_0, .slice A0_1 l0_1.length c0_1, .slice A0_2 l0_2.length c0_2] 26 (0, 0)) (by (with_reducible repeat (first | refine blk_drewN ?_ _ | refine blk_drew ?_ | refine blk_alloc ?_ _)); exact BK423.out) hb); have n1_ := Aside0.mk (below_step (by repeat (first | (with_reducible first | exact HB.out | apply below_alloc | apply pw_below_drewN | apply below_drew1 | refine below_set ?_ GE423.out) | exact HB.out)) hb); clear BK423; clear HB; have BK423 := n0_; have HB := n1_; clear n0_ n1_; (try clear hb); (try clear hb2); (try clear hk); (try clear hi)))
  go_ret2
  exact ⟨by first | rfl | (simp [errW_none, errW_some] <;> rfl) | (simp [*, errW_none, errW_some] <;> rfl), by repeat (first | (with_reducible first | exact HB.out | apply below_alloc | apply pw_below_drewN | apply below_drew1 | refine below_set ?_ GE423.out) | exact HB.out)⟩
end Go.Proofs.Ytkmmihadcbfkoaa.PM
end

section
namespace Go.Proofs.Ytkmmihadcbfkoaa
open Go.RowKit Go.Proofs.YtkmmihadcbfkoaaW.PrintWords PM
set_option linter.unusedVariables false
set_option linter.unusedSimpArgs false
abbrev Key := Int × Int × Int
def keyV (k : Key) : Value := .agg #[.int .i64 k.1, .int .i64 k.2.1, .int .i64 k.2.2]
theorem run_checkKey (empty : Bool) (k : Key) (w : World) : (Instr.checkKey empty 10000 50 (keyV k)).run Try.prog w = .ok () w := by kernel_rfl
theorem run_equal_key (k q : Key) (w : World) : (Op.equal 50 (keyV k) (keyV q)).run Try.prog w = .ok (decide (k = q)) w := by
  have h := eqA50 9998 w k.1 q.1 k.2.1 q.2.1 k.2.2 q.2.2
  have e : (k.1 == q.1 && (k.2.1 == q.2.1 && k.2.2 == q.2.2)) = decide (k = q) := by
    obtain ⟨a, b, c⟩ := k
    obtain ⟨a', b', c'⟩ := q
    rw [Bool.eq_iff_iff]
    simp
  rw [← e]
  exact h
/-- Block m is a map that is the set of these keys. -/
def SetMap (w : World) (m : Nat) (ks : List Key) : Prop := ∃ es clock, w.heap[m]? = some (.map es clock) ∧ es.toList.map (fun e => (e.key, e.val)) = ks.map fun k => (keyV k, Value.bool true)
theorem run_findAsking (k : Key) : ∀ (es : List MapEntry) (ks : List Key) (i : Nat) (w : World), es.map (fun e => (e.key, e.val)) = ks.map (fun k => (keyV k, Value.bool true)) →
    (k ∈ ks → ∃ j, (Instr.findAsking 50 (keyV k) es i).run Try.prog w = .ok (some (j, .bool true)) w) ∧ (k ∉ ks → (Instr.findAsking 50 (keyV k) es i).run Try.prog w = .ok none w)
  | [], ks, i, w, h => by
    have : ks = [] := by cases ks with | nil => rfl | cons _ _ => simp at h
    subst this
    exact ⟨fun h => absurd h (by simp), fun _ => rfl⟩
  | e :: es, [], i, w, h => by simp at h
  | e :: es, q :: ks, i, w, h => by
    simp only [List.map_cons, List.cons.injEq, Prod.mk.injEq] at h
    obtain ⟨⟨h1, h2⟩, h3⟩ := h
    have ih := run_findAsking k es ks (i + 1) w h3
    have hq := run_equal_key k q w
    by_cases e0 : k = q
    · refine ⟨fun _ => ⟨i, ?_⟩, fun hn => absurd (by simp [e0]) hn⟩
      subst e0
      simp only [Instr.findAsking, h1, h2]
      simp [hq, go_sem]
    · refine ⟨fun hm => ?_, fun hn => ?_⟩
      · obtain ⟨j, hj⟩ := ih.1 (by simpa [e0] using hm)
        refine ⟨j, ?_⟩
        simp only [Instr.findAsking, h1, h2]
        simp [hq, e0, hj, go_sem]
      · have hj := ih.2 (by simpa [e0] using hn)
        simp only [Instr.findAsking, h1, h2]
        simp [hq, e0, hj, go_sem]
theorem run_findKey (k : Key) (es : List MapEntry) (ks : List Key) (w : World) (h : es.map (fun e => (e.key, e.val)) = ks.map (fun k => (keyV k, Value.bool true))) :
    (k ∈ ks → ∃ j, (Instr.findKey 50 (keyV k) es).run Try.prog w = .ok (some (j, .bool true)) w) ∧ (k ∉ ks → (Instr.findKey 50 (keyV k) es).run Try.prog w = .ok none w) := by
  cases es with
  | nil =>
    have : ks = [] := by cases ks with | nil => rfl | cons _ _ => simp at h
    subst this
    refine ⟨fun h => absurd h (by simp), fun _ => ?_⟩
    simp [Instr.findKey, Instr.findNow, run_underlying Try.underlying50]
  | cons e es =>
    have hf := run_findAsking k (e :: es) ks 0 w h
    have key : (Instr.findKey 50 (keyV k) (e :: es)).run Try.prog w = (Instr.findAsking 50 (keyV k) (e :: es)).run Try.prog w := by
      simp [Instr.findKey, Instr.findNow, Instr.sameNow, run_underlying Try.underlying50]
    rw [key]
    exact hf
theorem run_getMap {w : World} {m : Nat} {es : Array MapEntry} {clock : Nat} (h : w.heap[m]? = some (.map es clock)) : (getObj m).run Try.prog w = .ok (.map es clock) w := by
  simp [getObj, Sem.run, h]
theorem run_setMap {w : World} {m : Nat} {es : Array MapEntry} {clock : Nat} (h : w.heap[m]? = some (.map es clock)) (o : Obj) : (setObj m o).run Try.prog w = .ok () (w.putObj m o) := by
  simp [setObj, Sem.run, h, World.putObj]
theorem run_lookup_set (m : Nat) (ks : List Key) (k : Key) (w : World) (h : SetMap w m ks) : (Instr.lookup 97 (.map (some m)) (keyV k) false).run Try.prog w = .ok (.bool (decide (k ∈ ks))) w := by
  obtain ⟨es, clock, hm, he⟩ := h
  have hf := run_findKey k es.toList ks w he
  have hc := run_checkKey es.isEmpty k w
  by_cases hk : k ∈ ks
  · obtain ⟨j, hj⟩ := hf.1 hk
    simp [Instr.lookup, run_underlying Try.underlying97, run_getMap hm, hc, hj, hk, go_sem]
  · have hj := hf.2 hk
    simp [Instr.lookup, run_underlying Try.underlying97, run_getMap hm, hc, hj, hk, go_sem]
theorem run_update_set (m : Nat) (ks : List Key) (k : Key) (w : World) (h : SetMap w m ks) (hk : k ∉ ks) : ∃ w', (Instr.mapUpdate 97 (.map (some m)) (keyV k) (.bool true)).run Try.prog w = .ok () w' ∧ SetMap w' m (ks ++ [k]) ∧ w.grownBy w' (some m) ∧ w'.heap.size = w.heap.size := by
  obtain ⟨es, clock, hm, he⟩ := h
  have hf := run_findKey k es.toList ks w he
  have hc := run_checkKey false k w
  have hj := hf.2 hk
  have hml := (Array.getElem?_eq_some_iff.1 hm).1
  refine ⟨w.putObj m (.map (es.push { key := keyV k, val := .bool true, born := clock }) (clock + 1)), ?_, ⟨_, _, World.putObj_heap_same hml, ?_⟩, grownBy_putObj' _ _ _, ?_⟩
  · simp [Instr.mapUpdate, run_underlying Try.underlying97, run_getMap hm, hc, hj, run_setMap hm, go_sem]
  · simp [he]
  · simp [World.putObj]
theorem run_make_set (w : World) : (Instr.makeMap 97 none).run Try.prog w = .ok (.map (some w.heap.size)) (w.alloc (.map #[] 0)) := by
  simp [Instr.makeMap, run_underlying Try.underlying97, go_sem]
end Go.Proofs.Ytkmmihadcbfkoaa
end

section
namespace Go.Proofs.Ytkmmihadcbfkoaa
open Go.RowKit Go.Proofs.YtkmmihadcbfkoaaW.PrintWords PM
set_option linter.unusedVariables false
set_option linter.unusedSimpArgs false
def CbPost (r : Int) (w : World) (e : Ending) (w' : World) : Prop := e = .returned (.int .i64 r) ∧ Below w.heap.size w w'
/-- Between two rounds of the loop over the slots: the board's box, the map of the keys seen. -/
structure CbRel (S : List S50) (s0 s1 s2 : Value) (m : Nat) (w : World) (k : Nat) (wr : World) : Prop where
  ok : ∀ j, j < k → slotAt S j = true
  box : wr.heap[w.heap.size]? = some (.cells #[s0, s1, s2] 26 (0, 0))
  set : SetMap wr m ((S.take k).map slotKey)
  bl : Below w.heap.size w wr
set_option maxRecDepth 100000 in
set_option maxHeartbeats 8000000 in
theorem checkboard_calls (A0 : Option Addr) (c0 : Nat) (F : List Int) (A1 : Option Addr) (c1 : Nat) (S : List S50) (A2 : Option Addr) (c2 : Nat) (T : List (List Int)) (w : World)
    (hr0 : Kd.C (Kd.int .i64) w A0 F.length F) (hc0 : F.length ≤ c0) (hr1 : Kd.C k50 w A1 S.length S) (hr2 : Kd.C (Kd.slice 3 (Kd.int .i64)) w A2 T.length T) :
    Calls Try.prog 47 #[.agg #[.slice A0 F.length c0, .slice A1 S.length c1, .slice A2 T.length c2]] w (CbPost (checkB F S T) w) := by
  have hB0 := (Below.refl w.heap.size w).alloc (Nat.le_refl _) (.cells #[.slice A0 F.length c0, .slice A1 S.length c1, .slice A2 T.length c2] 26)
  have b0 := World.alloc_heap_new w (.cells #[.slice A0 F.length c0, .slice A1 S.length c1, .slice A2 T.length c2] 26)
  have lF : F.length ≤ 9223372036854775807 := hr0.2.1
  have lS : S.length ≤ 9223372036854775807 := hr1.2.1
  have lT : T.length ≤ 9223372036854775807 := hr2.2.1
  obtain ⟨q, hq⟩ : ∃ q, checkB F S T = q := ⟨_, rfl⟩
  rw [hq]
  unfold checkB at hq
  by_cases h1 : 60 < F.length ∨ 200 < S.length
  · rw [if_pos h1] at hq
    subst hq
    by_cases h2 : 60 < F.length
    · have g1 : decide ((60 : Int) < (F.length : Int)) = true := by simp; omega
      go_enter Try.func47, Try.ntmps47
      go_wp2_with fail
      go_ret
      exact ⟨rfl, hB0⟩
    · have h3 : 200 < S.length := by omega
      have g1 : decide ((60 : Int) < (F.length : Int)) = false := by simp; omega
      have g2 : decide ((200 : Int) < (S.length : Int)) = true := by simp; omega
      go_enter Try.func47, Try.ntmps47
      go_wp2_with fail
      go_ret
      exact ⟨rfl, hB0⟩
  · rw [if_neg h1] at hq
    have g1 : decide ((60 : Int) < (F.length : Int)) = false := by simp; omega
    have g2 : decide ((200 : Int) < (S.length : Int)) = false := by simp; omega
    have HQ := Go.Lib.hid hq
    have HR0 := Go.Lib.hid hr0
    have HR1 := Go.Lib.hid hr1
    have HR2 := Go.Lib.hid hr2
    have HB0 := Go.Lib.hid hB0
    have hl1 : F.length ≤ 60 := by omega
    have hl2 : S.length ≤ 200 := by omega
    have RC := rising_calls A0 c0 F 10 10000007 _ (Kd.C_below hr0 hB0) hc0 lF
    clear hq hr0 hr1 hr2 hB0 h1
    clear b0
    go_enter Try.func47, Try.ntmps47
    go_wp2_with fail
    refine RC.mono ?_
    clear RC
    rintro e w1 ⟨rfl, hd1⟩
    have b1 : w1.heap[w.heap.size]? = some (.cells #[.slice A0 F.length c0, .slice A1 S.length c1, .slice A2 T.length c2] 26 (0, 0)) := by
      rw [hd1.below.block w.heap.size (by simp)]
      exact World.alloc_heap_new w _
    have k0 := cell_of_heap b1 (j := 0) rfl
    have k1 := cell_of_heap b1 (j := 1) rfl
    have k2 := cell_of_heap b1 (j := 2) rfl
    have hB1 : Below w.heap.size w w1 := HB0.out.trans (hd1.below.mono HB0.out.size)
    have HB1 := Go.Lib.hid hB1
    have BX1 := Go.Lib.hid b1
    clear hB1 b1 hd1
    cases hrs : risB F 10 10000007 with
    | false =>
      have HQ1 : q = 1 := by have := HQ.out; rw [if_pos (Or.inl hrs)] at this; exact this.symm
      subst HQ1
      clear hrs
      go_wp2_with fail
      go_ret
      exact ⟨rfl, HB1.out⟩
    | true =>
      have HRS := Go.Lib.hid hrs
      clear hrs
      by_cases hn : T.length = F.length
      · obtain ⟨m, W2, hm, hset, hB2, hml, b2⟩ : ∃ m W2, (Instr.makeMap 97 none).run Try.prog w1 = .ok (.map (some m)) W2 ∧ SetMap W2 m [] ∧ Below w.heap.size w W2 ∧ w.heap.size < m ∧ W2.heap[w.heap.size]? = w1.heap[w.heap.size]? :=
          ⟨_, _, run_make_set w1, ⟨#[], 0, World.alloc_heap_new _ _, rfl⟩, HB1.out.alloc HB1.out.size _, (Array.getElem?_eq_some_iff.1 BX1.out).1, ((Below.refl w1.heap.size w1).alloc (Nat.le_refl _) _).block _ (Array.getElem?_eq_some_iff.1 BX1.out).1⟩
        rw [BX1.out] at b2
        have j1 := cell_of_heap b2 (j := 1) rfl
        have g3 : decide ((T.length : Int) = (F.length : Int)) = true := by simp; omega
        have REL0 : CbRel S (.slice A0 F.length c0) (.slice A1 S.length c1) (.slice A2 T.length c2) m w 0 W2 := ⟨fun j hj => absurd hj (by omega), b2, hset, hB2⟩
        have REL := Go.Lib.hid REL0
        clear hset hB2 b2 REL0
        go_wp2_with fail
        go_loopw [34] (fun i wr => ∃ k : Nat, k ≤ S.length ∧ i = .int .i64 k ∧ Hid (CbRel S (.slice A0 F.length c0) (.slice A1 S.length c1) (.slice A2 T.length c2) m w k wr)) (fun i _ => S.length - (intOf i).toNat)
        case atStart => exact ⟨0, Nat.zero_le _, rfl, REL⟩
        case round =>
          obtain ⟨k, hk, rfl, HID⟩ := hrel
          by_cases hlt : k < S.length
          · obtain ⟨hok, hbx, hset, hbl⟩ := HID.out
            obtain ⟨a9, e9, x0, x1, x2⟩ := at_T50 (Kd.C_below HR1.out hbl) (k : Int) (by omega) (by omega)
            rw [Int.toNat_natCast] at x0 x1 x2
            obtain ⟨s9, hs9⟩ : ∃ s9, rd_T50 S (k : Int) = s9 := ⟨_, rfl⟩
            rw [hs9] at x0 x1 x2
            have hs9' : S.getD k z50 = s9 := by rw [← hs9]; simp [rd_T50]
            have b4 := World.alloc_heap_new wr (.cells #[.int .i64 s9.f0, .int .i64 s9.f1, .int .i64 s9.f2] 50)
            have y0 := cell_of_heap b4 (j := 0) rfl
            have y1 := cell_of_heap b4 (j := 1) rfl
            have y2 := cell_of_heap b4 (j := 2) rfl
            have IC0 := in_calls s9.f0 1 20 (wr.alloc (.cells #[.int .i64 s9.f0, .int .i64 s9.f1, .int .i64 s9.f2] 50))
            have HS9 := Go.Lib.hid hs9'
            have HOK := Go.Lib.hid hok
            have HBX := Go.Lib.hid hbx
            have HSET := Go.Lib.hid hset
            have HBL := Go.Lib.hid hbl
            have hbad : slotAt S k = false → slotsB S = false := fun e => by
              unfold slotsB
              rw [List.all_eq_false]
              exact ⟨k, List.mem_range.2 hlt, by rw [e]; decide⟩
            have hq1 : slotAt S k = false → q = 1 := fun e => by
              have := HQ.out
              rw [if_neg (by rw [HRS.out, hn]; simp), if_pos (hbad e)] at this
              exact this.symm
            have HQ1 := Go.Lib.hid hq1
            clear hs9 hs9' hok hbx hset hbl HID hbad hq1
            subst e9
            go_wp2_with fail
            refine IC0.mono ?_
            clear IC0
            rintro e w5 ⟨rfl, hd5⟩
            have hB5 : Below w.heap.size w w5 ∧ Below wr.heap.size wr w5 ∧ w5.heap[wr.heap.size]? = some (.cells #[.int .i64 s9.f0, .int .i64 s9.f1, .int .i64 s9.f2] 50 (0, 0)) := by
              have h1 := ((Below.refl wr.heap.size wr).alloc (Nat.le_refl _) (.cells #[.int .i64 s9.f0, .int .i64 s9.f1, .int .i64 s9.f2] 50)).trans (hd5.below.mono (by simp))
              exact ⟨HBL.out.trans (h1.mono HBL.out.size), h1, (hd5.below.block _ (by simp)).trans (World.alloc_heap_new _ _)⟩
            have y1 := cell_of_heap hB5.2.2 (j := 1) rfl
            have IC1 := in_calls s9.f1 1 200 w5
            have HB5 := Go.Lib.hid hB5
            clear hB5 hd5 y0
            cases hi0 : inB s9.f0 1 20 with
            | false =>
              have hq : q = 1 := HQ1.out (by unfold slotAt slotIn; rw [HS9.out, hi0]; simp)
              subst hq
              clear hi0
              go_wp2_with fail
              go_ret
              exact ⟨rfl, HB5.out.1⟩
            | true =>
              have HI0 := Go.Lib.hid hi0
              clear hi0
              go_wp2_with fail
              refine IC1.mono ?_
              clear IC1
              rintro e w6 ⟨rfl, hd6⟩
              have hB6 : Below w.heap.size w w6 ∧ Below wr.heap.size wr w6 ∧ w6.heap[wr.heap.size]? = some (.cells #[.int .i64 s9.f0, .int .i64 s9.f1, .int .i64 s9.f2] 50 (0, 0)) :=
                ⟨HB5.out.1.trans (hd6.below.mono HB5.out.1.size), HB5.out.2.1.trans (hd6.below.mono HB5.out.2.1.size), (hd6.below.block _ (Array.getElem?_eq_some_iff.1 HB5.out.2.2).1).trans HB5.out.2.2⟩
              have y2 := cell_of_heap hB6.2.2 (j := 2) rfl
              have IC2 := in_calls s9.f2 1 20 w6
              have HB6 := Go.Lib.hid hB6
              clear hB6 hd6 y1
              cases hi1 : inB s9.f1 1 200 with
              | false =>
                have hq : q = 1 := HQ1.out (by unfold slotAt slotIn; rw [HS9.out, hi1]; simp)
                subst hq
                clear hi1
                go_wp2_with fail
                go_ret
                exact ⟨rfl, HB6.out.1⟩
              | true =>
                have HI1 := Go.Lib.hid hi1
                clear hi1
                go_wp2_with fail
                refine IC2.mono ?_
                clear IC2
                rintro e w7 ⟨rfl, hd7⟩
                have hB7 : Below w.heap.size w w7 ∧ Below wr.heap.size wr w7 ∧ w7.heap[wr.heap.size]? = some (.cells #[.int .i64 s9.f0, .int .i64 s9.f1, .int .i64 s9.f2] 50 (0, 0)) :=
                  ⟨HB6.out.1.trans (hd7.below.mono HB6.out.1.size), HB6.out.2.1.trans (hd7.below.mono HB6.out.2.1.size), (hd7.below.block _ (Array.getElem?_eq_some_iff.1 HB6.out.2.2).1).trans HB6.out.2.2⟩
                have y0 := cell_of_heap hB7.2.2 (j := 0) rfl
                have y1 := cell_of_heap hB7.2.2 (j := 1) rfl
                have HB7 := Go.Lib.hid hB7
                clear hB7 hd7 y2
                cases hi2 : inB s9.f2 1 20 with
                | false =>
                  have hq : q = 1 := HQ1.out (by unfold slotAt slotIn; rw [HS9.out, hi2]; simp)
                  subst hq
                  clear hi2
                  go_wp2_with fail
                  go_ret
                  exact ⟨rfl, HB7.out.1⟩
                | true =>
                  have HI2 := Go.Lib.hid hi2
                  clear hi2
                  go_wp2_with fail
                  obtain ⟨W8, hW8⟩ : ∃ W8, w7.alloc (.cells #[.int .i64 s9.f0, .int .i64 s9.f1, .int .i64 0] 50) = W8 := ⟨_, rfl⟩
                  have hB8 : Below w.heap.size w W8 ∧ Below wr.heap.size wr W8 ∧ W8.heap[wr.heap.size]? = some (.cells #[.int .i64 s9.f0, .int .i64 s9.f1, .int .i64 s9.f2] 50 (0, 0)) ∧ W8.heap[w7.heap.size]? = some (.cells #[.int .i64 s9.f0, .int .i64 s9.f1, .int .i64 0] 50 (0, 0)) := by
                    rw [← hW8]
                    exact ⟨HB7.out.1.alloc HB7.out.1.size _, HB7.out.2.1.alloc HB7.out.2.1.size _, (Below.heap_alloc _ _ _ (Array.getElem?_eq_some_iff.1 HB7.out.2.2).1).trans HB7.out.2.2, World.alloc_heap_new _ _⟩
                  have hbx8 := (hB8.2.1.block w.heap.size (Array.getElem?_eq_some_iff.1 HBX.out).1).trans HBX.out
                  obtain ⟨d, hd⟩ : ∃ d, decide (slotKey s9 ∈ (S.take k).map slotKey) = d := ⟨_, rfl⟩
                  have hset8 : ∀ n, SetMap (W8.drewN n) m ((S.take k).map slotKey) := by
                    intro n
                    obtain ⟨es, ck, h1, h2⟩ := HSET.out
                    exact ⟨es, ck, (hB8.2.1.block m (Array.getElem?_eq_some_iff.1 h1).1).trans h1, h2⟩
                  have hL : ∀ n, (Instr.lookup 97 (.map (some m)) (.agg #[.int .i64 s9.f0, .int .i64 s9.f1, .int .i64 0]) false).run Try.prog (W8.drewN n) = .ok (.bool d) (W8.drewN n) := by
                    intro n
                    rw [← hd]
                    exact run_lookup_set m _ (slotKey s9) _ (hset8 n)
                  have y0 := cell_of_heap hB8.2.2.1 (j := 0) rfl
                  have y1 := cell_of_heap hB8.2.2.1 (j := 1) rfl
                  have z0 := cell_of_heap hB8.2.2.2 (j := 0) rfl
                  have z1 := cell_of_heap hB8.2.2.2 (j := 1) rfl
                  have z2 := cell_of_heap hB8.2.2.2 (j := 2) rfl
                  have j1 := cell_of_heap hbx8 (j := 1) rfl
                  have HC8 := Go.Lib.hid (Kd.C_below HR1.out hB8.1)
                  have HB8 := Go.Lib.hid hB8
                  have HBX8 := Go.Lib.hid hbx8
                  have HSET8 := Go.Lib.hid hset8
                  have HD := Go.Lib.hid hd
                  obtain ⟨b7, hb7⟩ : ∃ b7, w7.heap.size = b7 := ⟨_, rfl⟩
                  rw [hW8, hb7]
                  rw [hb7] at z0 z1 z2
                  clear hb7 hW8 hB8 hbx8 hset8 hd
                  cases d with
                  | true =>
                    have hq : q = 1 := HQ1.out (by unfold slotAt; rw [HS9.out, HD.out]; simp)
                    subst hq
                    go_quiet (fail)
                    go_wp2_with fail
                    go_ret
                    exact ⟨rfl, (pw_below_drewN HB8.out.1 _)⟩
                  | false =>
                    have hnk : slotKey s9 ∉ (S.take k).map slotKey := by simpa using HD.out
                    obtain ⟨U, hUU⟩ := Classical.axiomOfChoice (fun n => run_update_set m _ (slotKey s9) _ (HSET8.out n) hnk)
                    have hU := fun n => (hUU n).1
                    have hUs := fun n => (hUU n).2.1
                    have hUg := fun n => (hUU n).2.2.1
                    have htk : (S.take (k + 1)).map slotKey = (S.take k).map slotKey ++ [slotKey s9] := by
                      rw [List.take_succ_eq_append_getElem hlt, List.map_append, ← HS9.out]
                      simp [List.getD_eq_getElem?_getD, List.getElem?_eq_getElem hlt]
                    have hnext : ∀ n, slotAt S k = true → CbRel S (.slice A0 F.length c0) (.slice (some a9) S.length c1) (.slice A2 T.length c2) m w (k + 1) (U n) := by
                      intro n hs
                      have hBn := pw_below_drewN HB8.out.1 n
                      refine ⟨fun j hj => ?_, ?_, ?_, hBn.grown (hUg n) hBn.size (fun j hj => by cases hj; omega)⟩
                      · rcases Nat.lt_succ_iff_lt_or_eq.1 hj with h | h
                        · exact HOK.out j h
                        · rw [h]; exact hs
                      · rw [(hUg n).block w.heap.size (Array.getElem?_eq_some_iff.1 HBX8.out).1 (by simp; omega)]
                        exact HBX8.out
                      · rw [htk]; exact hUs n
                    have hU' : ∀ n, (Instr.mapUpdate 97 (.map (some m)) (.agg #[.int .i64 s9.f0, .int .i64 s9.f1, .int .i64 0]) (.bool true)).run Try.prog (W8.drewN n) = .ok () (U n) := hU
                    have NEXT := Go.Lib.hid hnext
                    have hsl : slotIn s9 = true := by unfold slotIn; rw [HI0.out, HI1.out, HI2.out]; rfl
                    have HSL := Go.Lib.hid hsl
                    clear hnk hUU hU hUs hUg htk hnext hsl
                    by_cases hk0 : k = 0
                    · have g5 : decide ((0 : Int) < (k : Int)) = false := by simp; omega
                      go_quiet (fail)
                      go_wp2_with fail
                      go_roundw
                      case rel => exact ⟨k + 1, by omega, by subst hk0; rfl, NEXT.out _ (by unfold slotAt slotBack; rw [HS9.out, HD.out, HSL.out, decide_eq_false (by omega)]; rfl)⟩
                      case measure => simp [intOf]; omega
                    · have g5 : decide ((0 : Int) < (k : Int)) = true := by simp; omega
                      have hkp : 0 < k := by omega
                      have g6 : IntKind.i64.wrap ((k : Int) - 1) = ((k - 1 : Nat) : Int) := by
                        rw [IntKind.wrap_i64]; omega
                      have hlt7 : k - 1 < S.length := by omega
                      obtain ⟨a7, e7, v0, v1, v2⟩ := at_T50 HC8.out ((k - 1 : Nat) : Int) (by omega) (by omega)
                      injection e7 with e7
                      subst e7
                      rw [Int.toNat_natCast] at v0 v1 v2
                      obtain ⟨s7, hs7⟩ : ∃ s7, rd_T50 S ((k - 1 : Nat) : Int) = s7 := ⟨_, rfl⟩
                      rw [hs7] at v0 v1 v2
                      have hs7' : S.getD (k - 1) z50 = s7 := by rw [← hs7]; simp [rd_T50]
                      have HS7 := Go.Lib.hid hs7'
                      clear hs7 hs7'
                      by_cases hlt0 : s9.f0 < s7.f0
                      · have g7 : decide (s9.f0 < s7.f0) = true := by simpa using hlt0
                        have hq : q = 1 := HQ1.out (by unfold slotAt slotBack; rw [HS9.out, HS7.out, HD.out, HSL.out, g7, decide_eq_true (show 0 < k from by omega)]; rfl)
                        subst hq
                        go_quiet (fail)
                        go_wp2_with fail
                        go_ret
                        exact ⟨rfl, (pw_below_drewN HB8.out.1 _)⟩
                      · have g7 : decide (s9.f0 < s7.f0) = false := by simpa using hlt0
                        by_cases heq0 : s9.f0 = s7.f0
                        · have g8 : decide (s9.f0 = s7.f0) = true := by simpa using heq0
                          rw [← heq0] at v0
                          clear heq0
                          by_cases hlt1 : s9.f1 < s7.f1
                          · have g9 : decide (s9.f1 < s7.f1) = true := by simpa using hlt1
                            have hq : q = 1 := HQ1.out (by unfold slotAt slotBack; rw [HS9.out, HS7.out, HD.out, HSL.out, g7, g8, g9, decide_eq_true (show 0 < k from by omega)]; rfl)
                            subst hq
                            go_quiet (fail)
                            go_wp2_with fail
                            go_ret
                            exact ⟨rfl, (pw_below_drewN HB8.out.1 _)⟩
                          · have g9 : decide (s9.f1 < s7.f1) = false := by simpa using hlt1
                            go_quiet (fail)
                            go_wp2_with fail
                            go_roundw
                            case rel => exact ⟨k + 1, by omega, by simp, NEXT.out _ (by unfold slotAt slotBack; rw [HS9.out, HS7.out, HD.out, HSL.out, g7, g8, g9]; simp)⟩
                            case measure => simp [intOf]; omega
                        · have g8 : decide (s9.f0 = s7.f0) = false := by simpa using heq0
                          go_quiet (fail)
                          go_wp2_with fail
                          go_roundw
                          case rel => exact ⟨k + 1, by omega, by simp, NEXT.out _ (by unfold slotAt slotBack; rw [HS9.out, HS7.out, HD.out, HSL.out, g7, g8]; simp)⟩
                          case measure => simp [intOf]; omega
          · obtain rfl : k = S.length := by omega
            obtain ⟨hok, hbx, hset, hbl⟩ := HID.out
            have hsB : slotsB S = true := by
              unfold slotsB
              rw [List.all_eq_true]
              exact fun j hj => hok j (List.mem_range.1 hj)
            have j2 := cell_of_heap hbx (j := 2) rfl
            have j1 := cell_of_heap hbx (j := 1) rfl
            have CC := contfunc_calls A2 c2 T w.heap.size A1 S.length c1 wr j1 hl2 (Kd.C_below HR2.out hbl) (by omega)
            have hq := HQ.out
            rw [if_neg (by rw [HRS.out, hn]; simp), if_neg (by rw [hsB]; simp)] at hq
            obtain ⟨f, hf⟩ : ∃ f, fitsB S T = f := ⟨_, rfl⟩
            rw [hf] at hq
            unfold fitsB at hf
            rw [hf] at CC
            have HBL := Go.Lib.hid hbl
            clear hok hbx hset hbl hsB hf HID
            rw [hn] at CC j2
            cases f with
            | true =>
              obtain rfl : q = 0 := by simpa using hq.symm
              rw [Bool.not_true] at CC
              clear hq
              go_wp2_with fail
              refine CC.mono ?_
              clear CC
              rintro e w9 ⟨rfl, hd⟩
              have hB9 := HBL.out.trans (hd.below.mono HBL.out.size)
              have HB9 := Go.Lib.hid hB9
              clear hB9 hd
              go_wp2_with fail
              go_ret
              exact ⟨rfl, HB9.out⟩
            | false =>
              obtain rfl : q = 1 := by simpa using hq.symm
              rw [Bool.not_false] at CC
              clear hq
              go_wp2_with fail
              refine CC.mono ?_
              clear CC
              rintro e w9 ⟨rfl, hd⟩
              have hB9 := HBL.out.trans (hd.below.mono HBL.out.size)
              have HB9 := Go.Lib.hid hB9
              clear hB9 hd
              go_wp2_with fail
              go_ret
              exact ⟨rfl, HB9.out⟩
      · have g3 : decide ((T.length : Int) = (F.length : Int)) = false := by simp; omega
        have HQ1 : q = 1 := by have := HQ.out; rw [if_pos (Or.inr hn)] at this; exact this.symm
        subst HQ1
        go_wp2_with fail
        go_ret
        exact ⟨rfl, HB1.out⟩
end Go.Proofs.Ytkmmihadcbfkoaa
end

section
namespace Go.Proofs.Ytkmmihadcbfkoaa
open Go.RowKit Go.Proofs.YtkmmihadcbfkoaaW.PrintWords PM
set_option linter.unusedVariables false
set_option linter.unusedSimpArgs false
/-- A trial that is new since world w0: its block, the row of its finds' slots, the row of its rooms. -/
structure TNew (w0 : World) (t : TL) (T : List (List Int)) (room has : List Int) (w : World) : Prop where
  gb : w.heap[t.g]? = some (.cells #[t.s0, .slice t.A1 t.n1 t.c1, .slice t.A2 T.length t.c2, .slice t.Ar room.length t.cr, .slice (some ⟨t.bh, 0, none⟩) t.nh t.ch] 80 (0, 0))
  row : RowAt w t.bh 3 (Value.int .i64) has
  own : w.ownsRow w0.heap.size 3 1 (.slice t.Ar room.length t.cr) room.length (room.map (Value.int .i64))
  ne : (Value.slice t.Ar room.length t.cr).ownBlock ≠ some t.bh
  B : Below w0.heap.size w0 w
  rows : RowsAt w0 t.A2 t.ra t.rc T
  gl : w0.heap.size ≤ t.g
  hl : w0.heap.size ≤ t.bh
  fit : TFit t T room
  len : has.length = t.nh
theorem TNew.stands {w0 w : World} {t : TL} {T : List (List Int)} {room has : List Int} (h : TNew w0 t T room has w) : TStands t T room w := by
  obtain ⟨Ar, cr, e, hs⟩ := mk_stands h.B h.gb h.hl h.row h.own h.ne h.rows
  injection e with e1 e2 e3
  subst e1; subst e3
  exact hs
theorem tried_calls3 (A0 : Option Addr) (c0 : Nat) (F : List Int) (A1 : Option Addr) (c1 : Nat) (S : List S50) (A2 : Option Addr) (c2 : Nat) (T : List (List Int)) (w : World)
    (hk : BOK F S T) (hr1 : Kd.C k50 w A1 S.length S) (hr2 : Kd.C (Kd.slice 3 (Kd.int .i64)) w A2 T.length T) :
    Calls Try.prog 60 #[.agg #[.slice A0 F.length c0, .slice A1 S.length c1, .slice A2 T.length c2]] w fun e w' => ∃ t : TL, e = .returned (.pointer (some ⟨t.g, 0, none⟩)) ∧ TNew w t T (rooms S) (List.replicate F.length (-1)) w' ∧ t.n1 = S.length ∧ t.nh = F.length := by
  have h1 := hk.nf
  have h2 := hk.ns
  obtain ⟨ra, rc, hra⟩ := RowsAt.of_C hr2
  refine (tried_calls A0 F.length c0 A1 c1 S A2 T.length c2 w (by omega) (by omega) hr1).mono ?_
  rintro e w' ⟨g, bh, vr, rfl, hT, hrow, hB⟩
  have hlr : (rooms S).length = S.length := by simp [rooms]
  obtain ⟨Ar, cr, rfl, hst⟩ := mk_stands hB hT.gb hT.hl hrow hT.room hT.ne hra
  exact ⟨{ g := g, bh := bh, s0 := .slice A0 F.length c0, A1 := A1, n1 := S.length, c1 := c1, A2 := A2, c2 := c2, ra := ra, rc := rc, Ar := Ar, cr := cr, nh := F.length, ch := F.length }, rfl,
    ⟨hT.gb, hrow, hT.room, hT.ne, hB, hra, hT.gl, hT.hl, ⟨hk.slot, hlr, fun i hi => Nat.le_trans (hk.row i hi) (by omega), hk.nt, by show S.length ≤ _; omega, by show F.length ≤ _; omega⟩, by simp⟩, rfl, rfl⟩
theorem setCell_below {B : Nat} {a w : World} (h : Below B a w) {p : Addr} (hp : B ≤ p.block) (u : Value) : Below B a (w.setCell p u) :=
  h.trans ⟨rfl, rfl, rfl, by simp [World.setCell], fun k hk => Below.heap_setCell w p u k (by omega)⟩
/-- A slot's room is written. -/
theorem TNew.set {w0 w : World} {t : TL} {T : List (List Int)} {room has : List Int} (h : TNew w0 t T room has w) (i : Int) (h0 : 0 ≤ i) (h1 : i < room.length) (x : Int) :
    ∃ Ab, t.Ar = some ⟨Ab, 0, none⟩ ∧ w.cell? ⟨Ab, i.toNat, none⟩ = some (.int .i64 (room.getD i.toNat 0)) ∧ w.frozen? ⟨Ab, i.toNat, none⟩ = false ∧ TNew w0 t T (room.set i.toNat x) has (w.setCell ⟨Ab, i.toNat, none⟩ (.int .i64 x)) := by
  have hown := h.own
  rcases hown.2 with ⟨e, hz⟩ | ⟨Ab, cap, cur, e, hb, hh, hle, hmx, hsz, htk⟩
  · omega
  injection e with e1 e2 e3
  have hneb : Ab ≠ t.bh := fun e => h.ne (by rw [e1, e]; rfl)
  have hneg : Ab ≠ t.g := by
    rintro rfl
    rw [h.gb] at hh
    injection hh with hh
    injection hh with _ hh
    exact absurd hh (by decide)
  have hlt : i.toNat < room.length := by omega
  have hc : cur[i.toNat]? = some (.int .i64 (room.getD i.toNat 0)) := by
    have h2 : (cur.toList.take (room.length * 1))[i.toNat]? = (room.map (Value.int .i64))[i.toNat]? := by rw [htk]
    rw [List.getElem?_take_of_lt (by omega), List.getElem?_map, List.getElem?_eq_getElem hlt] at h2
    rw [← Array.getElem?_toList, h2]
    simp [List.getD_eq_getElem?_getD, List.getElem?_eq_getElem hlt]
  refine ⟨Ab, e1, ?_, ?_, ?_⟩
  · simp [World.cell?, hh, hc]
  · simp [World.frozen?, hh]
  · have hown2 := Go.Proofs.YtkmmihadcbfkoaaW.PrintWords.own_put (k := .i64) (by rw [e1] at hown; exact hown) i x
    have hlen : (room.set i.toNat x).length = room.length := by simp
    have hfit := h.fit
    refine ⟨?_, h.row.same (Below.heap_setCell _ _ _ _ (Ne.symm hneb)), ?_, ?_, setCell_below h.B hb _, h.rows, h.gl, h.hl, ⟨hfit.slot, by rw [hlen]; exact hfit.room, hfit.row, hfit.finds, hfit.ns, hfit.nh⟩, h.len⟩
    · rw [hlen, Below.heap_setCell _ _ _ _ (Ne.symm hneg)]
      exact h.gb
    · rw [hlen, e1]
      rw [hlen] at hown2
      exact hown2
    · rw [hlen]
      exact h.ne
end Go.Proofs.Ytkmmihadcbfkoaa
end

section
namespace Go.Proofs.Ytkmmihadcbfkoaa
open Go.RowKit Go.Proofs.YtkmmihadcbfkoaaW.PrintWords PM
set_option linter.unusedVariables false
set_option linter.unusedSimpArgs false
theorem index_loop (l : List Int) (x : Int) (hl : l.length ≤ 9223372036854775807) (d : Nat) : ∀ (k i : Nat), l.length - i = d → i ≤ l.length → d < k →
    ∃ r, slices_Index_int_int.l0 k l x (l.length : Int) (i : Int) = some r ∧ decide (r ≥ 0) = decide (x ∈ l.drop i) := by
  induction d with
  | zero =>
    intro k i hd hi hk
    obtain ⟨k, rfl⟩ : ∃ m, k = m + 1 := ⟨k - 1, by omega⟩
    simp only [slices_Index_int_int.l0]
    rw [if_neg (by omega), List.drop_of_length_le (by omega)]
    exact ⟨-1, rfl, by simp⟩
  | succ d ih =>
    intro k i hd hi hk
    obtain ⟨k, rfl⟩ : ∃ m, k = m + 1 := ⟨k - 1, by omega⟩
    have hlt : i < l.length := by omega
    simp only [slices_Index_int_int.l0]
    rw [if_pos (by omega), if_pos (by omega), if_pos (by omega), List.drop_eq_getElem_cons hlt]
    have e1 : rd l (i : Int) = l[i] := by simp [rd, List.getD_eq_getElem?_getD, List.getElem?_eq_getElem hlt]
    rw [e1, (wrap_pm (i := (i : Int)) (by omega) (by omega)).1]
    by_cases h : x = l[i]
    · rw [if_pos h]
      exact ⟨(i : Int), rfl, by rw [decide_eq_true (List.mem_cons.2 (Or.inl h)), decide_eq_true (by omega)]⟩
    · rw [if_neg h]
      obtain ⟨r, h1, h2⟩ := ih k (i + 1) (by omega) (by omega) (by omega)
      exact ⟨r, by rw [← h1, show (((i + 1 : Nat)) : Int) = (i : Int) + 1 from by omega], by rw [h2]; exact decide_eq_decide.2 ⟨fun hm => List.mem_cons.2 (Or.inr hm), fun hm => (List.mem_cons.1 hm).resolve_left h⟩⟩
theorem contains_f (l : List Int) (x : Int) (hl : l.length ≤ 9223372036854775807) : slices_Contains_int_int.f (l.length + 1) l x = some (decide (x ∈ l)) := by
  obtain ⟨r, h1, h2⟩ := index_loop l x hl l.length (l.length + 1) 0 (by omega) (by omega) (by omega)
  unfold slices_Contains_int_int.f slices_Index_int_int.f
  rw [show ((0 : Nat) : Int) = 0 from rfl] at h1
  rw [h1, Option.bind_some, h2]
  rfl
theorem contains_calls (A : Option Addr) (c : Nat) (l : List Int) (x : Int) (w : World) (hr : Kd.C (Kd.int .i64) w A l.length l) (hc : l.length ≤ c) :
    Calls Try.prog 59 #[.slice A l.length c, .int .i64 x] w fun e w' => e = .returned (.bool (decide (x ∈ l))) ∧ Drawn0 w w' :=
  slices_Contains_int_int.calls (l.length + 1) A c l x _ w hr hc (contains_f l x hr.2.1)
end Go.Proofs.Ytkmmihadcbfkoaa
end

section
namespace Go.Proofs.Ytkmmihadcbfkoaa
open Go.RowKit Go.Proofs.YtkmmihadcbfkoaaW.PrintWords PM
set_option linter.unusedVariables false
set_option linter.unusedSimpArgs false
def meetAt (T : List (List Int)) (room l : List Int) (f : Nat) : Bool :=
  if T.getD f [] = [] then decide (l.getD f 0 = -1) else decide (l.getD f 0 ∈ T.getD f []) && decide (ld l (l.getD f 0) ≤ room.getD (l.getD f 0).toNat 0)
def meetsB (F : List Int) (S : List S50) (T : List (List Int)) (l : List Int) : Bool := decide (l.length = F.length) && (List.range l.length).all (meetAt T (rooms S) l)
def PM.match_Meets.f (_k : Nat) (F : List Int) (S : List S50) (T : List (List Int)) (l : List Int) : Option (Bool × Int) :=
  if checkB F S T ≠ 0 then some (false, checkB F S T) else some (meetsB F S T l, 0)
theorem PM.match_Meets.mono : ∀ a0 a1 a2 a3 k, LeO (match_Meets.f k a0 a1 a2 a3) (match_Meets.f (k + 1) a0 a1 a2 a3) := fun _ _ _ _ _ => LeO.refl _
/-- The finds' slots of a trial are written: the row lies elsewhere. -/
theorem TNew.has {w0 w : World} {t : TL} {T : List (List Int)} {room has : List Int} (h : TNew w0 t T room has w) (v : Value) :
    (w.setCell ⟨t.g, 4, none⟩ v).heap[t.g]? = some (.cells #[t.s0, .slice t.A1 t.n1 t.c1, .slice t.A2 T.length t.c2, .slice t.Ar room.length t.cr, v] 80 (0, 0)) ∧
    Kd.C (Kd.int .i64) (w.setCell ⟨t.g, 4, none⟩ v) t.Ar room.length room ∧ Below w0.heap.size w0 (w.setCell ⟨t.g, 4, none⟩ v) := by
  refine ⟨?_, ?_, setCell_below h.B h.gl _⟩
  · simp [World.setCell, Array.getElem?_modify, h.gb]
  · have hne : ∀ k, (Value.slice t.Ar room.length t.cr).ownBlock = some k → k ≠ t.g := by
      rintro k hk rfl
      obtain ⟨cells, hcl⟩ := own_typed h.own _ hk
      have hg2 := h.gb
      rw [hcl] at hg2
      injection hg2 with hg2
      injection hg2 with _ hg2
      exact absurd hg2 (by decide)
    have hown := own_move (w1 := w.setCell ⟨t.g, 4, none⟩ v) h.own (fun k hk => Below.heap_setCell _ _ _ _ (hne k hk))
    obtain ⟨Ar', cr', e, _, hC⟩ := Kd.R_reads (Kd.R_of_own (enc := Value.int .i64) (h1 := fun _ => rfl) (ok := fun _ => True) hown (fun _ _ => trivial))
    injection e with e1 e2 e3
    subst e1
    exact hC
theorem ints_of_C {w : World} {A : Option Addr} {l : List Int} (h : Kd.C (Kd.int .i64) w A l.length l) : IntsAt w A l := fun j hj => by
  obtain ⟨a, e, hc⟩ := Kd.at_int h (j : Int) (by omega) (by omega)
  rw [Int.toNat_natCast, show rd l (j : Int) = l[j]?.getD 0 from by simp [rd, List.getD_eq_getElem?_getD]] at hc
  exact ⟨a, e, by have := World.block_lt_of_cell? w (a.add j) hc; unfold Addr.add at this; split at this <;> exact this, hc⟩
set_option maxRecDepth 100000 in
set_option maxHeartbeats 8000000 in
theorem PM.match_Meets.calls (k : Nat) (A0 : Option Addr) (c0 : Nat) (F : List Int) (A1 : Option Addr) (c1 : Nat) (S : List S50) (A2 : Option Addr) (c2 : Nat) (T : List (List Int)) (A3 : Option Addr) (c3 : Nat) (l : List Int) (r1 : Bool) (r2 : Int) (w : World)
    (hr0 : Kd.C (Kd.int .i64) w A0 F.length F) (hc0 : F.length ≤ c0) (hr1 : Kd.C k50 w A1 S.length S) (hc1 : S.length ≤ c1) (hr2 : Kd.C (Kd.slice 3 (Kd.int .i64)) w A2 T.length T) (hc2 : T.length ≤ c2) (hr3 : Kd.C (Kd.int .i64) w A3 l.length l) (hc3 : l.length ≤ c3) (h : match_Meets.f k F S T l = some (r1, r2)) :
    Calls Try.prog 36 #[.agg #[.slice A0 F.length c0, .slice A1 S.length c1, .slice A2 T.length c2], .slice A3 l.length c3] w fun e w' => e = .returned (.tuple #[.bool r1, .int .i64 r2]) ∧ Below w.heap.size w w' := by
  have hB0 := (Below.refl w.heap.size w).alloc (Nat.le_refl _) (.cells #[.slice A0 F.length c0, .slice A1 S.length c1, .slice A2 T.length c2] 26)
  have CB := checkboard_calls A0 c0 F A1 c1 S A2 c2 T _ (Kd.C_below hr0 hB0) hc0 (Kd.C_below hr1 hB0) (Kd.C_below hr2 hB0)
  have lF : F.length ≤ 9223372036854775807 := hr0.2.1
  have l3 : l.length ≤ 9223372036854775807 := hr3.2.1
  unfold match_Meets.f at h
  obtain ⟨q, hq⟩ : ∃ q, checkB F S T = q := ⟨_, rfl⟩
  rw [hq] at h CB
  have HB0 := Go.Lib.hid hB0
  have HR := Go.Lib.hid (And.intro hr1 (And.intro hr2 hr3))
  have HQ := Go.Lib.hid hq
  have HH := Go.Lib.hid h
  clear hr0 hr1 hr2 hr3 hB0 hq h
  go_enter Try.func36, Try.ntmps36
  go_wp2_with fail
  refine CB.mono ?_
  clear CB
  rintro e w1 ⟨rfl, hB1⟩
  have b1 : w1.heap[w.heap.size]? = some (.cells #[.slice A0 F.length c0, .slice A1 S.length c1, .slice A2 T.length c2] 26 (0, 0)) := by
    rw [hB1.block w.heap.size (by simp)]
    exact World.alloc_heap_new w _
  have hW1 : Below w.heap.size w w1 := HB0.out.trans (hB1.mono HB0.out.size)
  have k0 := cell_of_heap b1 (j := 0) rfl
  have k1 := cell_of_heap b1 (j := 1) rfl
  have k2 := cell_of_heap b1 (j := 2) rfl
  have HW1 := Go.Lib.hid hW1
  have BX1 := Go.Lib.hid b1
  clear hB1 b1 hW1
  by_cases hq0 : q = 0
  · subst hq0
    have hf := HH.out
    rw [if_neg (by simp)] at hf
    injection hf with hf
    injection hf with hf1 hf2
    subst hf2
    unfold meetsB at hf1
    by_cases hln : l.length = F.length
    · have g3 : ((l.length : Int) == (F.length : Int)) = true := by simp; omega
      have hk := bok_of_check HQ.out
      have TC := tried_calls3 A0 c0 F A1 c1 S A2 c2 T w1 hk (Kd.C_below HR.out.1 HW1.out) (Kd.C_below HR.out.2.1 HW1.out)
      rw [decide_eq_true hln, Bool.true_and] at hf1
      have HF1 := Go.Lib.hid hf1
      have HK := Go.Lib.hid hk
      have hlt' : l.length = T.length := by rw [hk.nt]; exact hln
      have HLT := Go.Lib.hid hlt'
      have HLN := Go.Lib.hid hln
      clear hf1 hk hlt' hln
      go_wp2_with fail
      refine TC.mono ?_
      clear TC
      rintro e w2 ⟨t, rfl, hN, en1, en2⟩
      obtain ⟨hg3, hC3, hB3⟩ := hN.has (.slice A3 l.length c3)
      have fz := frozen_of_heap (j := 4) hN.gb
      have hc4 := cell_of_heap hN.gb (j := 4) rfl
      have hW3 := HW1.out.trans (hB3.mono HW1.out.size)
      have b3 : (w2.setCell ⟨t.g, 4, none⟩ (.slice A3 l.length c3)).heap[w.heap.size]? = some (.cells #[.slice A0 F.length c0, .slice A1 S.length c1, .slice A2 T.length c2] 26 (0, 0)) := (hB3.block w.heap.size (Array.getElem?_eq_some_iff.1 BX1.out).1).trans BX1.out
      have hlr : (rooms S).length = S.length := by simp [rooms]
      have REL := Go.Lib.hid (And.intro hg3 (And.intro hC3 (And.intro hW3 b3)))
      clear hN en1 en2 hg3 hC3 hB3 hW3 b3
      go_wp2_with fail
      obtain ⟨W3, hW3⟩ : ∃ W3, w2.setCell ⟨t.g, 4, none⟩ (.slice A3 l.length c3) = W3 := ⟨_, rfl⟩
      rw [hW3] at REL ⊢
      clear hW3 hc4 fz
      go_loopw [29] (fun i wr => ∃ k : Nat, k ≤ l.length ∧ i = .int .i64 k ∧ Hid ((∀ j, j < k → meetAt T (rooms S) l j = true) ∧ Below W3.heap.size W3 wr)) (fun i _ => l.length - (intOf i).toNat)
      case atStart => exact ⟨0, Nat.zero_le _, rfl, fun j hj => absurd hj (by omega), Below.refl _ _⟩
      case round =>
        obtain ⟨k, hk, rfl, HID⟩ := hrel
        obtain ⟨hok, hbl⟩ := HID.out
        have hW := REL.out.2.2.1.trans (hbl.mono REL.out.2.2.1.size)
        have hbw := (hbl.block w.heap.size (Array.getElem?_eq_some_iff.1 REL.out.2.2.2).1).trans REL.out.2.2.2
        by_cases hlt : k < l.length
        · have hbt := (hbl.block t.g (Array.getElem?_eq_some_iff.1 REL.out.1).1).trans REL.out.1
          obtain ⟨a9, e9, x9⟩ := Kd.at_int (Kd.C_below HR.out.2.2 hW) (k : Int) (by omega) (by omega)
          rw [Int.toNat_natCast, show rd l (k : Int) = l.getD k 0 from by simp [rd]] at x9
          obtain ⟨s9, hs9⟩ : ∃ s9, l.getD k 0 = s9 := ⟨_, rfl⟩
          rw [hs9] at x9
          have hkt : k < T.length := by rw [← HLT.out]; exact hlt
          obtain ⟨a8, Ar, cr, e8, hx8, hlc, hC⟩ := rows_at (Kd.C_below HR.out.2.1 hW) (k : Int) (by omega) (by omega)
          rw [Int.toNat_natCast] at hx8 hlc hC
          have hslot := HK.out.slot k hkt
          obtain ⟨row, hrw⟩ : ∃ row, T.getD k [] = row := ⟨_, rfl⟩
          rw [hrw] at hx8 hlc hC hslot
          have j2 := cell_of_heap hbw (j := 2) rfl
          have d3 := cell_of_heap hbt (j := 3) rfl
          have d4 := cell_of_heap hbt (j := 4) rfl
          have hma : meetAt T (rooms S) l k = if row = [] then decide (s9 = -1) else decide (s9 ∈ row) && decide (ld l s9 ≤ (rooms S).getD s9.toNat 0) := by
            unfold meetAt; rw [hrw, hs9]
          have hbad : meetAt T (rooms S) l k = false → r1 = false := fun e => by
            rw [← HF1.out, List.all_eq_false]
            exact ⟨k, List.mem_range.2 hlt, by rw [e]; decide⟩
          have hnext : meetAt T (rooms S) l k = true → ∀ j, j < k + 1 → meetAt T (rooms S) l j = true := fun e j hj => by
            rcases Nat.lt_succ_iff_lt_or_eq.1 hj with h | h
            · exact hok j h
            · rw [h]; exact e
          have HMA := Go.Lib.hid hma
          have HBAD := Go.Lib.hid hbad
          have HNEXT := Go.Lib.hid hnext
          have HBL := Go.Lib.hid hbl
          have HW := Go.Lib.hid hW
          have HBT := Go.Lib.hid hbt
          have HC := Go.Lib.hid hC
          have HSL := Go.Lib.hid hslot
          clear hma hbad hnext hbl hW hbt hC hslot hrw hs9 hok HID hbw
          subst e9; subst e8
          by_cases hem : row = []
          · have g5 : ((row.length : Int) == 0) = true := by rw [hem]; rfl
            have g6 : decide ((row.length : Int) = 0) = true := by rw [hem]; rfl
            have hma := HMA.out
            rw [if_pos hem] at hma
            clear hem
            by_cases hs1 : s9 = -1
            · have hm2 : meetAt T (rooms S) l k = true := by rw [hma]; simpa using hs1
              have HM2 := Go.Lib.hid hm2
              subst hs1
              clear hma hm2
              go_wp2_with fail
              go_roundw
              case rel => exact ⟨k + 1, by omega, by simp, HNEXT.out HM2.out, HBL.out⟩
              case measure => simp [intOf]; omega
            · have g7 : (s9 == -1) = false := by simpa using hs1
              have hr : r1 = false := HBAD.out (by rw [hma]; simpa using hs1)
              subst hr
              clear hma hs1
              go_wp2_with fail
              go_ret2
              exact ⟨rfl, HW.out⟩
          · have g5 : ((row.length : Int) == 0) = false := by simpa using hem
            have hma := HMA.out
            rw [if_neg hem] at hma
            by_cases hin : s9 ∈ row
            · obtain ⟨jj, hjj, hje⟩ := List.getElem_of_mem hin
              have hsb := HSL.out jj hjj
              rw [show row.getD jj 0 = s9 from by rw [List.getD_eq_getElem?_getD, List.getElem?_eq_getElem hjj]; exact hje] at hsb
              obtain ⟨hs0, hs1⟩ := hsb
              have hs2 : s9 < ((rooms S).length : Int) := by omega
              obtain ⟨ar, ear, hxr⟩ := Kd.at_int (Kd.C_below REL.out.2.1 HBL.out) s9 hs0 hs2
              obtain ⟨q9, hq9⟩ : ∃ q9, (rooms S).getD s9.toNat 0 = q9 := ⟨_, rfl⟩
              rw [show rd (rooms S) s9 = q9 from hq9] at hxr
              rw [hq9, decide_eq_true hin, Bool.true_and] at hma
              rw [ear] at d3
              have hz := ints_of_C (Kd.C_below HR.out.2.2 HW.out)
              have CC : ∀ W, Below wr.heap.size wr W → Calls Try.prog 59 #[.slice Ar row.length cr, .int .i64 s9] W fun e w' => e = .returned (.bool true) ∧ Below wr.heap.size wr w' := fun W hb => by
                refine (contains_calls Ar cr row s9 W (Kd.C_below HC.out hb) hlc).mono ?_
                rintro e w' ⟨rfl, hd⟩
                exact ⟨by rw [decide_eq_true hin], hb.trans (hd.below.mono hb.size)⟩
              have LC : ∀ W, Below wr.heap.size wr W → Calls Try.prog 74 #[.pointer (some ⟨t.g, 0, none⟩), .int .i64 s9] W fun e w' => e = .returned (.int .i64 ((atOf l s9).length : Int)) ∧ Below wr.heap.size wr w' := fun W hb => by
                refine (load_calls t.g (some a9) c3 s9 l l3 W (pw_cell_below hb d4) (hz.below hb)).mono ?_
                rintro e w' ⟨rfl, hb2⟩
                exact ⟨rfl, hb.trans (hb2.mono hb.size)⟩
              have hb0 : Below wr.heap.size wr wr.drew := (Below.refl _ _).drew
              have harl := World.block_lt_of_cell? wr _ hxr
              have hgl := World.block_lt_of_cell? wr _ d3
              have HX := Go.Lib.hid (And.intro j2 (And.intro hxr (And.intro hx8 (And.intro hxr (And.intro d3 (And.intro hxr (And.intro d4 hz)))))))
              have hld : ld l s9 = ((atOf l s9).length : Int) := rfl
              rw [hld] at hma
              have HMA2 := Go.Lib.hid hma
              clear hma hem hin hje hjj hq9 ear hz d4 hld
              by_cases hle : ((atOf l s9).length : Int) ≤ q9
              · have g8 : decide (q9 < ((atOf l s9).length : Int)) = false := by simpa using hle
                have hm2 : meetAt T (rooms S) l k = true := by rw [HMA2.out]; simpa using hle
                have HM2 := Go.Lib.hid hm2
                clear hm2 hle
                go_wp2_with fail
                go_region_held3 (fun w' => w'.cell? ⟨w.heap.size, 2, none⟩ = some (.slice (some a8) T.length c2) ∧ w'.cell? (a8.add k) = some (.slice Ar row.length cr) ∧ w'.cell? ⟨t.g, 3, none⟩ = some (.slice (some ar) (rooms S).length t.cr) ∧ w'.cell? (ar.add s9.toNat) = some (.int .i64 q9) ∧ Below wr.heap.size wr w')
                  (go_keep)
                  (first
                    | (go_at_call 59; refine (CC _ (by assumption)).mono ?_; rintro e w' ⟨rfl, hb⟩; have f1 := pw_cell_below hb HX.out.1; have f2 := pw_cell_below hb HX.out.2.2.1; have f3 := pw_cell_below hb HX.out.2.2.2.2.1; have f4 := pw_cell_below hb HX.out.2.2.2.2.2.1)
                    | (go_at_call 74; refine (LC _ (by assumption)).mono ?_; rintro e w' ⟨rfl, hb⟩; have f1 := pw_cell_below hb HX.out.1; have f2 := pw_cell_below hb HX.out.2.2.1; have f3 := pw_cell_below hb HX.out.2.2.2.2.1; have f4 := pw_cell_below hb HX.out.2.2.2.2.2.1))
                have HB3 := Go.Lib.hid (‹Below wr.heap.size wr _›)
                go_wp2_with fail
                go_roundw
                case rel => exact ⟨k + 1, by omega, by simp, HNEXT.out HM2.out, HBL.out.trans (HB3.out.mono HBL.out.size)⟩
                case measure => simp [intOf]; omega
              · have g8 : decide (q9 < ((atOf l s9).length : Int)) = true := by simpa using hle
                have hr : r1 = false := HBAD.out (by rw [HMA2.out]; simpa using hle)
                subst hr
                clear hle
                go_wp2_with fail
                go_region_held3 (fun w' => w'.cell? ⟨w.heap.size, 2, none⟩ = some (.slice (some a8) T.length c2) ∧ w'.cell? (a8.add k) = some (.slice Ar row.length cr) ∧ w'.cell? ⟨t.g, 3, none⟩ = some (.slice (some ar) (rooms S).length t.cr) ∧ w'.cell? (ar.add s9.toNat) = some (.int .i64 q9) ∧ Below wr.heap.size wr w')
                  (go_keep)
                  (first
                    | (go_at_call 59; refine (CC _ (by assumption)).mono ?_; rintro e w' ⟨rfl, hb⟩; have f1 := pw_cell_below hb HX.out.1; have f2 := pw_cell_below hb HX.out.2.2.1; have f3 := pw_cell_below hb HX.out.2.2.2.2.1; have f4 := pw_cell_below hb HX.out.2.2.2.2.2.1)
                    | (go_at_call 74; refine (LC _ (by assumption)).mono ?_; rintro e w' ⟨rfl, hb⟩; have f1 := pw_cell_below hb HX.out.1; have f2 := pw_cell_below hb HX.out.2.2.1; have f3 := pw_cell_below hb HX.out.2.2.2.2.1; have f4 := pw_cell_below hb HX.out.2.2.2.2.2.1))
                have HB3 := Go.Lib.hid (‹Below wr.heap.size wr _›)
                go_wp2_with fail
                go_ret2
                exact ⟨rfl, HW.out.trans (HB3.out.mono HW.out.size)⟩
            · have hr : r1 = false := HBAD.out (by rw [hma, decide_eq_false hin]; rfl)
              subst hr
              have CQ : ∀ w', Kd.C (Kd.int .i64) w' Ar row.length row → Calls Try.prog 59 #[.slice Ar row.length cr, .int .i64 s9] w' fun e w'' => e = .returned (.bool false) ∧ ∃ m, w'' = w'.drewN m := fun w' hC => by
                refine (contains_calls Ar cr row s9 w' hC hlc).mono ?_
                rintro e w'' ⟨rfl, ⟨n, rfl⟩⟩
                exact ⟨by rw [decide_eq_false hin], n, rfl⟩
              clear hma hem hin
              go_wp2_with fail
              go_quiet ((go_at_call 59; refine Calls.quiet_of (CQ _ ?_); exact Kd.C_below HC.out (pw_below_drewN (Below.refl _ _) _)))
              go_wp2_with fail
              go_ret2
              exact ⟨rfl, pw_below_drewN HW.out _⟩
        · obtain rfl : k = l.length := by omega
          have hr : r1 = true := by
            rw [← HF1.out, List.all_eq_true]
            exact fun j hj => hok j (List.mem_range.1 hj)
          subst hr
          have HW := Go.Lib.hid hW
          clear hok hbl hW hbw HID
          go_wp2_with fail
          go_ret2
          exact ⟨rfl, HW.out⟩
    · have g3 : decide ((l.length : Int) = (F.length : Int)) = false := by simp; omega
      rw [decide_eq_false hln, Bool.false_and] at hf1
      subst hf1
      go_wp2_with fail
      go_ret2
      exact ⟨rfl, HW1.out⟩
  · have g9 : decide (q = 0) = false := by simpa using hq0
    have hf := HH.out
    rw [if_pos hq0] at hf
    injection hf with hf
    injection hf with hf1 hf2
    subst hf1 hf2
    go_wp2_with fail
    go_ret2
    exact ⟨rfl, HW1.out⟩
end Go.Proofs.Ytkmmihadcbfkoaa
end

section
namespace Go.Proofs.Ytkmmihadcbfkoaa
open Go.RowKit Go.Proofs.YtkmmihadcbfkoaaW.PrintWords PM
set_option linter.unusedVariables false
set_option linter.unusedSimpArgs false
theorem has_ev (l : List Int) (x : Int) (hl : l.length ≤ 9223372036854775807) (d : Nat) : ∀ i : Nat, l.length - i = d → i ≤ l.length → Ev (fun k => laganref04_Has.l0 k l x (i : Int)) (decide (x ∈ l.drop i)) := by
  induction d with
  | zero =>
    intro i hd hi
    rw [List.drop_of_length_le (by omega)]
    exact (Ev.const false).step fun k => by simp only [laganref04_Has.l0]; rw [if_neg (by omega)]
  | succ d ih =>
    intro i hd hi
    have hlt : i < l.length := by omega
    have hw := wrap_pm (i := (i : Int)) (by omega) (by omega)
    have ih' := ih (i + 1) (by omega) (by omega)
    rw [show (((i + 1 : Nat)) : Int) = (i : Int) + 1 from by omega] at ih'
    have e1 : rd l (i : Int) = l[i] := by simp [rd, List.getD_eq_getElem?_getD, List.getElem?_eq_getElem hlt]
    by_cases h : l[i] = x
    · rw [decide_eq_true (by rw [List.drop_eq_getElem_cons hlt]; exact List.mem_cons.2 (Or.inl h.symm))]
      exact (Ev.const true).step fun k => by
        simp only [laganref04_Has.l0]
        rw [if_pos (by omega), if_pos (by omega), e1, if_pos h]
    · have hd : decide (x ∈ l.drop i) = decide (x ∈ l.drop (i + 1)) := by
        rw [List.drop_eq_getElem_cons hlt]
        exact decide_eq_decide.2 ⟨fun hm => (List.mem_cons.1 hm).resolve_left (fun e => h e.symm), fun hm => List.mem_cons.2 (Or.inr hm)⟩
      rw [hd]
      exact Ev.step ih' fun k => by
        simp only [laganref04_Has.l0]
        rw [if_pos (by omega), if_pos (by omega), e1, if_neg h, hw.1]
theorem has_is (l : List Int) (x : Int) (hl : l.length ≤ 9223372036854775807) : Ev (fun k => laganref04_Has.f k l x) (decide (x ∈ l)) :=
  has_ev l x hl l.length 0 (by omega) (by omega)
/-- One find of a list, as the reference looks at it: so many have the slot up to here. -/
def refAt (S : List S50) (T : List (List Int)) (l : List Int) (i : Nat) : Bool :=
  if T.getD i [] = [] then decide (l.getD i 0 = -1) else decide (l.getD i 0 ∈ T.getD i []) && decide (((l.take (i + 1)).count (l.getD i 0) : Int) ≤ (S.getD (l.getD i 0).toNat z50).f2)
theorem meets_ev {F : List Int} {S : List S50} {T : List (List Int)} (hk : BOK F S T) (l : List Int) (hl : l.length = F.length) (d : Nat) : ∀ (i : Nat) (L : List Int), l.length - i = d → i ≤ l.length → L.length = S.length → (∀ s : Nat, s < S.length → L.getD s 0 = ((l.take i).count (s : Int) : Nat)) →
    Ev (fun k => laganref04_meets.l0 k l L (i : Int) F S T) (((List.range l.length).drop i).all (refAt S T l)) := by
  have hF := hk.nf
  induction d with
  | zero =>
    intro i L hd hi hL hc
    rw [List.drop_of_length_le (by simp; omega)]
    exact (Ev.const true).step fun k => by simp only [laganref04_meets.l0]; rw [if_neg (by omega)]
  | succ d ih =>
    intro i L hd hi hL hc
    have hlt : i < l.length := by omega
    have hiT : i < T.length := by rw [hk.nt]; omega
    have hw := wrap_pm (i := (i : Int)) (by omega) (by omega)
    rw [all_range_step hlt]
    have hrd : rd_L1 T (i : Int) = T.getD i [] := by simp [rd_L1]
    have hslot := hk.slot i hiT
    have hrl := hk.row i hiT
    obtain ⟨row, hrw⟩ : ∃ row, T.getD i [] = row := ⟨_, rfl⟩
    obtain ⟨s, hs⟩ : ∃ s, l.getD i 0 = s := ⟨_, rfl⟩
    have htk : l.take (i + 1) = l.take i ++ [s] := by
      rw [List.take_succ_eq_append_getElem hlt, ← hs]
      simp [List.getD_eq_getElem?_getD, List.getElem?_eq_getElem hlt]
    have hcnt : ∀ t : Int, (l.take (i + 1)).count t = (l.take i).count t + if s = t then 1 else 0 := fun t => by
      rw [htk, List.count_append, List.count_singleton]
      congr 1
      by_cases e : s = t <;> simp [e]
    have hra : refAt S T l i = if row = [] then decide (s = -1) else decide (s ∈ row) && decide (((l.take (i + 1)).count s : Int) ≤ (S.getD s.toNat z50).f2) := by
      unfold refAt; rw [hrw, hs]
    rw [hra]
    rw [hrw] at hrd hslot hrl
    by_cases hem : row = []
    · rw [if_pos hem]
      by_cases h1 : s = -1
      · rw [decide_eq_true h1, Bool.true_and]
        have ih' := ih (i + 1) L (by omega) (by omega) hL (fun t ht => by rw [hcnt, hc t ht, if_neg (by omega), Nat.add_zero])
        rw [show (((i + 1 : Nat)) : Int) = (i : Int) + 1 from by omega] at ih'
        exact Ev.step ih' fun k => by
          simp only [laganref04_meets.l0]
          rw [if_pos (by omega), if_pos (by omega), if_pos (by omega), hrd, if_pos (by rw [hem]; rfl), rd_nat, hs, if_pos h1, hw.1]
      · rw [decide_eq_false h1, Bool.false_and]
        exact (Ev.const false).step fun k => by
          simp only [laganref04_meets.l0]
          rw [if_pos (by omega), if_pos (by omega), if_pos (by omega), hrd, if_pos (by rw [hem]; rfl), rd_nat, hs, if_neg h1]
    · rw [if_neg hem]
      have hlen : ¬ (row.length : Int) = 0 := by
        intro e
        exact hem (List.length_eq_zero_iff.1 (by omega))
      have hh := has_is row s (by omega)
      by_cases hin : s ∈ row
      · rw [decide_eq_true hin, Bool.true_and]
        obtain ⟨jj, hjj, hje⟩ := List.getElem_of_mem hin
        have hsb := hslot jj hjj
        rw [show row.getD jj 0 = s from by rw [List.getD_eq_getElem?_getD, List.getElem?_eq_getElem hjj]; exact hje] at hsb
        obtain ⟨hs0, hs1⟩ := hsb
        have hsn : s.toNat < S.length := by omega
        have hcs := hc s.toNat hsn
        rw [show ((s.toNat : Nat) : Int) = s from by omega] at hcs
        have hcl : (l.take i).count s ≤ 60 := Nat.le_trans List.count_le_length (by simp; omega)
        have hrds : rd L s = ((l.take i).count s : Nat) := hcs
        have hwr : wrap64 (rd L s + 1) = ((l.take (i + 1)).count s : Nat) := by
          rw [hrds, hcnt, if_pos rfl]
          have := wrap_pm (i := (((l.take i).count s : Nat) : Int)) (by omega) (by omega)
          rw [this.1]
          omega
        obtain ⟨L', hL'⟩ : ∃ L', L.set s.toNat (wrap64 (rd L s + 1)) = L' := ⟨_, rfl⟩
        have hLl : L'.length = S.length := by rw [← hL', List.length_set]; exact hL
        have hcL : ∀ t : Nat, t < S.length → L'.getD t 0 = ((l.take (i + 1)).count (t : Int) : Nat) := fun t ht => by
          rw [← hL', List.getD_eq_getElem?_getD, List.getElem?_set]
          by_cases e : s.toNat = t
          · rw [if_pos e, if_pos (by omega), hwr]
            have : s = (t : Int) := by omega
            rw [this]
            rfl
          · rw [if_neg e, hcnt, if_neg (by omega), Nat.add_zero, ← hc t ht, List.getD_eq_getElem?_getD]
        have hrdL : rd L' s = ((l.take (i + 1)).count s : Nat) := by
          have := hcL s.toNat hsn
          rw [show ((s.toNat : Nat) : Int) = s from by omega] at this
          exact this
        have hst : ∀ k, laganref04_meets.l0 (k + 1) l L (i : Int) F S T = (laganref04_Has.f k row s).bind fun t414 => (if t414 = true then (if 0 ≤ s then (if s < (L.length : Int) then ((some L').bind fun y418 => (if s < (S.length : Int) then (if (rd y418 s) > ((rd_T50 S s).f2) then (some false) else (laganref04_meets.l0 k l y418 ((i : Int) + 1) F S T)) else (none))) else (none)) else (none)) else (some false)) := fun k => by
          simp only [laganref04_meets.l0]
          rw [if_pos (by omega), if_pos (by omega), if_pos (by omega), hrd, if_neg hlen, rd_nat, hs, hw.1]
          rw [hL']
        refine Ev.step (g := fun k => (laganref04_Has.f k row s).bind fun t414 => (if t414 = true then (if 0 ≤ s then (if s < (L.length : Int) then ((some L').bind fun y418 => (if s < (S.length : Int) then (if (rd y418 s) > ((rd_T50 S s).f2) then (some false) else (laganref04_meets.l0 k l y418 ((i : Int) + 1) F S T)) else (none))) else (none)) else (none)) else (some false))) (Ev.bind hh ?_) hst
        rw [decide_eq_true hin]
        have hrT : (rd_T50 S s).f2 = (S.getD s.toNat z50).f2 := rfl
        by_cases hgt : ((l.take (i + 1)).count s : Int) ≤ (S.getD s.toNat z50).f2
        · rw [decide_eq_true hgt, Bool.true_and]
          have ih' := ih (i + 1) L' (by omega) (by omega) hLl hcL
          rw [show (((i + 1 : Nat)) : Int) = (i : Int) + 1 from by omega] at ih'
          refine ih'.congr fun k => ?_
          rw [if_pos rfl, if_pos hs0, if_pos (by omega), Option.bind_some, if_pos (by omega), hrdL, hrT, if_neg (by omega)]
        · rw [decide_eq_false hgt, Bool.false_and]
          refine (Ev.const false).congr fun k => ?_
          rw [if_pos rfl, if_pos hs0, if_pos (by omega), Option.bind_some, if_pos (by omega), hrdL, hrT, if_pos (by omega)]
      · rw [decide_eq_false hin, Bool.false_and, Bool.false_and]
        have hb := Ev.bind (g := fun k t414 => (if t414 = true then (if 0 ≤ s then (if s < (L.length : Int) then ((some (L.set s.toNat (wrap64 (rd L s + 1)))).bind fun y418 => (if s < (S.length : Int) then (if (rd y418 s) > ((rd_T50 S s).f2) then (some false) else (laganref04_meets.l0 k l y418 ((i : Int) + 1) F S T)) else (none))) else (none)) else (none)) else (some false))) (s := false) hh (by
          rw [decide_eq_false hin]
          exact (Ev.const false).congr fun k => by rw [if_neg (by simp)])
        refine Ev.step hb fun k => ?_
        simp only [laganref04_meets.l0]
        rw [if_pos (by omega), if_pos (by omega), if_pos (by omega), hrd, if_neg hlen, rd_nat, hs, hw.1]
end Go.Proofs.Ytkmmihadcbfkoaa
end

section
namespace Go.Proofs.Ytkmmihadcbfkoaa
open Go.RowKit Go.Proofs.YtkmmihadcbfkoaaW.PrintWords PM
set_option linter.unusedVariables false
set_option linter.unusedSimpArgs false
theorem atTo_count (zs : List Int) (s : Int) : ∀ k, k ≤ zs.length → (atTo zs s k).length = (zs.take k).count s
  | 0, _ => rfl
  | k + 1, h => by
    have ih := atTo_count zs s k (by omega)
    have htk : zs.take (k + 1) = zs.take k ++ [zs[k]] := List.take_succ_eq_append_getElem (by omega)
    rw [htk, List.count_append, List.count_singleton]
    by_cases e : zs[k] = s
    · rw [atTo_yes (by simp [List.getElem?_eq_getElem (show k < zs.length by omega), e]), List.length_append, ih]
      simp [e]
    · rw [atTo_no (by simp [List.getElem?_eq_getElem (show k < zs.length by omega), e]), ih]
      simp [e]
theorem ld_count (zs : List Int) (s : Int) : ld zs s = (zs.count s : Nat) := by
  unfold ld atOf
  rw [atTo_count zs s zs.length (Nat.le_refl _), List.take_length]
theorem rooms_at (S : List S50) (i : Nat) (hi : i < S.length) : (rooms S).getD i 0 = (S.getD i z50).f2 := by
  simp [rooms, List.getD_eq_getElem?_getD, List.getElem?_eq_getElem hi]
/-- The last place of a number in a list, at which all of it has been counted. -/
theorem last_place (l : List Int) (s : Int) (h : 0 < l.count s) : ∃ j, j < l.length ∧ l.getD j 0 = s ∧ (l.take (j + 1)).count s = l.count s := by
  have key : ∀ n, n ≤ l.length → 0 < (l.take n).count s → ∃ j, j < n ∧ l.getD j 0 = s ∧ (l.take (j + 1)).count s = (l.take n).count s := by
    intro n
    induction n with
    | zero => intro _ h; simp at h
    | succ n ih =>
      intro hn hp
      have htk : l.take (n + 1) = l.take n ++ [l[n]] := List.take_succ_eq_append_getElem (by omega)
      by_cases e : l[n] = s
      · exact ⟨n, by omega, by simp [List.getD_eq_getElem?_getD, List.getElem?_eq_getElem (show n < l.length by omega), e], rfl⟩
      · have hc : (l.take (n + 1)).count s = (l.take n).count s := by
          rw [htk, List.count_append, List.count_singleton]
          simp [e]
        rw [hc] at hp
        obtain ⟨j, h1, h2, h3⟩ := ih (by omega) hp
        exact ⟨j, by omega, h2, by rw [hc, h3]⟩
  obtain ⟨j, h1, h2, h3⟩ := key l.length (Nat.le_refl _) (by rwa [List.take_length])
  exact ⟨j, h1, h2, by rw [h3, List.take_length]⟩
theorem meets_same {F : List Int} {S : List S50} {T : List (List Int)} (hk : BOK F S T) (l : List Int) (hl : l.length = F.length) : (List.range l.length).all (refAt S T l) = (List.range l.length).all (meetAt T (rooms S) l) := by
  rw [Bool.eq_iff_iff]
  simp only [List.all_eq_true, List.mem_range]
  have hnt := hk.nt
  have hsl : ∀ i, i < l.length → T.getD i [] ≠ [] → l.getD i 0 ∈ T.getD i [] → 0 ≤ l.getD i 0 ∧ (l.getD i 0).toNat < S.length := by
    intro i hi _ hm
    obtain ⟨jj, hjj, hje⟩ := List.getElem_of_mem hm
    have := hk.slot i (by omega) jj hjj
    rw [show (T.getD i []).getD jj 0 = l.getD i 0 from by rw [List.getD_eq_getElem?_getD, List.getElem?_eq_getElem hjj]; exact hje] at this
    omega
  constructor
  · intro h i hi
    have hr := h i hi
    unfold refAt at hr
    unfold meetAt
    by_cases hem : T.getD i [] = []
    · rw [if_pos hem] at hr ⊢; exact hr
    · rw [if_neg hem] at hr ⊢
      simp only [Bool.and_eq_true, decide_eq_true_eq] at hr ⊢
      refine ⟨hr.1, ?_⟩
      obtain ⟨h0, h1⟩ := hsl i hi hem hr.1
      obtain ⟨j, hj, hje, hjc⟩ := last_place l (l.getD i 0) (List.count_pos_iff.2 (by rw [List.getD_eq_getElem?_getD, List.getElem?_eq_getElem hi]; exact List.getElem_mem hi))
      have hrj := h j hj
      unfold refAt at hrj
      rw [hje] at hrj
      rw [ld_count, rooms_at S _ h1]
      by_cases hemj : T.getD j [] = []
      · rw [if_pos hemj] at hrj
        have : l.getD i 0 = -1 := by simpa using hrj
        omega
      · rw [if_neg hemj] at hrj
        simp only [Bool.and_eq_true, decide_eq_true_eq] at hrj
        rw [hjc] at hrj
        exact hrj.2
  · intro h i hi
    have hr := h i hi
    unfold meetAt at hr
    unfold refAt
    by_cases hem : T.getD i [] = []
    · rw [if_pos hem] at hr ⊢; exact hr
    · rw [if_neg hem] at hr ⊢
      simp only [Bool.and_eq_true, decide_eq_true_eq] at hr ⊢
      refine ⟨hr.1, ?_⟩
      obtain ⟨h0, h1⟩ := hsl i hi hem hr.1
      have h2 := hr.2
      rw [ld_count, rooms_at S _ h1] at h2
      have h3 : (l.take (i + 1)).count (l.getD i 0) ≤ l.count (l.getD i 0) := (List.take_sublist _ _).count_le _
      omega
theorem refmeets_is {F : List Int} {S : List S50} {T : List (List Int)} (hF : F.length ≤ 9223372036854775807) (hS : S.length ≤ 9223372036854775807) (hT : T.length ≤ 9223372036854775807) (hr : ∀ l, l ∈ T → l.length ≤ 9223372036854775807) (l : List Int) :
    Ev (fun k => laganref04_Meets.f k F S T l) (if checkB F S T ≠ 0 then (false, checkB F S T) else (meetsB F S T l, 0)) := by
  refine Ev.bind (refcheck_is F S T hF hS hT hr) ?_
  by_cases hc : checkB F S T = 0
  · rw [if_neg (by simpa using hc), hc]
    have hk := bok_of_check hc
    have hm : Ev (fun k => laganref04_meets.f k F S T l) (meetsB F S T l) := by
      unfold meetsB
      by_cases hl : l.length = F.length
      · rw [decide_eq_true hl, Bool.true_and, ← meets_same hk l hl]
        have := meets_ev hk l hl l.length 0 (List.replicate S.length 0) (by omega) (by omega) (by simp) (fun s hs => by simp [List.getD_eq_getElem?_getD, hs])
        refine Ev.congr (by simpa using this) fun k => ?_
        unfold laganref04_meets.f
        rw [if_pos (by omega), if_pos (by omega), if_pos (by have := hk.ns; omega), Int.toNat_natCast]
      · rw [decide_eq_false hl, Bool.false_and]
        refine (Ev.const false).congr fun k => ?_
        unfold laganref04_meets.f
        rw [if_neg (by omega)]
    refine Ev.congr (Ev.bind (g := fun _ t425 => some (t425, (0 : Int))) hm (Ev.const _)) fun k => ?_
    rw [if_pos rfl]
  · rw [if_pos hc]
    refine (Ev.const _).congr fun k => ?_
    rw [if_neg hc]
end Go.Proofs.Ytkmmihadcbfkoaa
end

section
namespace Go.Proofs.Ytkmmihadcbfkoaa
open Go.RowKit Go.Proofs.YtkmmihadcbfkoaaW.PrintWords PM
set_option linter.unusedVariables false
set_option linter.unusedSimpArgs false
def fullKey (s : S50) : Int × Int × Int := (s.f0, s.f1, s.f2)
/-- One find's row: the slots not met yet are added, their pieces taken away. -/
def crowdIn (S : List S50) (de : Int) : List Int → List (Int × Int × Int) → Int → List (Int × Int × Int) × Int
  | [], ks, n => (ks, n)
  | s :: ss, ks, n => if fullKey (S.getD s.toNat z50) ∈ ks then crowdIn S de ss ks n else crowdIn S de ss (ks ++ [fullKey (S.getD s.toNat z50)]) (if s = de then n - (S.getD s.toNat z50).f2 + 1 else n - (S.getD s.toNat z50).f2)
def crowdL (S : List S50) (T : List (List Int)) (wo de : Int) : List Int → List (Int × Int × Int) → Int → Option Int
  | [], ks, n => some n
  | f :: fs, ks, n => if f = wo ∨ T.getD f.toNat [] = [] then none else crowdL S T wo de fs (crowdIn S de (T.getD f.toNat []) ks n).1 (crowdIn S de (T.getD f.toNat []) ks n).2
def crowdYes : Option Int → Bool
  | some n => decide (0 < n)
  | none => false
def crowdedB (F : List Int) (S : List S50) (T : List (List Int)) (finds : List Int) (wo de : Int) : Bool :=
  risB finds 0 ((F.length : Int) - 1) && crowdYes (crowdL S T wo de finds [] finds.length)
theorem getD_cons_drop {α : Type} {l : List α} {k : Nat} (d : α) (h : k < l.length) : l.drop k = l.getD k d :: l.drop (k + 1) := by
  rw [List.drop_eq_getElem_cons h]
  simp [List.getD_eq_getElem?_getD, List.getElem?_eq_getElem h]
set_option maxRecDepth 100000 in
set_option maxHeartbeats 8000000 in
theorem crowded_calls (A0 : Option Addr) (c0 : Nat) (F : List Int) (A1 : Option Addr) (c1 : Nat) (S : List S50) (A2 : Option Addr) (c2 : Nat) (T : List (List Int)) (Af : Option Addr) (cf : Nat) (finds : List Int) (wo de : Int) (w : World)
    (hk : BOK F S T) (hrb : ∀ i : Nat, i < S.length → 1 ≤ (S.getD i z50).f2 ∧ (S.getD i z50).f2 ≤ 20) (hr1 : Kd.C k50 w A1 S.length S) (hr2 : Kd.C (Kd.slice 3 (Kd.int .i64)) w A2 T.length T) (hrf : Kd.C (Kd.int .i64) w Af finds.length finds) (hcf : finds.length ≤ cf) :
    Calls Try.prog 75 #[.agg #[.slice A0 F.length c0, .slice A1 S.length c1, .slice A2 T.length c2], .slice Af finds.length cf, .int .i64 wo, .int .i64 de] w fun e w' => e = .returned (.bool (crowdedB F S T finds wo de)) ∧ Below w.heap.size w w' := by
  have hB0 := (Below.refl w.heap.size w).alloc (Nat.le_refl _) (.cells #[.slice A0 F.length c0, .slice A1 S.length c1, .slice A2 T.length c2] 26)
  have lF : F.length ≤ 60 := hk.nf
  have lS : S.length ≤ 200 := hk.ns
  have lf : finds.length ≤ 9223372036854775807 := hrf.2.1
  have RC := rising_calls Af cf finds 0 ((F.length : Int) - 1) _ (Kd.C_below hrf hB0) hcf lf
  obtain ⟨q, hq⟩ : ∃ q, crowdedB F S T finds wo de = q := ⟨_, rfl⟩
  rw [hq]
  unfold crowdedB at hq
  have HQ := Go.Lib.hid hq
  have HB0 := Go.Lib.hid hB0
  have HR1 := Go.Lib.hid hr1
  have HR2 := Go.Lib.hid hr2
  have HRF := Go.Lib.hid hrf
  have HRB := Go.Lib.hid hrb
  have HK := Go.Lib.hid hk
  clear hq hB0 hr1 hr2 hrf hrb hk
  go_enter Try.func75, Try.ntmps75
  go_wp2_with fail
  refine RC.mono ?_
  clear RC
  rintro e w1 ⟨rfl, hd1⟩
  have b1 : w1.heap[w.heap.size]? = some (.cells #[.slice A0 F.length c0, .slice A1 S.length c1, .slice A2 T.length c2] 26 (0, 0)) := by
    rw [hd1.below.block w.heap.size (by simp)]
    exact World.alloc_heap_new w _
  have HB1 := Go.Lib.hid (HB0.out.trans (hd1.below.mono HB0.out.size))
  have BX1 := Go.Lib.hid b1
  clear hd1 b1
  cases hrs : risB finds 0 ((F.length : Int) - 1) with
  | false =>
    have hq : q = false := by have := HQ.out; rw [hrs] at this; simpa using this.symm
    subst hq
    clear hrs
    go_wp2_with fail
    go_ret
    exact ⟨rfl, HB1.out⟩
  | true =>
    obtain ⟨m, W2, hm, hset, hB2, hml, b2⟩ : ∃ m W2, (Instr.makeMap 97 none).run Try.prog w1 = .ok (.map (some m)) W2 ∧ SetMap W2 m [] ∧ Below w.heap.size w W2 ∧ w.heap.size < m ∧ W2.heap[w.heap.size]? = w1.heap[w.heap.size]? :=
      ⟨_, _, run_make_set w1, ⟨#[], 0, World.alloc_heap_new _ _, rfl⟩, HB1.out.alloc HB1.out.size _, (Array.getElem?_eq_some_iff.1 BX1.out).1, ((Below.refl w1.heap.size w1).alloc (Nat.le_refl _) _).block _ (Array.getElem?_eq_some_iff.1 BX1.out).1⟩
    rw [BX1.out] at b2
    have hfl : finds.length ≤ 60 := by
      rcases risB_len hrs with h | h
      · omega
      · rw [h]; simp
    have hfa : ∀ i : Nat, i < finds.length → 0 ≤ finds.getD i 0 ∧ finds.getD i 0 < F.length := fun i hi => by have := risB_at hrs i hi; omega
    obtain ⟨res, hres⟩ : ∃ res, crowdL S T wo de finds [] finds.length = res := ⟨_, rfl⟩
    have hq : q = crowdYes res := by have := HQ.out; rw [hrs, hres] at this; simpa using this.symm
    have HRES := Go.Lib.hid hres
    have HQ2 := Go.Lib.hid hq
    have HFA := Go.Lib.hid hfa
    have REL := Go.Lib.hid (And.intro hset (And.intro hB2 b2))
    clear hset hB2 b2 hres hq hfa hrs HQ
    go_wp2_with fail
    go_loopw [10, 27] (fun n i wr => ∃ k : Nat, k ≤ finds.length ∧ i = .int .i64 k ∧ ∃ z : Int, n = .int .i64 z ∧ -(20000 * (k : Int)) ≤ z ∧ z ≤ 60 + 20000 * (k : Int) ∧ Hid (∃ ks, SetMap wr m ks ∧ crowdL S T wo de (finds.drop k) ks z = res ∧ Below w.heap.size w wr ∧ wr.heap[w.heap.size]? = some (.cells #[.slice A0 F.length c0, .slice A1 S.length c1, .slice A2 T.length c2] 26 (0, 0)))) (fun _ i _ => finds.length - (intOf i).toNat)
    case atStart => exact ⟨0, Nat.zero_le _, rfl, _, rfl, by omega, by omega, [], REL.out.1, HRES.out, REL.out.2.1, REL.out.2.2⟩
    case round =>
      obtain ⟨k, hk, rfl, z, rfl, hz1, hz2, HID⟩ := hrel
      by_cases hlt : k < finds.length
      · obtain ⟨ks, hset, hcr, hbl, hbx⟩ := HID.out
        obtain ⟨a9, e9, x9⟩ := Kd.at_int (Kd.C_below HRF.out hbl) (k : Int) (by omega) (by omega)
        rw [Int.toNat_natCast, show rd finds (k : Int) = finds.getD k 0 from by simp [rd]] at x9
        rw [getD_cons_drop 0 hlt] at hcr
        have hfb := HFA.out k hlt
        obtain ⟨f9, hf9⟩ : ∃ f9, finds.getD k 0 = f9 := ⟨_, rfl⟩
        rw [hf9] at x9 hcr hfb
        obtain ⟨hfb1, hfb2⟩ := hfb
        have hfb3 : f9 < (T.length : Int) := by rw [HK.out.nt]; exact hfb2
        obtain ⟨a8, Ar, cr, e8, hx8, hlc, hC⟩ := rows_at HR2.out f9 hfb1 hfb3
        have hx8 := pw_cell_below hbl hx8
        have hrl : (T.getD f9.toNat []).length ≤ 1000 := HK.out.row f9.toNat (by omega)
        have hrs : ∀ j : Nat, j < (T.getD f9.toNat []).length → 0 ≤ (T.getD f9.toNat []).getD j 0 ∧ (T.getD f9.toNat []).getD j 0 < S.length := HK.out.slot f9.toNat (by omega)
        obtain ⟨row, hrw⟩ : ∃ row, T.getD f9.toNat [] = row := ⟨_, rfl⟩
        rw [hrw] at hx8 hlc hC hrl hrs
        unfold crowdL at hcr
        rw [hrw] at hcr
        have k2 := cell_of_heap hbx (j := 2) rfl
        have HSET := Go.Lib.hid hset
        have HCR := Go.Lib.hid hcr
        have HBL := Go.Lib.hid hbl
        have HBX := Go.Lib.hid hbx
        have HC := Go.Lib.hid hC
        have HRS := Go.Lib.hid hrs
        clear hset hcr hbl hbx hC hrs hrw hf9 HID
        subst e9; subst e8
        by_cases hwo : f9 = wo
        · subst hwo
          have hq : q = false := by have := HCR.out; rw [if_pos (Or.inl rfl)] at this; rw [HQ2.out, ← this]; rfl
          subst hq
          go_wp2_with fail
          go_ret
          exact ⟨rfl, HBL.out⟩
        · have g1 : (f9 == wo) = false := by simpa using hwo
          by_cases hem : row = []
          · have hq : q = false := by have := HCR.out; rw [if_pos (Or.inr hem)] at this; rw [HQ2.out, ← this]; rfl
            subst hq
            have g2 : decide ((row.length : Int) = 0) = true := by subst hem; rfl
            have g3 : (row.length : Int) = 0 := by subst hem; rfl
            clear hwo hem
            go_wp2_with fail
            go_ret
            exact ⟨rfl, HBL.out⟩
          · have hlen : 0 < row.length := by cases row with | nil => exact absurd rfl hem | cons _ _ => simp
            have g2 : ((row.length : Int) == 0) = false := by simpa using hem
            have g3 : ¬ (row.length : Int) = 0 := by omega
            have hcr2 := HCR.out
            rw [if_neg (by intro h; exact h.elim hwo hem)] at hcr2
            have HCR := Go.Lib.hid hcr2
            clear hcr2 hwo hem
            go_wp2_with fail
            go_loopw [10, 49] (fun n i wr => ∃ j : Nat, j ≤ row.length ∧ i = .int .i64 j ∧ ∃ z : Int, n = .int .i64 z ∧ -(20000 * (k : Int)) - 20 * j ≤ z ∧ z ≤ 60 + 20000 * (k : Int) + 20 * j ∧ Hid (∃ ks, SetMap wr m ks ∧ crowdL S T wo de (finds.drop (k + 1)) (crowdIn S de (row.drop j) ks z).1 (crowdIn S de (row.drop j) ks z).2 = res ∧ Below w.heap.size w wr ∧ wr.heap[w.heap.size]? = some (.cells #[.slice A0 F.length c0, .slice A1 S.length c1, .slice (some a8) T.length c2] 26 (0, 0)))) (fun _ i _ => row.length - (intOf i).toNat)
            case atStart => exact ⟨0, Nat.zero_le _, rfl, z, rfl, by omega, by omega, ks, HSET.out, HCR.out, HBL.out, HBX.out⟩
            case round =>
              obtain ⟨j, hj, rfl, z, rfl, hz1, hz2, HID⟩ := hrel
              obtain ⟨ks, hset, hcr, hbl, hbx⟩ := HID.out
              by_cases hjl : j < row.length
              · obtain ⟨a7, e7, x7⟩ := Kd.at_int (Kd.C_below HC.out hbl) (j : Int) (by omega) (by omega)
                rw [Int.toNat_natCast, show rd row (j : Int) = row.getD j 0 from by simp [rd]] at x7
                rw [getD_cons_drop 0 hjl] at hcr
                have hsb := HRS.out j hjl
                obtain ⟨s9, hs9⟩ : ∃ s9, row.getD j 0 = s9 := ⟨_, rfl⟩
                rw [hs9] at x7 hcr hsb
                obtain ⟨hsb1, hsb2⟩ := hsb
                obtain ⟨a6, e6, v0, v1, v2⟩ := at_T50 HR1.out s9 hsb1 hsb2
                have hpb := HRB.out s9.toNat (by omega)
                obtain ⟨p9, hp9⟩ : ∃ p9, S.getD s9.toNat z50 = p9 := ⟨_, rfl⟩
                rw [show rd_T50 S s9 = p9 from by rw [← hp9]; rfl] at v0 v1 v2
                rw [hp9] at hpb
                obtain ⟨hpb1, hpb2⟩ := hpb
                have q0 := pw_cell_below hbl v0
                have q1 := pw_cell_below hbl v1
                have q2 := pw_cell_below hbl v2
                have j1 := cell_of_heap hbx (j := 1) rfl
                unfold crowdIn at hcr
                rw [hp9] at hcr
                have hL : (Instr.lookup 97 (.map (some m)) (.agg #[.int .i64 p9.f0, .int .i64 p9.f1, .int .i64 p9.f2]) false).run Try.prog wr = .ok (.bool (decide (fullKey p9 ∈ ks))) wr := run_lookup_set m ks (fullKey p9) wr hset
                have HV := Go.Lib.hid (And.intro v0 (And.intro v1 v2))
                have REL := Go.Lib.hid (And.intro hset (And.intro hcr (And.intro hbl hbx)))
                clear hset hcr hbl hbx HID hs9 hp9 v0 v1 v2
                subst e7; subst e6
                by_cases hin : fullKey p9 ∈ ks
                · rw [decide_eq_true hin] at hL
                  have hcr := REL.out.2.1
                  rw [if_pos hin] at hcr
                  have HCR2 := Go.Lib.hid hcr
                  clear hin hcr
                  go_wp2_with fail
                  go_roundw
                  case rel => exact ⟨j + 1, by omega, by simp, z, rfl, by omega, by omega, ks, REL.out.1, HCR2.out, REL.out.2.2.1, REL.out.2.2.2⟩
                  case measure => simp [intOf]; omega
                · rw [decide_eq_false hin] at hL
                  obtain ⟨U, hU, hUs, hUg, hUz⟩ := run_update_set m ks (fullKey p9) wr REL.out.1 hin
                  have hU' : (Instr.mapUpdate 97 (.map (some m)) (.agg #[.int .i64 p9.f0, .int .i64 p9.f1, .int .i64 p9.f2]) (.bool true)).run Try.prog wr = .ok () U := hU
                  have hblU : Below w.heap.size w U := REL.out.2.2.1.grown hUg REL.out.2.2.1.size (fun i hi => by cases hi; omega)
                  have hbxU := (hUg.block w.heap.size (Array.getElem?_eq_some_iff.1 REL.out.2.2.2).1 (by simp; omega)).trans REL.out.2.2.2
                  have y0 := pw_cell_below hblU HV.out.1
                  have y1 := pw_cell_below hblU HV.out.2.1
                  have y2 := pw_cell_below hblU HV.out.2.2
                  have jj := cell_of_heap hbxU (j := 1) rfl
                  have hcr := REL.out.2.1
                  rw [if_neg hin] at hcr
                  have RELU := Go.Lib.hid (And.intro hUs (And.intro hcr (And.intro hblU hbxU)))
                  clear hU hUs hUg hUz hblU hbxU hcr hin
                  by_cases hde : s9 = de
                  · subst hde
                    have hcr := RELU.out.2.1
                    rw [if_pos rfl] at hcr
                    have HCR2 := Go.Lib.hid hcr
                    clear hcr
                    go_wp2_with fail
                    go_roundw
                    case rel => exact ⟨j + 1, by omega, by simp, z - p9.f2 + 1, by simp, by omega, by omega, _, RELU.out.1, HCR2.out, RELU.out.2.2.1, RELU.out.2.2.2⟩
                    case measure => simp [intOf]; omega
                  · have g5 : (s9 == de) = false := by simpa using hde
                    have hcr := RELU.out.2.1
                    rw [if_neg hde] at hcr
                    have HCR2 := Go.Lib.hid hcr
                    clear hcr hde
                    go_wp2_with fail
                    go_roundw
                    case rel => exact ⟨j + 1, by omega, by simp, z - p9.f2, by simp, by omega, by omega, _, RELU.out.1, HCR2.out, RELU.out.2.2.1, RELU.out.2.2.2⟩
                    case measure => simp [intOf]; omega
              · obtain rfl : j = row.length := by omega
                rw [List.drop_length] at hcr
                have REL := Go.Lib.hid (And.intro hset (And.intro hcr (And.intro hbl hbx)))
                clear hset hcr hbl hbx HID
                go_wp2_with fail
                go_roundw
                case rel => exact ⟨k + 1, by omega, by simp, z, rfl, by omega, by omega, ks, REL.out.1, REL.out.2.1, REL.out.2.2.1, REL.out.2.2.2⟩
                case measure => simp [intOf]; omega
      · obtain rfl : k = finds.length := by omega
        obtain ⟨ks, hset, hcr, hbl, hbx⟩ := HID.out
        rw [List.drop_length] at hcr
        have hq : q = decide (0 < z) := by rw [HQ2.out, ← hcr]; rfl
        subst hq
        have HBL := Go.Lib.hid hbl
        clear hset hcr hbl hbx HID
        go_wp2_with fail
        go_ret
        exact ⟨rfl, HBL.out⟩
end Go.Proofs.Ytkmmihadcbfkoaa
end

section
namespace Go.Proofs.Ytkmmihadcbfkoaa
open PM
set_option linter.unusedVariables false
set_option linter.unusedSimpArgs false
/-- The pieces of the slots of a list, each once. -/
def tot (S : List S50) (met : List Nat) : Int := ((List.range S.length).map fun s => if s ∈ met then (S.getD s z50).f2 else 0).sum
def deIn (de : Int) (met : List Nat) : Int := if 0 ≤ de ∧ de.toNat ∈ met then 1 else 0
theorem sum_step (f : Nat → Int) (met : List Nat) (s : Nat) (hs : s ∉ met) : ∀ n, ((List.range n).map fun t => if t ∈ met ++ [s] then f t else 0).sum = ((List.range n).map fun t => if t ∈ met then f t else 0).sum + if s < n then f s else 0
  | 0 => by simp
  | n + 1 => by
    rw [List.range_succ, List.map_append, List.map_append, List.sum_append, List.sum_append, sum_step f met s hs n]
    simp only [List.map_cons, List.map_nil, List.sum_cons, List.sum_nil, Int.add_zero]
    by_cases e : n = s
    · subst e
      have e1 : n ∈ met ++ [n] := by simp
      rw [if_pos e1, if_neg hs, if_neg (show ¬ n < n by omega), if_pos (show n < n + 1 by omega)]
    · have h1 : (n ∈ met ++ [s]) ↔ n ∈ met := by simp [e]
      by_cases hm : n ∈ met
      · rw [if_pos (h1.2 hm), if_pos hm]
        by_cases hl : s < n
        · rw [if_pos hl, if_pos (by omega)]; omega
        · rw [if_neg hl, if_neg (by omega)]; omega
      · rw [if_neg (fun h => hm (h1.1 h)), if_neg hm]
        by_cases hl : s < n
        · rw [if_pos hl, if_pos (by omega)]; omega
        · rw [if_neg hl, if_neg (by omega)]
theorem tot_step (S : List S50) (met : List Nat) (s : Nat) (hs : s ∉ met) (hl : s < S.length) : tot S (met ++ [s]) = tot S met + (S.getD s z50).f2 := by
  unfold tot
  rw [sum_step (fun t => (S.getD t z50).f2) met s hs, if_pos hl]
theorem de_step (de : Int) (met : List Nat) (s : Nat) (hs : s ∉ met) : deIn de (met ++ [s]) = deIn de met + if (s : Int) = de then 1 else 0 := by
  unfold deIn
  by_cases e : (s : Int) = de
  · have : de.toNat = s := by omega
    rw [if_pos ⟨by omega, by rw [this]; simp⟩, if_neg (fun h => hs (this ▸ h.2)), if_pos e]
    rfl
  · rw [if_neg e, Int.add_zero]
    by_cases h : 0 ≤ de ∧ de.toNat ∈ met
    · rw [if_pos h, if_pos ⟨h.1, by simp [h.2]⟩]
    · rw [if_neg h, if_neg (fun k => h ⟨k.1, by
        have := k.2
        simp only [List.mem_append, List.mem_singleton] at this
        rcases this with h1 | h1
        · exact h1
        · exact absurd (show (s : Int) = de by omega) e⟩)]
/-- What is known of the slots met. -/
structure Met (S : List S50) (met : List Nat) (ks : List (Int × Int × Int)) : Prop where
  keys : ks = met.map fun s => fullKey (S.getD s z50)
  lt : ∀ s, s ∈ met → s < S.length
theorem crowdIn_met {S : List S50} (hinj : ∀ a b : Nat, a < S.length → b < S.length → fullKey (S.getD a z50) = fullKey (S.getD b z50) → a = b) (de : Int) : ∀ (row : List Int) (met : List Nat) (ks : List (Int × Int × Int)) (n : Int),
    (∀ s, s ∈ row → 0 ≤ s ∧ s < S.length) → Met S met ks → ∃ met', Met S met' (crowdIn S de row ks n).1 ∧ (∀ s : Nat, s ∈ met' ↔ s ∈ met ∨ (s : Int) ∈ row) ∧ (crowdIn S de row ks n).2 = n - (tot S met' - tot S met) + (deIn de met' - deIn de met)
  | [], met, ks, n, _, hm => ⟨met, hm, fun s => by simp, by show n = _; omega⟩
  | s :: ss, met, ks, n, hr, hm => by
    obtain ⟨h0, h1⟩ := hr s (by simp)
    have hr' : ∀ t, t ∈ ss → 0 ≤ t ∧ t < S.length := fun t ht => hr t (by simp [ht])
    have hsn : s.toNat < S.length := by omega
    have hst : ((s.toNat : Nat) : Int) = s := by omega
    unfold crowdIn
    by_cases hin : fullKey (S.getD s.toNat z50) ∈ ks
    · rw [if_pos hin]
      have hmm : s.toNat ∈ met := by
        rw [hm.keys] at hin
        obtain ⟨t, ht, he⟩ := List.mem_map.1 hin
        have := hinj t s.toNat (hm.lt t ht) hsn he
        rw [← this]; exact ht
      obtain ⟨met', a1, a2, a3⟩ := crowdIn_met hinj de ss met ks n hr' hm
      refine ⟨met', a1, fun t => ?_, a3⟩
      rw [a2 t]
      constructor
      · rintro (h | h)
        · exact Or.inl h
        · exact Or.inr (by simp [h])
      · rintro (h | h)
        · exact Or.inl h
        · rcases List.mem_cons.1 h with e | h
          · exact Or.inl (by rw [show t = s.toNat by omega]; exact hmm)
          · exact Or.inr h
    · rw [if_neg hin]
      have hmm : s.toNat ∉ met := fun h => hin (by rw [hm.keys]; exact List.mem_map.2 ⟨_, h, rfl⟩)
      have hm2 : Met S (met ++ [s.toNat]) (ks ++ [fullKey (S.getD s.toNat z50)]) := ⟨by rw [hm.keys, List.map_append]; rfl, fun t ht => by
        rcases List.mem_append.1 ht with h | h
        · exact hm.lt t h
        · rw [List.mem_singleton.1 h]; exact hsn⟩
      obtain ⟨met', a1, a2, a3⟩ := crowdIn_met hinj de ss (met ++ [s.toNat]) (ks ++ [fullKey (S.getD s.toNat z50)]) (if s = de then n - (S.getD s.toNat z50).f2 + 1 else n - (S.getD s.toNat z50).f2) hr' hm2
      refine ⟨met', a1, fun t => ?_, ?_⟩
      · rw [a2 t]
        constructor
        · rintro (h | h)
          · rcases List.mem_append.1 h with h | h
            · exact Or.inl h
            · exact Or.inr (List.mem_cons.2 (Or.inl (by rw [List.mem_singleton.1 h]; exact hst)))
          · exact Or.inr (List.mem_cons.2 (Or.inr h))
        · rintro (h | h)
          · exact Or.inl (List.mem_append.2 (Or.inl h))
          · rcases List.mem_cons.1 h with h | h
            · exact Or.inl (List.mem_append.2 (Or.inr (List.mem_singleton.2 (by omega))))
            · exact Or.inr h
      · rw [a3, tot_step S met _ hmm hsn, de_step de met _ hmm, hst]
        by_cases e : s = de
        · rw [if_pos e, if_pos e]; omega
        · rw [if_neg e, if_neg e]; omega
end Go.Proofs.Ytkmmihadcbfkoaa
end
