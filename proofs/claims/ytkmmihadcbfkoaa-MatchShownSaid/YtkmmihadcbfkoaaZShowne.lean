/-
  MatchShown holds: for every board, find, slot and two lists, the law returns true and what it is given reads as it did. (part 5 of 6 of the texts that it stands on)
-/
import Derived.Laws.EntriesVeiled
import Derived.WalkMore
import Derived.Deep.RegionHeld3
import Derived.Test.YtkmmihadcbfkoaaZShownd
section
namespace Go.Proofs.Ytkmmihadcbfkoaa.PM
open Go.RowKit Go.Proofs.YtkmmihadcbfkoaaW.PrintWords Go.Proofs.YtkmmihadcbfkoaaW.PrintLast Go.Proofs.YtkmmihadcbfkoaaW.PrintMore
set_option linter.unusedVariables false
set_option linter.unusedSimpArgs false
mutual
def laganref04_short.l0 : Nat → List Int → Int → List Bool → Int → List Int → List (S50) → List (List Int) → Option (Bool)
 | 0, _, _, _, _, _, _, _ => none
 | k + 1, x1, x2, x7, x8, x427000, x427001, x427002 => if x8 < (x1.length : Int) then (if 0 ≤ x8 then (if 0 ≤ (rd x1 x8) then (if (rd x1 x8) < (x427002.length : Int) then (if ((rd_L1 x427002 (rd x1 x8)).length : Int) = 0 then (some false) else (laganref04_short.l1 k x1 x2 x7 x8 0 x427000 x427001 x427002)) else (none)) else (none)) else (none)) else (laganref04_short.l2 k x1 x2 x7 0 0 x427000 x427001 x427002)
def laganref04_short.l1 : Nat → List Int → Int → List Bool → Int → Int → List Int → List (S50) → List (List Int) → Option (Bool)
 | 0, _, _, _, _, _, _, _, _ => none
 | k + 1, x1, x2, x7, x8, x9, x427000, x427001, x427002 => if 0 ≤ x8 then (if x8 < (x1.length : Int) then (if 0 ≤ (rd x1 x8) then (if (rd x1 x8) < (x427002.length : Int) then (if x9 < ((rd_L1 x427002 (rd x1 x8)).length : Int) then (if 0 ≤ x9 then (if 0 ≤ (rd (rd_L1 x427002 (rd x1 x8)) x9) then (if (rd (rd_L1 x427002 (rd x1 x8)) x9) < (x7.length : Int) then (laganref04_short.l1 k x1 x2 (x7.set ((rd (rd_L1 x427002 (rd x1 x8)) x9) : Int).toNat true) x8 (wrap64 (x9 + 1)) x427000 x427001 x427002) else (none)) else (none)) else (none)) else (laganref04_short.l0 k x1 x2 x7 (wrap64 (x8 + 1)) x427000 x427001 x427002)) else (none)) else (none)) else (none)) else (none)
def laganref04_short.l2 : Nat → List Int → Int → List Bool → Int → Int → List Int → List (S50) → List (List Int) → Option (Bool)
 | 0, _, _, _, _, _, _, _, _ => none
 | k + 1, x1, x2, x7, x10, x11, x427000, x427001, x427002 => if x11 < (x7.length : Int) then (if 0 ≤ x11 then (if rdOf false x7 x11 = true then (if x11 < (x427001.length : Int) then (if x11 = x2 then (laganref04_short.l2 k x1 x2 x7 (wrap64 ((wrap64 (x10 + ((rd_T50 x427001 x11).f2))) - 1)) (wrap64 (x11 + 1)) x427000 x427001 x427002) else (laganref04_short.l2 k x1 x2 x7 (wrap64 (x10 + ((rd_T50 x427001 x11).f2))) (wrap64 (x11 + 1)) x427000 x427001 x427002)) else (none)) else (laganref04_short.l2 k x1 x2 x7 x10 (wrap64 (x11 + 1)) x427000 x427001 x427002)) else (none)) else (some (decide (x10 < (x1.length : Int))))
end
def laganref04_short.f (k : Nat) (l0_0 : List Int) (l0_1 : List (S50)) (l0_2 : List (List Int)) (l1 : List Int) (a2 : Int) : Option (Bool) := (laganref04_ascending.f k l1 (l0_0.length : Int)).bind fun t427 => (if t427 = true then (if 0 ≤ (l0_1.length : Int) then (if ((l0_1.length : Int) : Int).toNat ≤ 281474976710656 then (laganref04_short.l0 k l1 a2 (List.replicate ((l0_1.length : Int) : Int).toNat false) 0 l0_0 l0_1 l0_2) else (none)) else (none)) else (some false))
theorem laganref04_short.mono_l : ∀ k, (∀ y0 y1 y2 y3 y4 y5 y6, LeO (laganref04_short.l0 k y0 y1 y2 y3 y4 y5 y6) (laganref04_short.l0 (k + 1) y0 y1 y2 y3 y4 y5 y6)) ∧ (∀ y0 y1 y2 y3 y4 y5 y6 y7, LeO (laganref04_short.l1 k y0 y1 y2 y3 y4 y5 y6 y7) (laganref04_short.l1 (k + 1) y0 y1 y2 y3 y4 y5 y6 y7)) ∧ (∀ y0 y1 y2 y3 y4 y5 y6 y7, LeO (laganref04_short.l2 k y0 y1 y2 y3 y4 y5 y6 y7) (laganref04_short.l2 (k + 1) y0 y1 y2 y3 y4 y5 y6 y7))
 | 0 => ⟨fun _ _ _ _ _ _ _ r h => by simp [laganref04_short.l0] at h, fun _ _ _ _ _ _ _ _ r h => by simp [laganref04_short.l1] at h, fun _ _ _ _ _ _ _ _ r h => by simp [laganref04_short.l2] at h⟩
 | k + 1 => by
  obtain ⟨ih0, ih1, ih2⟩ := laganref04_short.mono_l k
  refine ⟨?_, ?_, ?_⟩
  ·
   intro y0 y1 y2 y3 y4 y5 y6
   unfold laganref04_short.l0
   repeat' first
   | (with_reducible exact ih0 _ _ _ _ _ _ _)
   | (with_reducible exact ih1 _ _ _ _ _ _ _ _)
   | (with_reducible exact ih2 _ _ _ _ _ _ _ _)
   | (with_reducible exact laganref04_ascending.mono _ _ _)
   | (with_reducible exact LeO.refl _)
   | (with_reducible exact LeO.none _)
   | (with_reducible refine LeO.ite ?_ ?_)
   | (with_reducible refine LeO.bind ?_ (fun _ => ?_))
   | exact ih0 _ _ _ _ _ _ _
   | exact ih1 _ _ _ _ _ _ _ _
   | exact ih2 _ _ _ _ _ _ _ _
   | exact laganref04_ascending.mono _ _ _
   | exact LeO.none _
   | refine LeO.ite ?_ ?_
   | refine LeO.bind ?_ (fun _ => ?_)
  ·
   intro y0 y1 y2 y3 y4 y5 y6 y7
   unfold laganref04_short.l1
   repeat' first
   | (with_reducible exact ih0 _ _ _ _ _ _ _)
   | (with_reducible exact ih1 _ _ _ _ _ _ _ _)
   | (with_reducible exact ih2 _ _ _ _ _ _ _ _)
   | (with_reducible exact laganref04_ascending.mono _ _ _)
   | (with_reducible exact LeO.refl _)
   | (with_reducible exact LeO.none _)
   | (with_reducible refine LeO.ite ?_ ?_)
   | (with_reducible refine LeO.bind ?_ (fun _ => ?_))
   | exact ih0 _ _ _ _ _ _ _
   | exact ih1 _ _ _ _ _ _ _ _
   | exact ih2 _ _ _ _ _ _ _ _
   | exact laganref04_ascending.mono _ _ _
   | exact LeO.none _
   | refine LeO.ite ?_ ?_
   | refine LeO.bind ?_ (fun _ => ?_)
  ·
   intro y0 y1 y2 y3 y4 y5 y6 y7
   unfold laganref04_short.l2
   repeat' first
   | (with_reducible exact ih0 _ _ _ _ _ _ _)
   | (with_reducible exact ih1 _ _ _ _ _ _ _ _)
   | (with_reducible exact ih2 _ _ _ _ _ _ _ _)
   | (with_reducible exact laganref04_ascending.mono _ _ _)
   | (with_reducible exact LeO.refl _)
   | (with_reducible exact LeO.none _)
   | (with_reducible refine LeO.ite ?_ ?_)
   | (with_reducible refine LeO.bind ?_ (fun _ => ?_))
   | exact ih0 _ _ _ _ _ _ _
   | exact ih1 _ _ _ _ _ _ _ _
   | exact ih2 _ _ _ _ _ _ _ _
   | exact laganref04_ascending.mono _ _ _
   | exact LeO.none _
   | refine LeO.ite ?_ ?_
   | refine LeO.bind ?_ (fun _ => ?_)
theorem laganref04_short.mono : ∀ a0 a1 a2 a3 a4 k, LeO (laganref04_short.f k a0 a1 a2 a3 a4) (laganref04_short.f (k + 1) a0 a1 a2 a3 a4) := by
 intro a0 a1 a2 a3 a4 k
 obtain ⟨ih0, ih1, ih2⟩ := laganref04_short.mono_l k
 unfold laganref04_short.f
 repeat' first
   | (with_reducible exact ih0 _ _ _ _ _ _ _)
   | (with_reducible exact ih1 _ _ _ _ _ _ _ _)
   | (with_reducible exact ih2 _ _ _ _ _ _ _ _)
   | (with_reducible exact laganref04_ascending.mono _ _ _)
   | (with_reducible exact LeO.refl _)
   | (with_reducible exact LeO.none _)
   | (with_reducible refine LeO.ite ?_ ?_)
   | (with_reducible refine LeO.bind ?_ (fun _ => ?_))
   | exact ih0 _ _ _ _ _ _ _
   | exact ih1 _ _ _ _ _ _ _ _
   | exact ih2 _ _ _ _ _ _ _ _
   | exact laganref04_ascending.mono _ _ _
   | exact LeO.none _
   | refine LeO.ite ?_ ?_
   | refine LeO.bind ?_ (fun _ => ?_)
def laganref04_short.T7 : Bool × List (List Nat × List Nat) := (true, [([], []), ([0], [0]), ([], []), ([], []), ([2, 3], [2, 3]), ([4], [4]), ([1, 5], [1, 5]), ([6], [6]), ([7], [7]), ([8], [8])])
def laganref04_short.B7 : List Nat := [0, 1, 0, 0, 12, 28, 63, 127, 255, 511]
theorem laganref04_short.tab7 : rtab .any (opsOf Try.f73 7) = laganref04_short.T7 := by kernel_rfl
theorem laganref04_short.bits7 : waitsOk laganref04_short.T7.2 laganref04_short.B7 = true := by kernel_rfl
def laganref04_short.T10 : Bool × List (List Nat × List Nat) := (true, [([], []), ([], []), ([1], [1]), ([], []), ([], []), ([3, 4], [3, 4]), ([5], [5]), ([2, 6], [2, 6]), ([7], [7]), ([8], [8]), ([0, 9], [0, 9])])
def laganref04_short.B10 : List Nat := [0, 0, 2, 0, 0, 24, 56, 126, 254, 510, 1023]
theorem laganref04_short.tab10 : rtab .any (opsOf Try.f73 10) = laganref04_short.T10 := by kernel_rfl
theorem laganref04_short.bits10 : waitsOk laganref04_short.T10.2 laganref04_short.B10 = true := by kernel_rfl
def laganref04_short.T12 : Bool × List (List Nat × List Nat) := (true, [([], []), ([], []), ([1], [1]), ([], []), ([], []), ([3, 4], [3, 4]), ([5], [5]), ([2, 6], [2, 6]), ([7], [7]), ([], []), ([8, 9], [8, 9]), ([10], [10]), ([0, 11, 0, 1, 2, 3, 4, 5, 6, 7, 8, 9, 10, 11], [0, 11]), ([12, 0, 1, 2, 3, 4, 5, 6, 7, 8, 9, 10, 11], [12])])
def laganref04_short.B12 : List Nat := [0, 0, 2, 0, 0, 24, 56, 126, 254, 0, 1022, 2046, 4095, 8191]
theorem laganref04_short.tab12 : rtab .any (opsOf Try.f73 12) = laganref04_short.T12 := by kernel_rfl
theorem laganref04_short.bits12 : waitsOk laganref04_short.T12.2 laganref04_short.B12 = true := by kernel_rfl
set_option maxHeartbeats 8000000 in
set_option maxRecDepth 100000 in
theorem laganref04_short.calls (k : Nat) (A0_0 : Option Addr) (c0_0 : Nat) (l0_0 : List Int) (A0_1 : Option Addr) (c0_1 : Nat) (l0_1 : List (S50)) (A0_2 : Option Addr) (c0_2 : Nat) (l0_2 : List (List Int)) (A1 : Option Addr) (c1 : Nat) (l1 : List Int) (a2 : Int) (r : Bool) (w : World) (hr0_0 : Kd.C (Kd.int .i64) w A0_0 l0_0.length l0_0) (hc0_0 : l0_0.length ≤ c0_0) (hr0_1 : Kd.C k50 w A0_1 l0_1.length l0_1) (hc0_1 : l0_1.length ≤ c0_1) (hr0_2 : Kd.C (Kd.slice 3 (Kd.int .i64)) w A0_2 l0_2.length l0_2) (hc0_2 : l0_2.length ≤ c0_2) (hr1 : Kd.C (Kd.int .i64) w A1 l1.length l1) (hc1 : l1.length ≤ c1) (h : laganref04_short.f k l0_0 l0_1 l0_2 l1 a2 = some r) :
  Calls Try.prog 73 #[.agg #[.slice A0_0 l0_0.length c0_0, .slice A0_1 l0_1.length c0_1, .slice A0_2 l0_2.length c0_2], .slice A1 l1.length c1, .int .i64 a2] w fun e w' => e = .returned (.bool r) ∧ Below w.heap.size w w' := by
 have hu26 := Try.underlying26
 have HR0_0 := Aside0.mk hr0_0
 have HC0_0 := Aside0.mk hc0_0
 clear hr0_0 hc0_0
 have HR0_1 := Aside0.mk hr0_1
 have HC0_1 := Aside0.mk hc0_1
 clear hr0_1 hc0_1
 have HR0_2 := Aside0.mk hr0_2
 have HC0_2 := Aside0.mk hc0_2
 clear hr0_2 hc0_2
 have HR1 := Aside0.mk hr1
 have HC1 := Aside0.mk hc1
 clear hr1 hc1
 have HB := Aside0.mk (Below.refl w.heap.size w)
 have H : ((laganref04_ascending.f k l1 (l0_0.length : Int)).bind fun t427 => (if t427 = true then (if 0 ≤ (l0_1.length : Int) then (if ((l0_1.length : Int) : Int).toNat ≤ 281474976710656 then (laganref04_short.l0 k l1 a2 (List.replicate ((l0_1.length : Int) : Int).toNat false) 0 l0_0 l0_1 l0_2) else (none)) else (none)) else (some false))) = some r := h
 clear h
 replace H := Option.bind_eq_some_iff.mp H
 obtain ⟨t427, A40, H⟩ := H
 replace H : (if t427 = true then (if 0 ≤ (l0_1.length : Int) then (if ((l0_1.length : Int) : Int).toNat ≤ 281474976710656 then (laganref04_short.l0 k l1 a2 (List.replicate ((l0_1.length : Int) : Int).toNat false) 0 l0_0 l0_1 l0_2) else (none)) else (none)) else (some false)) = some r := H
 have A4 := Aside0.mk A40
 clear A40
 by_cases c5 : t427 = true
 ·
  subst c5
  have H1 : (if 0 ≤ (l0_1.length : Int) then (if ((l0_1.length : Int) : Int).toNat ≤ 281474976710656 then (laganref04_short.l0 k l1 a2 (List.replicate ((l0_1.length : Int) : Int).toNat false) 0 l0_0 l0_1 l0_2) else (none)) else (none)) = some r := by rw [if_pos rfl] at H; exact H
  clear H
  have H := H1
  clear H1
  by_cases c6 : 0 ≤ (l0_1.length : Int)
  ·
   rw [if_pos c6] at H
   have c6b0 := eq_true c6
   have c6b1 : decide (0 ≤ (l0_1.length : Int)) = true := decide_eq_true c6
   clear c6
   by_cases c7 : ((l0_1.length : Int) : Int).toNat ≤ 281474976710656
   ·
    rw [if_pos c7] at H
    have c7b0 := eq_true c7
    have c7b1 : decide (((l0_1.length : Int) : Int).toNat ≤ 281474976710656) = true := decide_eq_true c7
    clear c7
    obtain ⟨y428, hy428⟩ : ∃ y_ : List Bool, y_ = (List.replicate ((l0_1.length : Int) : Int).toNat false) := ⟨_, rfl⟩
    replace H : (laganref04_short.l0 k l1 a2 y428 0 l0_0 l0_1 l0_2) = some r := by first | (rw [hy428]; with_reducible exact H) | (have H2_ := (Option.bind_some _ _).symm.trans H; rw [hy428]; with_reducible exact H2_) | (have H2_ := (Option.bind_some _ _).symm.trans H; with_reducible exact H2_) | with_reducible exact H | (rw [hy428]; exact H) | exact H
    have Ny428 := Aside0.mk hy428
    clear hy428
    have H' := Aside0.mk H
    clear H
    go_enter Try.func73, Try.ntmps73
    go_wp2_with (first | ((with_reducible refine gate_dst (N := 3) rfl ?_); refine box_event ?hg (N := 3) ?hd (cs := #[.slice A0_0 l0_0.length c0_0, .slice A0_1 l0_1.length c0_1, .slice A0_2 l0_2.length c0_2]) (t := 26) ?hr ?_; (case hd => rfl); (case hg => rfl); (case hr => first | (go_simp; done) | (go_simp; rfl)); intro gb426 hg w8 hbox hb; have n0_ := Aside0.mk (below_step (by repeat (first | (with_reducible first | exact HB.out | apply below_alloc | apply pw_below_drewN | apply below_drew1) | exact HB.out)) hb); have n1_ := Aside0.mk (hbox); have n2_ := Aside0.mk ((by rw [hg]; exact (below_size (by repeat (first | (with_reducible first | exact HB.out | apply below_alloc | apply pw_below_drewN | apply below_drew1) | exact HB.out))) : w.heap.size ≤ gb426)); have n3_ := Aside0.mk ((by rw [hg]; exact (below_size (by repeat (first | (with_reducible first | exact HB.out | apply below_alloc | apply pw_below_drewN | apply below_drew1) | exact HB.out))) : w.heap.size ≤ gb426)); clear HB; have HB := n0_; have BK426 := n1_; have GW426 := n2_; have GE426 := n3_; clear n0_ n1_ n2_ n3_; clear hb hbox hg; have hcz9_0 : w8.cell? ⟨gb426, 0, none⟩ = some (.slice A0_0 l0_0.length c0_0) := (blk_cell BK426.out 0).trans rfl; have hcz9_1 : w8.cell? ⟨gb426, 1, none⟩ = some (.slice A0_1 l0_1.length c0_1) := (blk_cell BK426.out 1).trans rfl; have hcz9_2 : w8.cell? ⟨gb426, 2, none⟩ = some (.slice A0_2 l0_2.length c0_2) := (blk_cell BK426.out 2).trans rfl; have hfz9_0 := blk_frozen BK426.out 0; have hfz9_1 := blk_frozen BK426.out 1; have hfz9_2 := blk_frozen BK426.out 2) | ((with_reducible refine gate_callee (f := 62) rfl ?_); refine goesL_ (some 16) rfl rfl Try.func62 (by kernel_rfl) rfl #[.slice A1 l1.length c1, .int .i64 (l0_0.length : Int)] rfl (by (try simp only [List.map_toArray, List.map_cons, List.map_nil]); first | done | rfl | (simp only [List.length_drop, List.length_take]; rfl)) ?_; (with_reducible refine (laganref04_ascending.calls k _ _ l1 (l0_0.length : Int) true _ ?side1 ?side2 A4.out).mono ?_); (case side1 => repeat (first | exact (Kd.C_below HR1.out HB.out) | (with_reducible refine Kd.C_alloc ?_ _) | (with_reducible refine Kd.C_drewN ?_ _) | (with_reducible refine Kd.C_drew ?_))); (case side2 => exact HC1.out); rintro e w' ⟨rfl, ⟨nd, rfl⟩⟩; refine ⟨_, rfl, ?_⟩) | ((with_reducible refine gate_dst (N := 21) rfl ?_); refine Kd.R_make Kd.bool _ 4 rfl (N := 21) rfl 104 _ _ rfl (l0_1.length : Int) rfl rfl Try.underlying104 (.bool false) 1 info4 rfl (by decide) (by omega) false (ok := fun _ => True) (okp := fun _ => True) rfl (fun _ hk => hk) trivial (of_decide_eq_true (by first | (with_reducible assumption) | assumption)) (Nat.le_trans (Nat.mul_le_mul_right _ (of_decide_eq_true (by first | (with_reducible assumption) | assumption) : (l0_1.length : Int).toNat ≤ 281474976710656)) (by omega)) (Below.refl _ _) (Nat.le_refl _) ?_; intro v429 w10 ho11 hb hg_ hnew_; clear hg_ hnew_; (first | rw [← Ny428.out] at ho11 | (simp only [Int.reduceToNat] at ho11; rw [← Ny428.out] at ho11)); have n0_ := Aside0.mk (Kd.R_lower ho11 (below_size (by repeat (first | (with_reducible first | exact HB.out | apply below_alloc | apply pw_below_drewN | apply below_drew1 | refine below_set ?_ GE426.out) | exact HB.out)))); have n1_ := Aside0.mk (blk_below (g := gb426) (o := .cells #[.slice A0_0 l0_0.length c0_0, .slice A0_1 l0_1.length c0_1, .slice A0_2 l0_2.length c0_2] 26 (0, 0)) (by (with_reducible repeat (first | refine blk_drewN ?_ _ | refine blk_drew ?_ | refine blk_alloc ?_ _)); exact BK426.out) hb); have n2_ := Aside0.mk (below_step (by repeat (first | (with_reducible first | exact HB.out | apply below_alloc | apply pw_below_drewN | apply below_drew1 | refine below_set ?_ GE426.out) | exact HB.out)) hb); clear BK426; clear HB; have HO430 := n0_; have BK426 := n1_; have HB := n2_; clear n0_ n1_ n2_; clear hb ho11))
    go_loopg [8] k (fun kq v8 w' => ∃ (x7_1 : List Bool) (x8_1 : Int), v8 = .int .i64 x8_1 ∧ Aside0 (laganref04_short.l0 kq l1 a2 x7_1 x8_1 l0_0 l0_1 l0_2 = some r) ∧ Aside0 (kq ≤ k) ∧ Aside0 (Kd.R Kd.bool 4 w' w.heap.size (fun _ => True) v429 x7_1) ∧ Aside0 (w'.heap[gb426]? = some (.cells #[(.slice A0_0 l0_0.length c0_0), (.slice A0_1 l0_1.length c0_1), (.slice A0_2 l0_2.length c0_2)] 26 (0, 0))) ∧ Aside0 (Below w.heap.size w w'))
    case atStart => exact ⟨(y428), (0), (by first | rfl | (simp; done) | (simp [*]; done)), H', ⟨Nat.le_refl _⟩, ⟨by (with_reducible repeat (first | apply Kd.R_alloc | apply Kd.R_drewN | apply Kd.R_drew)); exact HO430.out⟩, ⟨by (with_reducible repeat (first | refine blk_drewN ?_ _ | refine blk_drew ?_ | refine blk_alloc ?_ _)); exact BK426.out⟩, ⟨by repeat (first | (with_reducible first | exact HB.out | apply below_alloc | apply pw_below_drewN | apply below_drew1 | refine below_set ?_ GE426.out) | exact HB.out)⟩⟩
    case round =>
     clear H'
     try clear c1
     try clear p2
     try clear c5
     try clear c6
     try clear c6b0
     try clear c6b1
     try clear c7
     try clear c7b0
     try clear c7b1
     try clear hcz9_0
     try clear hcz9_1
     try clear hcz9_2
     try clear hfz9_0
     try clear hfz9_1
     try clear hfz9_2
     obtain ⟨x7_1, x8_1, rfl, HA, HK1, HO_7, BK426, HB⟩ := hrel
     cases gk with
     | zero => exact absurd HA.out (by simp [laganref04_short.l0])
     | succ k1 =>
      have H := HA.out
      clear HA
      simp only [laganref04_short.l0] at H
      by_cases c12 : x8_1 < (l1.length : Int)
      ·
       rw [if_pos c12] at H
       have c12b0 : decide (x8_1 < (l1.length : Int)) = true := decide_eq_true c12
       clear c12
       by_cases c13 : 0 ≤ x8_1
       ·
        rw [if_pos c13] at H
        have c13b0 : decide (0 ≤ x8_1) = true := decide_eq_true c13
        clear c13
        by_cases c14 : 0 ≤ (rd l1 x8_1)
        ·
         rw [if_pos c14] at H
         have c14b0 : decide (0 ≤ (rd l1 x8_1)) = true := decide_eq_true c14
         clear c14
         by_cases c15 : (rd l1 x8_1) < (l0_2.length : Int)
         ·
          rw [if_pos c15] at H
          have c15b0 : decide ((rd l1 x8_1) < (l0_2.length : Int)) = true := decide_eq_true c15
          clear c15
          by_cases c16 : ((rd_L1 l0_2 (rd l1 x8_1)).length : Int) = 0
          ·
           rw [if_pos c16] at H
           have c16b0 : (((rd_L1 l0_2 (rd l1 x8_1)).length : Int) == 0) = true := beq_iff_eq.mpr c16
           have c16b1 : (((rd_L1 l0_2 (rd l1 x8_1)).length : Int) != 0) = false := bne_eq_false_iff_eq.mpr c16
           clear c16
           obtain rfl := Option.some.inj H
           try go_wp2
           have n0_ := Aside0.mk (Kd.R_drew HO_7.out)
           have n1_ := Aside0.mk (blk_drew BK426.out)
           have n2_ := Aside0.mk (below_drew1 HB.out)
           clear HO_7
           clear BK426
           clear HB
           have HO_7 := n0_
           have BK426 := n1_
           have HB := n2_
           clear n0_ n1_ n2_
           have p431 : 0 ≤ (x8_1 : Int) := of_decide_eq_true (by first | (with_reducible assumption) | assumption)
           have q431 : x8_1 < (l1.length : Int) := of_decide_eq_true (by first | (with_reducible assumption) | assumption)
           obtain ⟨ad431, e431, hx431_0⟩ := Kd.at_int HR1.out x8_1 p431 q431
           have hw431_0 := hx431_0
           cases e431
           replace hx431_0 := (HB.out.cell (World.block_lt_of_cell? w _ hx431_0)).trans hx431_0
           replace p431 := eq_true p431
           replace q431 := eq_true q431
           have p432 : 0 ≤ ((rd l1 x8_1) : Int) := of_decide_eq_true (by first | (with_reducible assumption) | assumption)
           have q432 : (rd l1 x8_1) < (l0_2.length : Int) := of_decide_eq_true (by first | (with_reducible assumption) | assumption)
           obtain ⟨ad432, A432_0, c432_0, e432, hx432_0, hl432_0, hi432_0⟩ := at_L1 HR0_2.out (rd l1 x8_1) p432 q432
           have hw432_0 := hx432_0
           cases e432
           replace hx432_0 := (HB.out.cell (World.block_lt_of_cell? w _ hx432_0)).trans hx432_0
           have HR432_0 := Aside0.mk hi432_0
           have HC432_0 := Aside0.mk hl432_0
           clear hi432_0 hl432_0
           replace p432 := eq_true p432
           replace q432 := eq_true q432
           refine start_ (n := 10) (S := fun w' => w'.cell? ⟨gb426, 0, none⟩ = some (.slice A0_0 l0_0.length c0_0) ∧ w'.cell? ⟨gb426, 1, none⟩ = some (.slice A0_1 l0_1.length c0_1) ∧ w'.cell? ⟨gb426, 2, none⟩ = some (.slice (some ad432) l0_2.length c0_2) ∧ w'.cell? (ad431.add (x8_1).toNat) = some (.int .i64 (rd l1 x8_1)) ∧ w'.cell? (ad432.add ((rd l1 x8_1)).toNat) = some (.slice A432_0 (rd_L1 l0_2 (rd l1 x8_1)).length c432_0)) (ds := []) #[false, false, false, false, false, false, false, false, false, false] (by kernel_rfl) rfl rfl ⟨(blk_cell BK426.out 0).trans rfl, (blk_cell BK426.out 1).trans rfl, (blk_cell BK426.out 2).trans rfl, ((HB.out.cell (World.block_lt_of_cell? w _ hw431_0)).trans hw431_0), ((HB.out.cell (World.block_lt_of_cell? w _ hw432_0)).trans hw432_0)⟩ (fun hHeld => ?_); refine with_tabW laganref04_short.tab7 laganref04_short.bits7 (fun HT_ HW_ => ?_)
           generalize wr.drew = w17 at HO_7 BK426 HB HR432_0 hx431_0 hx432_0 hHeld ⊢
           refine pure_ (i := 0) (N := some 28) (v := ?_) (a' := ?_) #[true, false, false, false, false, false, false, false, false, false] rfl rfl (any_of HT_.out (by kernel_rfl)) (fun _ _ _ h => h) (Or.inl ⟨by rfl, ?_⟩) ?_ ?_
           rotate_left
           ·
            intro w'
            go_simp
            with_reducible rfl
           rotate_left
           ·
            simp only [Act.put, List.setIfInBounds_toArray, List.set_cons_zero, List.set_cons_succ, i64_w, i32_w]
            rfl
           refine pure_ (i := 2) (N := some 30) (v := ?_) (a' := ?_) #[true, false, true, false, false, false, false, false, false, false] rfl rfl (any_of HT_.out (by kernel_rfl)) (fun _ _ _ h => h) (Or.inl ⟨by rfl, ?_⟩) ?_ ?_
           rotate_left
           ·
            intro w'
            go_simp
            with_reducible rfl
           rotate_left
           ·
            simp only [Act.put, List.setIfInBounds_toArray, List.set_cons_zero, List.set_cons_succ, i64_w, i32_w]
            rfl
           refine pure_ (i := 3) (N := some 31) (v := ?_) (a' := ?_) #[true, false, true, true, false, false, false, false, false, false] rfl rfl (any_of HT_.out (by kernel_rfl)) (fun _ _ _ h => h) (Or.inl ⟨by rfl, ?_⟩) ?_ ?_
           rotate_left
           ·
            intro w'
            go_simp
            with_reducible rfl
           rotate_left
           ·
            simp only [Act.put, List.setIfInBounds_toArray, List.set_cons_zero, List.set_cons_succ, i64_w, i32_w]
            rfl
           refine pure_ (i := 4) (N := some 32) (v := ?_) (a' := ?_) #[true, false, true, true, true, false, false, false, false, false] rfl rfl (any_of HT_.out (by kernel_rfl)) (fun _ _ _ h => h) (Or.inl ⟨by rfl, ?_⟩) ?_ ?_
           rotate_left
           ·
            intro w'
            go_simp
            with_reducible rfl
           rotate_left
           ·
            simp only [Act.put, List.setIfInBounds_toArray, List.set_cons_zero, List.set_cons_succ, i64_w, i32_w]
            rfl
           refine take_ (i := 1) (N := some 29) (v := ?_) (a' := ?_) #[true, true, true, true, true, false, false, false, false, false] rfl rfl (take_ofW HT_.out HW_.out (by kernel_rfl)) (fun _ _ _ h => h) (Or.inl ⟨by rfl, ?_⟩) hHeld ?_ ?_
           rotate_left
           ·
            rintro w' ⟨s0, s1, s2, s3, s4⟩
            go_simp
            with_reducible rfl
           rotate_left
           ·
            simp only [Act.put, List.setIfInBounds_toArray, List.set_cons_zero, List.set_cons_succ, i64_w, i32_w]
            rfl
           refine take_ (i := 5) (N := some 33) (v := ?_) (a' := ?_) #[true, true, true, true, true, true, false, false, false, false] rfl rfl (take_ofW HT_.out HW_.out (by kernel_rfl)) (fun _ _ _ h => h) (Or.inl ⟨by rfl, ?_⟩) hHeld ?_ ?_
           rotate_left
           ·
            rintro w' ⟨s0, s1, s2, s3, s4⟩
            go_simp
            with_reducible rfl
           rotate_left
           ·
            simp only [Act.put, List.setIfInBounds_toArray, List.set_cons_zero, List.set_cons_succ, i64_w, i32_w]
            rfl
           refine pure_ (i := 6) (N := some 34) (v := ?_) (a' := ?_) #[true, true, true, true, true, true, true, false, false, false] rfl rfl (any_of HT_.out (by kernel_rfl)) (fun _ _ _ h => h) (Or.inl ⟨by rfl, ?_⟩) ?_ ?_
           rotate_left
           ·
            intro w'
            go_simp
            with_reducible rfl
           rotate_left
           ·
            simp only [Act.put, List.setIfInBounds_toArray, List.set_cons_zero, List.set_cons_succ, i64_w, i32_w]
            rfl
           refine take_ (i := 7) (N := some 35) (v := ?_) (a' := ?_) #[true, true, true, true, true, true, true, true, false, false] rfl rfl (take_ofW HT_.out HW_.out (by kernel_rfl)) (fun _ _ _ h => h) (Or.inl ⟨by rfl, ?_⟩) hHeld ?_ ?_
           rotate_left
           ·
            rintro w' ⟨s0, s1, s2, s3, s4⟩
            go_simp
            with_reducible rfl
           rotate_left
           ·
            simp only [Act.put, List.setIfInBounds_toArray, List.set_cons_zero, List.set_cons_succ, i64_w, i32_w]
            rfl
           refine pure_ (i := 8) (N := some 36) (v := ?_) (a' := ?_) #[true, true, true, true, true, true, true, true, true, false] rfl rfl (any_of HT_.out (by kernel_rfl)) (fun _ _ _ h => h) (Or.inl ⟨by rfl, ?_⟩) ?_ ?_
           rotate_left
           ·
            intro w'
            go_simp
            with_reducible rfl
           rotate_left
           ·
            simp only [Act.put, List.setIfInBounds_toArray, List.set_cons_zero, List.set_cons_succ, i64_w, i32_w]
            rfl
           refine pure_ (i := 9) (N := some 37) (v := ?_) (a' := ?_) #[true, true, true, true, true, true, true, true, true, true] rfl rfl (any_of HT_.out (by kernel_rfl)) (fun _ _ _ h => h) (Or.inl ⟨by rfl, ?_⟩) ?_ ?_
           rotate_left
           ·
            intro w'
            go_simp
            with_reducible rfl
           rotate_left
           ·
            simp only [Act.put, List.setIfInBounds_toArray, List.set_cons_zero, List.set_cons_succ, i64_w, i32_w]
            rfl
           refine done_ (done_of HT_.out (by kernel_rfl)) ?_
           try go_wp2
           go_ret
           exact ⟨by first | rfl | (simp [errW_none, errW_some] <;> rfl) | (simp [*, errW_none, errW_some] <;> rfl), by repeat (first | (with_reducible first | exact HB.out | apply below_alloc | apply pw_below_drewN | apply below_drew1 | refine below_set ?_ GE426.out) | exact HB.out)⟩
          ·
           rw [if_neg c16] at H
           have c16b0 : (((rd_L1 l0_2 (rd l1 x8_1)).length : Int) == 0) = false := beq_eq_false_iff_ne.mpr c16
           have c16b1 : (((rd_L1 l0_2 (rd l1 x8_1)).length : Int) != 0) = true := bne_iff_ne.mpr c16
           have c16b2 : ¬ ((rd_L1 l0_2 (rd l1 x8_1)) = []) := fun h_ => c16 (by rw [h_]; rfl)
           have H' := Aside0.mk H
           clear H
           try go_wp2
           have n0_ := Aside0.mk (Kd.R_drew HO_7.out)
           have n1_ := Aside0.mk (blk_drew BK426.out)
           have n2_ := Aside0.mk (below_drew1 HB.out)
           clear HO_7
           clear BK426
           clear HB
           have HO_7 := n0_
           have BK426 := n1_
           have HB := n2_
           clear n0_ n1_ n2_
           have p431 : 0 ≤ (x8_1 : Int) := of_decide_eq_true (by first | (with_reducible assumption) | assumption)
           have q431 : x8_1 < (l1.length : Int) := of_decide_eq_true (by first | (with_reducible assumption) | assumption)
           obtain ⟨ad431, e431, hx431_0⟩ := Kd.at_int HR1.out x8_1 p431 q431
           have hw431_0 := hx431_0
           cases e431
           replace hx431_0 := (HB.out.cell (World.block_lt_of_cell? w _ hx431_0)).trans hx431_0
           replace p431 := eq_true p431
           replace q431 := eq_true q431
           have p432 : 0 ≤ ((rd l1 x8_1) : Int) := of_decide_eq_true (by first | (with_reducible assumption) | assumption)
           have q432 : (rd l1 x8_1) < (l0_2.length : Int) := of_decide_eq_true (by first | (with_reducible assumption) | assumption)
           obtain ⟨ad432, A432_0, c432_0, e432, hx432_0, hl432_0, hi432_0⟩ := at_L1 HR0_2.out (rd l1 x8_1) p432 q432
           have hw432_0 := hx432_0
           cases e432
           replace hx432_0 := (HB.out.cell (World.block_lt_of_cell? w _ hx432_0)).trans hx432_0
           have HR432_0 := Aside0.mk hi432_0
           have HC432_0 := Aside0.mk hl432_0
           clear hi432_0 hl432_0
           replace p432 := eq_true p432
           replace q432 := eq_true q432
           refine start_ (n := 10) (S := fun w' => w'.cell? ⟨gb426, 0, none⟩ = some (.slice A0_0 l0_0.length c0_0) ∧ w'.cell? ⟨gb426, 1, none⟩ = some (.slice A0_1 l0_1.length c0_1) ∧ w'.cell? ⟨gb426, 2, none⟩ = some (.slice (some ad432) l0_2.length c0_2) ∧ w'.cell? (ad431.add (x8_1).toNat) = some (.int .i64 (rd l1 x8_1)) ∧ w'.cell? (ad432.add ((rd l1 x8_1)).toNat) = some (.slice A432_0 (rd_L1 l0_2 (rd l1 x8_1)).length c432_0)) (ds := []) #[false, false, false, false, false, false, false, false, false, false] (by kernel_rfl) rfl rfl ⟨(blk_cell BK426.out 0).trans rfl, (blk_cell BK426.out 1).trans rfl, (blk_cell BK426.out 2).trans rfl, ((HB.out.cell (World.block_lt_of_cell? w _ hw431_0)).trans hw431_0), ((HB.out.cell (World.block_lt_of_cell? w _ hw432_0)).trans hw432_0)⟩ (fun hHeld => ?_); refine with_tabW laganref04_short.tab7 laganref04_short.bits7 (fun HT_ HW_ => ?_)
           generalize wr.drew = w18 at HO_7 BK426 HB HR432_0 hx431_0 hx432_0 hHeld ⊢
           refine pure_ (i := 0) (N := some 28) (v := ?_) (a' := ?_) #[true, false, false, false, false, false, false, false, false, false] rfl rfl (any_of HT_.out (by kernel_rfl)) (fun _ _ _ h => h) (Or.inl ⟨by rfl, ?_⟩) ?_ ?_
           rotate_left
           ·
            intro w'
            go_simp
            with_reducible rfl
           rotate_left
           ·
            simp only [Act.put, List.setIfInBounds_toArray, List.set_cons_zero, List.set_cons_succ, i64_w, i32_w]
            rfl
           refine pure_ (i := 2) (N := some 30) (v := ?_) (a' := ?_) #[true, false, true, false, false, false, false, false, false, false] rfl rfl (any_of HT_.out (by kernel_rfl)) (fun _ _ _ h => h) (Or.inl ⟨by rfl, ?_⟩) ?_ ?_
           rotate_left
           ·
            intro w'
            go_simp
            with_reducible rfl
           rotate_left
           ·
            simp only [Act.put, List.setIfInBounds_toArray, List.set_cons_zero, List.set_cons_succ, i64_w, i32_w]
            rfl
           refine pure_ (i := 3) (N := some 31) (v := ?_) (a' := ?_) #[true, false, true, true, false, false, false, false, false, false] rfl rfl (any_of HT_.out (by kernel_rfl)) (fun _ _ _ h => h) (Or.inl ⟨by rfl, ?_⟩) ?_ ?_
           rotate_left
           ·
            intro w'
            go_simp
            with_reducible rfl
           rotate_left
           ·
            simp only [Act.put, List.setIfInBounds_toArray, List.set_cons_zero, List.set_cons_succ, i64_w, i32_w]
            rfl
           refine pure_ (i := 4) (N := some 32) (v := ?_) (a' := ?_) #[true, false, true, true, true, false, false, false, false, false] rfl rfl (any_of HT_.out (by kernel_rfl)) (fun _ _ _ h => h) (Or.inl ⟨by rfl, ?_⟩) ?_ ?_
           rotate_left
           ·
            intro w'
            go_simp
            with_reducible rfl
           rotate_left
           ·
            simp only [Act.put, List.setIfInBounds_toArray, List.set_cons_zero, List.set_cons_succ, i64_w, i32_w]
            rfl
           refine take_ (i := 1) (N := some 29) (v := ?_) (a' := ?_) #[true, true, true, true, true, false, false, false, false, false] rfl rfl (take_ofW HT_.out HW_.out (by kernel_rfl)) (fun _ _ _ h => h) (Or.inl ⟨by rfl, ?_⟩) hHeld ?_ ?_
           rotate_left
           ·
            rintro w' ⟨s0, s1, s2, s3, s4⟩
            go_simp
            with_reducible rfl
           rotate_left
           ·
            simp only [Act.put, List.setIfInBounds_toArray, List.set_cons_zero, List.set_cons_succ, i64_w, i32_w]
            rfl
           refine take_ (i := 5) (N := some 33) (v := ?_) (a' := ?_) #[true, true, true, true, true, true, false, false, false, false] rfl rfl (take_ofW HT_.out HW_.out (by kernel_rfl)) (fun _ _ _ h => h) (Or.inl ⟨by rfl, ?_⟩) hHeld ?_ ?_
           rotate_left
           ·
            rintro w' ⟨s0, s1, s2, s3, s4⟩
            go_simp
            with_reducible rfl
           rotate_left
           ·
            simp only [Act.put, List.setIfInBounds_toArray, List.set_cons_zero, List.set_cons_succ, i64_w, i32_w]
            rfl
           refine pure_ (i := 6) (N := some 34) (v := ?_) (a' := ?_) #[true, true, true, true, true, true, true, false, false, false] rfl rfl (any_of HT_.out (by kernel_rfl)) (fun _ _ _ h => h) (Or.inl ⟨by rfl, ?_⟩) ?_ ?_
           rotate_left
           ·
            intro w'
            go_simp
            with_reducible rfl
           rotate_left
           ·
            simp only [Act.put, List.setIfInBounds_toArray, List.set_cons_zero, List.set_cons_succ, i64_w, i32_w]
            rfl
           refine take_ (i := 7) (N := some 35) (v := ?_) (a' := ?_) #[true, true, true, true, true, true, true, true, false, false] rfl rfl (take_ofW HT_.out HW_.out (by kernel_rfl)) (fun _ _ _ h => h) (Or.inl ⟨by rfl, ?_⟩) hHeld ?_ ?_
           rotate_left
           ·
            rintro w' ⟨s0, s1, s2, s3, s4⟩
            go_simp
            with_reducible rfl
           rotate_left
           ·
            simp only [Act.put, List.setIfInBounds_toArray, List.set_cons_zero, List.set_cons_succ, i64_w, i32_w]
            rfl
           refine pure_ (i := 8) (N := some 36) (v := ?_) (a' := ?_) #[true, true, true, true, true, true, true, true, true, false] rfl rfl (any_of HT_.out (by kernel_rfl)) (fun _ _ _ h => h) (Or.inl ⟨by rfl, ?_⟩) ?_ ?_
           rotate_left
           ·
            intro w'
            go_simp
            with_reducible rfl
           rotate_left
           ·
            simp only [Act.put, List.setIfInBounds_toArray, List.set_cons_zero, List.set_cons_succ, i64_w, i32_w]
            rfl
           refine pure_ (i := 9) (N := some 37) (v := ?_) (a' := ?_) #[true, true, true, true, true, true, true, true, true, true] rfl rfl (any_of HT_.out (by kernel_rfl)) (fun _ _ _ h => h) (Or.inl ⟨by rfl, ?_⟩) ?_ ?_
           rotate_left
           ·
            intro w'
            go_simp
            with_reducible rfl
           rotate_left
           ·
            simp only [Act.put, List.setIfInBounds_toArray, List.set_cons_zero, List.set_cons_succ, i64_w, i32_w]
            rfl
           refine done_ (done_of HT_.out (by kernel_rfl)) ?_
           try go_wp2
           go_loopg [9] k1 (fun kq v9 w' => ∃ (x7_2 : List Bool) (x9_2 : Int), v9 = .int .i64 x9_2 ∧ Aside0 (laganref04_short.l1 kq l1 a2 x7_2 x8_1 x9_2 l0_0 l0_1 l0_2 = some r) ∧ Aside0 (kq ≤ k1) ∧ Aside0 (Kd.R Kd.bool 4 w' w.heap.size (fun _ => True) v429 x7_2) ∧ Aside0 (w'.heap[gb426]? = some (.cells #[(.slice A0_0 l0_0.length c0_0), (.slice A0_1 l0_1.length c0_1), (.slice (some ad432) l0_2.length c0_2)] 26 (0, 0))) ∧ Aside0 (Below w.heap.size w w'))
           case atStart => exact ⟨(x7_1), (0), (by first | rfl | (simp; done) | (simp [*]; done)), H', ⟨Nat.le_refl _⟩, ⟨by (with_reducible repeat (first | apply Kd.R_alloc | apply Kd.R_drewN | apply Kd.R_drew)); exact HO_7.out⟩, ⟨by (with_reducible repeat (first | refine blk_drewN ?_ _ | refine blk_drew ?_ | refine blk_alloc ?_ _)); exact BK426.out⟩, ⟨by repeat (first | (with_reducible first | exact HB.out | apply below_alloc | apply pw_below_drewN | apply below_drew1 | refine below_set ?_ GE426.out) | exact HB.out)⟩⟩
           case round =>
            clear H'
            try clear c1
            try clear p2
            try clear c4
            try clear p4
            try clear q4
            try clear hx4
            try clear c5
            try clear c6
            try clear c6b0
            try clear c6b1
            try clear c7
            try clear c7b0
            try clear c7b1
            try clear c12
            try clear c12b0
            try clear c13
            try clear c13b0
            try clear c14
            try clear c14b0
            try clear c15
            try clear c15b0
            try clear c16
            try clear c16b0
            try clear c16b1
            try clear c16b2
            try clear hcz9_0
            try clear hcz9_1
            try clear hcz9_2
            try clear hfz9_0
            try clear hfz9_1
            try clear hfz9_2
            try clear hx431_0
            try clear hx432_0
            try clear p2
            try clear p431
            try clear p432
            try clear q431
            try clear q432
            obtain ⟨x7_2, x9_2, rfl, HA, HK2, HO_7, BK426, HB⟩ := hrel
            cases gk with
            | zero => exact absurd HA.out (by simp [laganref04_short.l1])
            | succ k2 =>
             have H := HA.out
             clear HA
             simp only [laganref04_short.l1] at H
             by_cases c19 : 0 ≤ x8_1
             ·
              rw [if_pos c19] at H
              have c19b0 : decide (0 ≤ x8_1) = true := decide_eq_true c19
              clear c19
              by_cases c20 : x8_1 < (l1.length : Int)
              ·
               rw [if_pos c20] at H
               have c20b0 : decide (x8_1 < (l1.length : Int)) = true := decide_eq_true c20
               clear c20
               by_cases c21 : 0 ≤ (rd l1 x8_1)
               ·
                rw [if_pos c21] at H
                have c21b0 : decide (0 ≤ (rd l1 x8_1)) = true := decide_eq_true c21
                clear c21
                by_cases c22 : (rd l1 x8_1) < (l0_2.length : Int)
                ·
                 rw [if_pos c22] at H
                 have c22b0 : decide ((rd l1 x8_1) < (l0_2.length : Int)) = true := decide_eq_true c22
                 clear c22
                 by_cases c23 : x9_2 < ((rd_L1 l0_2 (rd l1 x8_1)).length : Int)
                 ·
                  rw [if_pos c23] at H
                  have c23b0 : decide (x9_2 < ((rd_L1 l0_2 (rd l1 x8_1)).length : Int)) = true := decide_eq_true c23
                  clear c23
                  by_cases c24 : 0 ≤ x9_2
                  ·
                   rw [if_pos c24] at H
                   have c24b0 : decide (0 ≤ x9_2) = true := decide_eq_true c24
                   clear c24
                   by_cases c25 : 0 ≤ (rd (rd_L1 l0_2 (rd l1 x8_1)) x9_2)
                   ·
                    rw [if_pos c25] at H
                    have c25b0 : decide (0 ≤ (rd (rd_L1 l0_2 (rd l1 x8_1)) x9_2)) = true := decide_eq_true c25
                    clear c25
                    by_cases c26 : (rd (rd_L1 l0_2 (rd l1 x8_1)) x9_2) < (x7_2.length : Int)
                    ·
                     rw [if_pos c26] at H
                     have c26b0 : decide ((rd (rd_L1 l0_2 (rd l1 x8_1)) x9_2) < (x7_2.length : Int)) = true := decide_eq_true c26
                     clear c26
                     obtain ⟨y438, hy438⟩ : ∃ y_ : List Bool, y_ = (x7_2.set ((rd (rd_L1 l0_2 (rd l1 x8_1)) x9_2) : Int).toNat true) := ⟨_, rfl⟩
                     replace H : (laganref04_short.l1 k2 l1 a2 y438 x8_1 (wrap64 (x9_2 + 1)) l0_0 l0_1 l0_2) = some r := by first | (rw [hy438]; with_reducible exact H) | (have H2_ := (Option.bind_some _ _).symm.trans H; rw [hy438]; with_reducible exact H2_) | (have H2_ := (Option.bind_some _ _).symm.trans H; with_reducible exact H2_) | with_reducible exact H | (rw [hy438]; exact H) | exact H
                     have Ny438 := Aside0.mk hy438
                     clear hy438
                     have H' := Aside0.mk H
                     clear H
                     try go_wp2
                     have n0_ := Aside0.mk (Kd.R_drew HO_7.out)
                     have n1_ := Aside0.mk (blk_drew BK426.out)
                     have n2_ := Aside0.mk (below_drew1 HB.out)
                     clear HO_7
                     clear BK426
                     clear HB
                     have HO_7 := n0_
                     have BK426 := n1_
                     have HB := n2_
                     clear n0_ n1_ n2_
                     have p433 : 0 ≤ (x8_1 : Int) := of_decide_eq_true (by first | (with_reducible assumption) | assumption)
                     have q433 : x8_1 < (l1.length : Int) := of_decide_eq_true (by first | (with_reducible assumption) | assumption)
                     obtain ⟨ad433, e433, hx433_0⟩ := Kd.at_int HR1.out x8_1 p433 q433
                     have hw433_0 := hx433_0
                     obtain rfl : ad431 = ad433 := (by injection e433)
                     replace hx433_0 := (HB.out.cell (World.block_lt_of_cell? w _ hx433_0)).trans hx433_0
                     replace p433 := eq_true p433
                     replace q433 := eq_true q433
                     have p434 : 0 ≤ ((rd l1 x8_1) : Int) := of_decide_eq_true (by first | (with_reducible assumption) | assumption)
                     have q434 : (rd l1 x8_1) < (l0_2.length : Int) := of_decide_eq_true (by first | (with_reducible assumption) | assumption)
                     obtain ⟨ad434, A434_0, c434_0, e434, hx434_0, hl434_0, hi434_0⟩ := at_L1 HR0_2.out (rd l1 x8_1) p434 q434
                     have hw434_0 := hx434_0
                     obtain rfl : ad432 = ad434 := (by injection e434)
                     replace hx434_0 := (HB.out.cell (World.block_lt_of_cell? w _ hx434_0)).trans hx434_0
                     have HR434_0 := Aside0.mk hi434_0
                     have HC434_0 := Aside0.mk hl434_0
                     clear hi434_0 hl434_0
                     replace p434 := eq_true p434
                     replace q434 := eq_true q434
                     refine start_ (n := 11) (S := fun w' => w'.cell? ⟨gb426, 0, none⟩ = some (.slice A0_0 l0_0.length c0_0) ∧ w'.cell? ⟨gb426, 1, none⟩ = some (.slice A0_1 l0_1.length c0_1) ∧ w'.cell? ⟨gb426, 2, none⟩ = some (.slice (some ad432) l0_2.length c0_2) ∧ w'.cell? (ad431.add (x8_1).toNat) = some (.int .i64 (rd l1 x8_1)) ∧ w'.cell? (ad432.add ((rd l1 x8_1)).toNat) = some (.slice A434_0 (rd_L1 l0_2 (rd l1 x8_1)).length c434_0)) (ds := []) #[false, false, false, false, false, false, false, false, false, false, false] (by kernel_rfl) rfl rfl ⟨(blk_cell BK426.out 0).trans rfl, (blk_cell BK426.out 1).trans rfl, (blk_cell BK426.out 2).trans rfl, ((HB.out.cell (World.block_lt_of_cell? w _ hw433_0)).trans hw433_0), ((HB.out.cell (World.block_lt_of_cell? w _ hw434_0)).trans hw434_0)⟩ (fun hHeld => ?_); refine with_tabW laganref04_short.tab10 laganref04_short.bits10 (fun HT_ HW_ => ?_)
                     generalize wr.drew = w28 at HO_7 BK426 HB HR434_0 hx433_0 hx434_0 hHeld ⊢
                     refine pure_ (i := 0) (N := some 38) (v := ?_) (a' := ?_) #[true, false, false, false, false, false, false, false, false, false, false] rfl rfl (any_of HT_.out (by kernel_rfl)) (fun _ _ _ h => h) (Or.inl ⟨by rfl, ?_⟩) ?_ ?_
                     rotate_left
                     ·
                      intro w'
                      go_simp
                      with_reducible rfl
                     rotate_left
                     ·
                      simp only [Act.put, List.setIfInBounds_toArray, List.set_cons_zero, List.set_cons_succ, i64_w, i32_w]
                      rfl
                     refine pure_ (i := 1) (N := some 39) (v := ?_) (a' := ?_) #[true, true, false, false, false, false, false, false, false, false, false] rfl rfl (any_of HT_.out (by kernel_rfl)) (fun _ _ _ h => h) (Or.inl ⟨by rfl, ?_⟩) ?_ ?_
                     rotate_left
                     ·
                      intro w'
                      go_simp
                      with_reducible rfl
                     rotate_left
                     ·
                      simp only [Act.put, List.setIfInBounds_toArray, List.set_cons_zero, List.set_cons_succ, i64_w, i32_w]
                      rfl
                     refine pure_ (i := 3) (N := some 41) (v := ?_) (a' := ?_) #[true, true, false, true, false, false, false, false, false, false, false] rfl rfl (any_of HT_.out (by kernel_rfl)) (fun _ _ _ h => h) (Or.inl ⟨by rfl, ?_⟩) ?_ ?_
                     rotate_left
                     ·
                      intro w'
                      go_simp
                      with_reducible rfl
                     rotate_left
                     ·
                      simp only [Act.put, List.setIfInBounds_toArray, List.set_cons_zero, List.set_cons_succ, i64_w, i32_w]
                      rfl
                     refine pure_ (i := 4) (N := some 42) (v := ?_) (a' := ?_) #[true, true, false, true, true, false, false, false, false, false, false] rfl rfl (any_of HT_.out (by kernel_rfl)) (fun _ _ _ h => h) (Or.inl ⟨by rfl, ?_⟩) ?_ ?_
                     rotate_left
                     ·
                      intro w'
                      go_simp
                      with_reducible rfl
                     rotate_left
                     ·
                      simp only [Act.put, List.setIfInBounds_toArray, List.set_cons_zero, List.set_cons_succ, i64_w, i32_w]
                      rfl
                     refine pure_ (i := 5) (N := some 43) (v := ?_) (a' := ?_) #[true, true, false, true, true, true, false, false, false, false, false] rfl rfl (any_of HT_.out (by kernel_rfl)) (fun _ _ _ h => h) (Or.inl ⟨by rfl, ?_⟩) ?_ ?_
                     rotate_left
                     ·
                      intro w'
                      go_simp
                      with_reducible rfl
                     rotate_left
                     ·
                      simp only [Act.put, List.setIfInBounds_toArray, List.set_cons_zero, List.set_cons_succ, i64_w, i32_w]
                      rfl
                     refine take_ (i := 2) (N := some 40) (v := ?_) (a' := ?_) #[true, true, true, true, true, true, false, false, false, false, false] rfl rfl (take_ofW HT_.out HW_.out (by kernel_rfl)) (fun _ _ _ h => h) (Or.inl ⟨by rfl, ?_⟩) hHeld ?_ ?_
                     rotate_left
                     ·
                      rintro w' ⟨s0, s1, s2, s3, s4⟩
                      go_simp
                      with_reducible rfl
                     rotate_left
                     ·
                      simp only [Act.put, List.setIfInBounds_toArray, List.set_cons_zero, List.set_cons_succ, i64_w, i32_w]
                      rfl
                     refine take_ (i := 6) (N := some 44) (v := ?_) (a' := ?_) #[true, true, true, true, true, true, true, false, false, false, false] rfl rfl (take_ofW HT_.out HW_.out (by kernel_rfl)) (fun _ _ _ h => h) (Or.inl ⟨by rfl, ?_⟩) hHeld ?_ ?_
                     rotate_left
                     ·
                      rintro w' ⟨s0, s1, s2, s3, s4⟩
                      go_simp
                      with_reducible rfl
                     rotate_left
                     ·
                      simp only [Act.put, List.setIfInBounds_toArray, List.set_cons_zero, List.set_cons_succ, i64_w, i32_w]
                      rfl
                     refine pure_ (i := 7) (N := some 45) (v := ?_) (a' := ?_) #[true, true, true, true, true, true, true, true, false, false, false] rfl rfl (any_of HT_.out (by kernel_rfl)) (fun _ _ _ h => h) (Or.inl ⟨by rfl, ?_⟩) ?_ ?_
                     rotate_left
                     ·
                      intro w'
                      go_simp
                      with_reducible rfl
                     rotate_left
                     ·
                      simp only [Act.put, List.setIfInBounds_toArray, List.set_cons_zero, List.set_cons_succ, i64_w, i32_w]
                      rfl
                     refine take_ (i := 8) (N := some 46) (v := ?_) (a' := ?_) #[true, true, true, true, true, true, true, true, true, false, false] rfl rfl (take_ofW HT_.out HW_.out (by kernel_rfl)) (fun _ _ _ h => h) (Or.inl ⟨by rfl, ?_⟩) hHeld ?_ ?_
                     rotate_left
                     ·
                      rintro w' ⟨s0, s1, s2, s3, s4⟩
                      go_simp
                      with_reducible rfl
                     rotate_left
                     ·
                      simp only [Act.put, List.setIfInBounds_toArray, List.set_cons_zero, List.set_cons_succ, i64_w, i32_w]
                      rfl
                     refine pure_ (i := 9) (N := some 47) (v := ?_) (a' := ?_) #[true, true, true, true, true, true, true, true, true, true, false] rfl rfl (any_of HT_.out (by kernel_rfl)) (fun _ _ _ h => h) (Or.inl ⟨by rfl, ?_⟩) ?_ ?_
                     rotate_left
                     ·
                      intro w'
                      go_simp
                      with_reducible rfl
                     rotate_left
                     ·
                      simp only [Act.put, List.setIfInBounds_toArray, List.set_cons_zero, List.set_cons_succ, i64_w, i32_w]
                      rfl
                     refine pure_ (i := 10) (N := some 48) (v := ?_) (a' := ?_) #[true, true, true, true, true, true, true, true, true, true, true] rfl rfl (any_of HT_.out (by kernel_rfl)) (fun _ _ _ h => h) (Or.inl ⟨by rfl, ?_⟩) ?_ ?_
                     rotate_left
                     ·
                      intro w'
                      go_simp
                      with_reducible rfl
                     rotate_left
                     ·
                      simp only [Act.put, List.setIfInBounds_toArray, List.set_cons_zero, List.set_cons_succ, i64_w, i32_w]
                      rfl
                     refine done_ (done_of HT_.out (by kernel_rfl)) ?_
                     try go_wp2
                     have n0_ := Aside0.mk (Kd.R_drew HO_7.out)
                     have n1_ := Aside0.mk (blk_drew BK426.out)
                     have n2_ := Aside0.mk (below_drew1 HB.out)
                     clear HO_7
                     clear BK426
                     clear HB
                     have HO_7 := n0_
                     have BK426 := n1_
                     have HB := n2_
                     clear n0_ n1_ n2_
                     have p435 : 0 ≤ (x8_1 : Int) := of_decide_eq_true (by first | (with_reducible assumption) | assumption)
                     have q435 : x8_1 < (l1.length : Int) := of_decide_eq_true (by first | (with_reducible assumption) | assumption)
                     obtain ⟨ad435, e435, hx435_0⟩ := Kd.at_int HR1.out x8_1 p435 q435
                     have hw435_0 := hx435_0
                     obtain rfl : ad431 = ad435 := (by injection e435)
                     replace hx435_0 := (HB.out.cell (World.block_lt_of_cell? w _ hx435_0)).trans hx435_0
                     replace p435 := eq_true p435
                     replace q435 := eq_true q435
                     have p436 : 0 ≤ ((rd l1 x8_1) : Int) := of_decide_eq_true (by first | (with_reducible assumption) | assumption)
                     have q436 : (rd l1 x8_1) < (l0_2.length : Int) := of_decide_eq_true (by first | (with_reducible assumption) | assumption)
                     obtain ⟨ad436, A436_0, c436_0, e436, hx436_0, hl436_0, hi436_0⟩ := at_L1 HR0_2.out (rd l1 x8_1) p436 q436
                     have hw436_0 := hx436_0
                     obtain rfl : ad432 = ad436 := (by injection e436)
                     replace hx436_0 := (HB.out.cell (World.block_lt_of_cell? w _ hx436_0)).trans hx436_0
                     have HR436_0 := Aside0.mk hi436_0
                     have HC436_0 := Aside0.mk hl436_0
                     clear hi436_0 hl436_0
                     replace p436 := eq_true p436
                     replace q436 := eq_true q436
                     have p437 : 0 ≤ (x9_2 : Int) := of_decide_eq_true (by first | (with_reducible assumption) | assumption)
                     have q437 : x9_2 < ((rd_L1 l0_2 (rd l1 x8_1)).length : Int) := of_decide_eq_true (by first | (with_reducible assumption) | assumption)
                     obtain ⟨ad437, e437, hx437_0⟩ := Kd.at_int HR436_0.out x9_2 p437 q437
                     have hw437_0 := hx437_0
                     cases e437
                     replace hx437_0 := (HB.out.cell (World.block_lt_of_cell? w _ hx437_0)).trans hx437_0
                     replace p437 := eq_true p437
                     replace q437 := eq_true q437
                     have p27 : 0 ≤ ((rd (rd_L1 l0_2 (rd l1 x8_1)) x9_2) : Int) := of_decide_eq_true (by first | (with_reducible assumption) | assumption)
                     have q27 : ((rd (rd_L1 l0_2 (rd l1 x8_1)) x9_2) : Int) < ((x7_2.length : Int) : Int) := of_decide_eq_true (by first | (with_reducible assumption) | assumption)
                     obtain ⟨go27, co27, eo27, gb27, gl27, cl27, HG27⟩ := Kd.R_form HO_7.out (by omega)
                     (first | cases eo27 | (injection eo27 with ea_ en_ ec_; (first | subst ea_ | (injection ea_ with ea_; subst ea_)); subst ec_; clear en_))
                     have GB27 := Aside0.mk gb27
                     have GG27 := Aside0.mk HG27
                     clear gb27 gl27 HG27
                     obtain ⟨hx27_0, hf27_0⟩ := Kd.R_celln false HO_7.out ((rd (rd_L1 l0_2 (rd l1 x8_1)) x9_2) : Int) p27 q27
                     replace p27 := eq_true p27
                     replace q27 := eq_true q27
                     have HP30 := Kd.R_putn HO_7.out ((rd (rd_L1 l0_2 (rd l1 x8_1)) x9_2) : Int) true
                     rw [← Ny438.out] at HP30
                     have HQ30 := Aside0.mk HP30
                     clear HP30
                     refine start_ (n := 14) (S := fun w' => w'.cell? ⟨gb426, 0, none⟩ = some (.slice A0_0 l0_0.length c0_0) ∧ w'.cell? ⟨gb426, 1, none⟩ = some (.slice A0_1 l0_1.length c0_1) ∧ w'.cell? ⟨gb426, 2, none⟩ = some (.slice (some ad432) l0_2.length c0_2) ∧ w'.cell? (ad431.add (x8_1).toNat) = some (.int .i64 (rd l1 x8_1)) ∧ w'.cell? (ad432.add ((rd l1 x8_1)).toNat) = some (.slice (some ad437) (rd_L1 l0_2 (rd l1 x8_1)).length c436_0) ∧ w'.cell? (ad437.add (x9_2).toNat) = some (.int .i64 (rd (rd_L1 l0_2 (rd l1 x8_1)) x9_2))) (ds := [13]) #[false, false, false, false, false, false, false, false, false, false, false, false, false, false] (by kernel_rfl) rfl rfl ⟨(blk_cell BK426.out 0).trans rfl, (blk_cell BK426.out 1).trans rfl, (blk_cell BK426.out 2).trans rfl, ((HB.out.cell (World.block_lt_of_cell? w _ hw435_0)).trans hw435_0), ((HB.out.cell (World.block_lt_of_cell? w _ hw436_0)).trans hw436_0), ((HB.out.cell (World.block_lt_of_cell? w _ hw437_0)).trans hw437_0)⟩ (fun hHeld => ?_); refine with_tabW laganref04_short.tab12 laganref04_short.bits12 (fun HT_ HW_ => ?_)
                     generalize w28.drew = w29 at HO_7 BK426 HB GG27 HQ30 HR436_0 hf27_0 hx27_0 hx435_0 hx436_0 hx437_0 hHeld ⊢
                     refine pure_ (i := 0) (N := some 51) (v := ?_) (a' := ?_) #[true, false, false, false, false, false, false, false, false, false, false, false, false, false] rfl rfl (any_of HT_.out (by kernel_rfl)) (fun _ _ _ h => h) (Or.inl ⟨by rfl, ?_⟩) ?_ ?_
                     rotate_left
                     ·
                      intro w'
                      go_simp
                      with_reducible rfl
                     rotate_left
                     ·
                      simp only [Act.put, List.setIfInBounds_toArray, List.set_cons_zero, List.set_cons_succ, i64_w, i32_w]
                      rfl
                     refine pure_ (i := 1) (N := some 52) (v := ?_) (a' := ?_) #[true, true, false, false, false, false, false, false, false, false, false, false, false, false] rfl rfl (any_of HT_.out (by kernel_rfl)) (fun _ _ _ h => h) (Or.inl ⟨by rfl, ?_⟩) ?_ ?_
                     rotate_left
                     ·
                      intro w'
                      go_simp
                      with_reducible rfl
                     rotate_left
                     ·
                      simp only [Act.put, List.setIfInBounds_toArray, List.set_cons_zero, List.set_cons_succ, i64_w, i32_w]
                      rfl
                     refine pure_ (i := 3) (N := some 54) (v := ?_) (a' := ?_) #[true, true, false, true, false, false, false, false, false, false, false, false, false, false] rfl rfl (any_of HT_.out (by kernel_rfl)) (fun _ _ _ h => h) (Or.inl ⟨by rfl, ?_⟩) ?_ ?_
                     rotate_left
                     ·
                      intro w'
                      go_simp
                      with_reducible rfl
                     rotate_left
                     ·
                      simp only [Act.put, List.setIfInBounds_toArray, List.set_cons_zero, List.set_cons_succ, i64_w, i32_w]
                      rfl
                     refine pure_ (i := 4) (N := some 55) (v := ?_) (a' := ?_) #[true, true, false, true, true, false, false, false, false, false, false, false, false, false] rfl rfl (any_of HT_.out (by kernel_rfl)) (fun _ _ _ h => h) (Or.inl ⟨by rfl, ?_⟩) ?_ ?_
                     rotate_left
                     ·
                      intro w'
                      go_simp
                      with_reducible rfl
                     rotate_left
                     ·
                      simp only [Act.put, List.setIfInBounds_toArray, List.set_cons_zero, List.set_cons_succ, i64_w, i32_w]
                      rfl
                     refine pure_ (i := 5) (N := some 56) (v := ?_) (a' := ?_) #[true, true, false, true, true, true, false, false, false, false, false, false, false, false] rfl rfl (any_of HT_.out (by kernel_rfl)) (fun _ _ _ h => h) (Or.inl ⟨by rfl, ?_⟩) ?_ ?_
                     rotate_left
                     ·
                      intro w'
                      go_simp
                      with_reducible rfl
                     rotate_left
                     ·
                      simp only [Act.put, List.setIfInBounds_toArray, List.set_cons_zero, List.set_cons_succ, i64_w, i32_w]
                      rfl
                     refine pure_ (i := 9) (N := some 60) (v := ?_) (a' := ?_) #[true, true, false, true, true, true, false, false, false, true, false, false, false, false] rfl rfl (any_of HT_.out (by kernel_rfl)) (fun _ _ _ h => h) (Or.inl ⟨by rfl, ?_⟩) ?_ ?_
                     rotate_left
                     ·
                      intro w'
                      go_simp
                      with_reducible rfl
                     rotate_left
                     ·
                      simp only [Act.put, List.setIfInBounds_toArray, List.set_cons_zero, List.set_cons_succ, i64_w, i32_w]
                      rfl
                     refine take_ (i := 2) (N := some 53) (v := ?_) (a' := ?_) #[true, true, true, true, true, true, false, false, false, true, false, false, false, false] rfl rfl (take_ofW HT_.out HW_.out (by kernel_rfl)) (fun _ _ _ h => h) (Or.inl ⟨by rfl, ?_⟩) hHeld ?_ ?_
                     rotate_left
                     ·
                      rintro w' ⟨s0, s1, s2, s3, s4, s5⟩
                      go_simp
                      with_reducible rfl
                     rotate_left
                     ·
                      simp only [Act.put, List.setIfInBounds_toArray, List.set_cons_zero, List.set_cons_succ, i64_w, i32_w]
                      rfl
                     refine take_ (i := 6) (N := some 57) (v := ?_) (a' := ?_) #[true, true, true, true, true, true, true, false, false, true, false, false, false, false] rfl rfl (take_ofW HT_.out HW_.out (by kernel_rfl)) (fun _ _ _ h => h) (Or.inl ⟨by rfl, ?_⟩) hHeld ?_ ?_
                     rotate_left
                     ·
                      rintro w' ⟨s0, s1, s2, s3, s4, s5⟩
                      go_simp
                      with_reducible rfl
                     rotate_left
                     ·
                      simp only [Act.put, List.setIfInBounds_toArray, List.set_cons_zero, List.set_cons_succ, i64_w, i32_w]
                      rfl
                     refine pure_ (i := 7) (N := some 58) (v := ?_) (a' := ?_) #[true, true, true, true, true, true, true, true, false, true, false, false, false, false] rfl rfl (any_of HT_.out (by kernel_rfl)) (fun _ _ _ h => h) (Or.inl ⟨by rfl, ?_⟩) ?_ ?_
                     rotate_left
                     ·
                      intro w'
                      go_simp
                      with_reducible rfl
                     rotate_left
                     ·
                      simp only [Act.put, List.setIfInBounds_toArray, List.set_cons_zero, List.set_cons_succ, i64_w, i32_w]
                      rfl
                     refine take_ (i := 8) (N := some 59) (v := ?_) (a' := ?_) #[true, true, true, true, true, true, true, true, true, true, false, false, false, false] rfl rfl (take_ofW HT_.out HW_.out (by kernel_rfl)) (fun _ _ _ h => h) (Or.inl ⟨by rfl, ?_⟩) hHeld ?_ ?_
                     rotate_left
                     ·
                      rintro w' ⟨s0, s1, s2, s3, s4, s5⟩
                      go_simp
                      with_reducible rfl
                     rotate_left
                     ·
                      simp only [Act.put, List.setIfInBounds_toArray, List.set_cons_zero, List.set_cons_succ, i64_w, i32_w]
                      rfl
                     refine pure_ (i := 10) (N := some 61) (v := ?_) (a' := ?_) #[true, true, true, true, true, true, true, true, true, true, true, false, false, false] rfl rfl (any_of HT_.out (by kernel_rfl)) (fun _ _ _ h => h) (Or.inl ⟨by rfl, ?_⟩) ?_ ?_
                     rotate_left
                     ·
                      intro w'
                      go_simp
                      with_reducible rfl
                     rotate_left
                     ·
                      simp only [Act.put, List.setIfInBounds_toArray, List.set_cons_zero, List.set_cons_succ, i64_w, i32_w]
                      rfl
                     refine take_ (i := 11) (N := some 62) (v := ?_) (a' := ?_) #[true, true, true, true, true, true, true, true, true, true, true, true, false, false] rfl rfl (take_ofW HT_.out HW_.out (by kernel_rfl)) (fun _ _ _ h => h) (Or.inl ⟨by rfl, ?_⟩) hHeld ?_ ?_
                     rotate_left
                     ·
                      rintro w' ⟨s0, s1, s2, s3, s4, s5⟩
                      go_simp
                      with_reducible rfl
                     rotate_left
                     ·
                      simp only [Act.put, List.setIfInBounds_toArray, List.set_cons_zero, List.set_cons_succ, i64_w, i32_w]
                      rfl
                     refine pure_ (i := 12) (N := some 63) (v := ?_) (a' := ?_) #[true, true, true, true, true, true, true, true, true, true, true, true, true, false] rfl rfl (any_of HT_.out (by kernel_rfl)) (fun _ _ _ h => h) (Or.inl ⟨by rfl, ?_⟩) ?_ ?_
                     rotate_left
                     ·
                      intro w'
                      go_simp
                      with_reducible rfl
                     rotate_left
                     ·
                      simp only [Act.put, List.setIfInBounds_toArray, List.set_cons_zero, List.set_cons_succ, i64_w, i32_w]
                      rfl
                     refine last_ (i := 13) (N := none) #[true, true, true, true, true, true, true, true, true, true, true, true, true, true] rfl rfl (one_of HT_.out (by kernel_rfl)) (by decide) (fun K hK => ?_)
                     refine skip_ (w1 := ?_) (by rfl) rfl ?_ ?_
                     rotate_left
                     ·
                      go_simp
                      rfl
                     refine hK.out _ _ ?_
                     clear hK K
                     refine done_ (done_of HT_.out (by kernel_rfl)) ?_
                     try go_wp2
                     go_roundg k2
                     case measure => have := HK1.out; have := HK2.out; omega
                     case rel => exact ⟨(y438), (wrap64 (x9_2 + 1)), (by first | rfl | (simp; done) | (simp [*]; done)), H', ⟨by have := HK1.out; have := HK2.out; omega⟩, ⟨by (with_reducible repeat (first | apply Kd.R_alloc | apply Kd.R_drewN | apply Kd.R_drew)); exact HQ30.out⟩, ⟨by (with_reducible repeat (first | refine blk_drewN ?_ _ | refine blk_drew ?_ | refine blk_alloc ?_ _)); refine blk_far ?_ (by have h_ := Kd.R_ne HO_7.out BK426.out (by decide); intro e_; exact h_ (by rw [e_]; rfl)) _; (with_reducible repeat (first | refine blk_drewN ?_ _ | refine blk_drew ?_ | refine blk_alloc ?_ _)); exact BK426.out⟩, ⟨by repeat (first | (with_reducible first | exact HB.out | apply below_alloc | apply pw_below_drewN | apply below_drew1 | refine below_set ?_ GB27.out | refine below_set ?_ GE426.out) | exact HB.out)⟩⟩
                    ·
                     rw [if_neg c26] at H
                     exact absurd H (by simp)
                   ·
                    rw [if_neg c25] at H
                    exact absurd H (by simp)
                  ·
                   rw [if_neg c24] at H
                   exact absurd H (by simp)
                 ·
                  rw [if_neg c23] at H
                  have c23b0 : decide (x9_2 < ((rd_L1 l0_2 (rd l1 x8_1)).length : Int)) = false := decide_eq_false c23
                  clear c23
                  have H' := Aside0.mk H
                  clear H
                  try go_wp2
                  have n0_ := Aside0.mk (Kd.R_drew HO_7.out)
                  have n1_ := Aside0.mk (blk_drew BK426.out)
                  have n2_ := Aside0.mk (below_drew1 HB.out)
                  clear HO_7
                  clear BK426
                  clear HB
                  have HO_7 := n0_
                  have BK426 := n1_
                  have HB := n2_
                  clear n0_ n1_ n2_
                  have p433 : 0 ≤ (x8_1 : Int) := of_decide_eq_true (by first | (with_reducible assumption) | assumption)
                  have q433 : x8_1 < (l1.length : Int) := of_decide_eq_true (by first | (with_reducible assumption) | assumption)
                  obtain ⟨ad433, e433, hx433_0⟩ := Kd.at_int HR1.out x8_1 p433 q433
                  have hw433_0 := hx433_0
                  obtain rfl : ad431 = ad433 := (by injection e433)
                  replace hx433_0 := (HB.out.cell (World.block_lt_of_cell? w _ hx433_0)).trans hx433_0
                  replace p433 := eq_true p433
                  replace q433 := eq_true q433
                  have p434 : 0 ≤ ((rd l1 x8_1) : Int) := of_decide_eq_true (by first | (with_reducible assumption) | assumption)
                  have q434 : (rd l1 x8_1) < (l0_2.length : Int) := of_decide_eq_true (by first | (with_reducible assumption) | assumption)
                  obtain ⟨ad434, A434_0, c434_0, e434, hx434_0, hl434_0, hi434_0⟩ := at_L1 HR0_2.out (rd l1 x8_1) p434 q434
                  have hw434_0 := hx434_0
                  obtain rfl : ad432 = ad434 := (by injection e434)
                  replace hx434_0 := (HB.out.cell (World.block_lt_of_cell? w _ hx434_0)).trans hx434_0
                  have HR434_0 := Aside0.mk hi434_0
                  have HC434_0 := Aside0.mk hl434_0
                  clear hi434_0 hl434_0
                  replace p434 := eq_true p434
                  replace q434 := eq_true q434
                  refine start_ (n := 11) (S := fun w' => w'.cell? ⟨gb426, 0, none⟩ = some (.slice A0_0 l0_0.length c0_0) ∧ w'.cell? ⟨gb426, 1, none⟩ = some (.slice A0_1 l0_1.length c0_1) ∧ w'.cell? ⟨gb426, 2, none⟩ = some (.slice (some ad432) l0_2.length c0_2) ∧ w'.cell? (ad431.add (x8_1).toNat) = some (.int .i64 (rd l1 x8_1)) ∧ w'.cell? (ad432.add ((rd l1 x8_1)).toNat) = some (.slice A434_0 (rd_L1 l0_2 (rd l1 x8_1)).length c434_0)) (ds := []) #[false, false, false, false, false, false, false, false, false, false, false] (by kernel_rfl) rfl rfl ⟨(blk_cell BK426.out 0).trans rfl, (blk_cell BK426.out 1).trans rfl, (blk_cell BK426.out 2).trans rfl, ((HB.out.cell (World.block_lt_of_cell? w _ hw433_0)).trans hw433_0), ((HB.out.cell (World.block_lt_of_cell? w _ hw434_0)).trans hw434_0)⟩ (fun hHeld => ?_); refine with_tabW laganref04_short.tab10 laganref04_short.bits10 (fun HT_ HW_ => ?_)
                  generalize wr.drew = w31 at HO_7 BK426 HB HR434_0 hx433_0 hx434_0 hHeld ⊢
                  refine pure_ (i := 0) (N := some 38) (v := ?_) (a' := ?_) #[true, false, false, false, false, false, false, false, false, false, false] rfl rfl (any_of HT_.out (by kernel_rfl)) (fun _ _ _ h => h) (Or.inl ⟨by rfl, ?_⟩) ?_ ?_
                  rotate_left
                  ·
                   intro w'
                   go_simp
                   with_reducible rfl
                  rotate_left
                  ·
                   simp only [Act.put, List.setIfInBounds_toArray, List.set_cons_zero, List.set_cons_succ, i64_w, i32_w]
                   rfl
                  refine pure_ (i := 1) (N := some 39) (v := ?_) (a' := ?_) #[true, true, false, false, false, false, false, false, false, false, false] rfl rfl (any_of HT_.out (by kernel_rfl)) (fun _ _ _ h => h) (Or.inl ⟨by rfl, ?_⟩) ?_ ?_
                  rotate_left
                  ·
                   intro w'
                   go_simp
                   with_reducible rfl
                  rotate_left
                  ·
                   simp only [Act.put, List.setIfInBounds_toArray, List.set_cons_zero, List.set_cons_succ, i64_w, i32_w]
                   rfl
                  refine pure_ (i := 3) (N := some 41) (v := ?_) (a' := ?_) #[true, true, false, true, false, false, false, false, false, false, false] rfl rfl (any_of HT_.out (by kernel_rfl)) (fun _ _ _ h => h) (Or.inl ⟨by rfl, ?_⟩) ?_ ?_
                  rotate_left
                  ·
                   intro w'
                   go_simp
                   with_reducible rfl
                  rotate_left
                  ·
                   simp only [Act.put, List.setIfInBounds_toArray, List.set_cons_zero, List.set_cons_succ, i64_w, i32_w]
                   rfl
                  refine pure_ (i := 4) (N := some 42) (v := ?_) (a' := ?_) #[true, true, false, true, true, false, false, false, false, false, false] rfl rfl (any_of HT_.out (by kernel_rfl)) (fun _ _ _ h => h) (Or.inl ⟨by rfl, ?_⟩) ?_ ?_
                  rotate_left
                  ·
                   intro w'
                   go_simp
                   with_reducible rfl
                  rotate_left
                  ·
                   simp only [Act.put, List.setIfInBounds_toArray, List.set_cons_zero, List.set_cons_succ, i64_w, i32_w]
                   rfl
                  refine pure_ (i := 5) (N := some 43) (v := ?_) (a' := ?_) #[true, true, false, true, true, true, false, false, false, false, false] rfl rfl (any_of HT_.out (by kernel_rfl)) (fun _ _ _ h => h) (Or.inl ⟨by rfl, ?_⟩) ?_ ?_
                  rotate_left
                  ·
                   intro w'
                   go_simp
                   with_reducible rfl
                  rotate_left
                  ·
                   simp only [Act.put, List.setIfInBounds_toArray, List.set_cons_zero, List.set_cons_succ, i64_w, i32_w]
                   rfl
                  refine take_ (i := 2) (N := some 40) (v := ?_) (a' := ?_) #[true, true, true, true, true, true, false, false, false, false, false] rfl rfl (take_ofW HT_.out HW_.out (by kernel_rfl)) (fun _ _ _ h => h) (Or.inl ⟨by rfl, ?_⟩) hHeld ?_ ?_
                  rotate_left
                  ·
                   rintro w' ⟨s0, s1, s2, s3, s4⟩
                   go_simp
                   with_reducible rfl
                  rotate_left
                  ·
                   simp only [Act.put, List.setIfInBounds_toArray, List.set_cons_zero, List.set_cons_succ, i64_w, i32_w]
                   rfl
                  refine take_ (i := 6) (N := some 44) (v := ?_) (a' := ?_) #[true, true, true, true, true, true, true, false, false, false, false] rfl rfl (take_ofW HT_.out HW_.out (by kernel_rfl)) (fun _ _ _ h => h) (Or.inl ⟨by rfl, ?_⟩) hHeld ?_ ?_
                  rotate_left
                  ·
                   rintro w' ⟨s0, s1, s2, s3, s4⟩
                   go_simp
                   with_reducible rfl
                  rotate_left
                  ·
                   simp only [Act.put, List.setIfInBounds_toArray, List.set_cons_zero, List.set_cons_succ, i64_w, i32_w]
                   rfl
                  refine pure_ (i := 7) (N := some 45) (v := ?_) (a' := ?_) #[true, true, true, true, true, true, true, true, false, false, false] rfl rfl (any_of HT_.out (by kernel_rfl)) (fun _ _ _ h => h) (Or.inl ⟨by rfl, ?_⟩) ?_ ?_
                  rotate_left
                  ·
                   intro w'
                   go_simp
                   with_reducible rfl
                  rotate_left
                  ·
                   simp only [Act.put, List.setIfInBounds_toArray, List.set_cons_zero, List.set_cons_succ, i64_w, i32_w]
                   rfl
                  refine take_ (i := 8) (N := some 46) (v := ?_) (a' := ?_) #[true, true, true, true, true, true, true, true, true, false, false] rfl rfl (take_ofW HT_.out HW_.out (by kernel_rfl)) (fun _ _ _ h => h) (Or.inl ⟨by rfl, ?_⟩) hHeld ?_ ?_
                  rotate_left
                  ·
                   rintro w' ⟨s0, s1, s2, s3, s4⟩
                   go_simp
                   with_reducible rfl
                  rotate_left
                  ·
                   simp only [Act.put, List.setIfInBounds_toArray, List.set_cons_zero, List.set_cons_succ, i64_w, i32_w]
                   rfl
                  refine pure_ (i := 9) (N := some 47) (v := ?_) (a' := ?_) #[true, true, true, true, true, true, true, true, true, true, false] rfl rfl (any_of HT_.out (by kernel_rfl)) (fun _ _ _ h => h) (Or.inl ⟨by rfl, ?_⟩) ?_ ?_
                  rotate_left
                  ·
                   intro w'
                   go_simp
                   with_reducible rfl
                  rotate_left
                  ·
                   simp only [Act.put, List.setIfInBounds_toArray, List.set_cons_zero, List.set_cons_succ, i64_w, i32_w]
                   rfl
                  refine pure_ (i := 10) (N := some 48) (v := ?_) (a' := ?_) #[true, true, true, true, true, true, true, true, true, true, true] rfl rfl (any_of HT_.out (by kernel_rfl)) (fun _ _ _ h => h) (Or.inl ⟨by rfl, ?_⟩) ?_ ?_
                  rotate_left
                  ·
                   intro w'
                   go_simp
                   with_reducible rfl
                  rotate_left
                  ·
                   simp only [Act.put, List.setIfInBounds_toArray, List.set_cons_zero, List.set_cons_succ, i64_w, i32_w]
                   rfl
                  refine done_ (done_of HT_.out (by kernel_rfl)) ?_
                  try go_wp2
                  go_roundg k2
                  case measure => have := HK1.out; have := HK2.out; omega
                  case rel => exact ⟨(x7_2), (wrap64 (x8_1 + 1)), (by first | rfl | (simp; done) | (simp [*]; done)), H', ⟨by have := HK1.out; have := HK2.out; omega⟩, ⟨by (with_reducible repeat (first | apply Kd.R_alloc | apply Kd.R_drewN | apply Kd.R_drew)); exact HO_7.out⟩, ⟨by (with_reducible repeat (first | refine blk_drewN ?_ _ | refine blk_drew ?_ | refine blk_alloc ?_ _)); exact BK426.out⟩, ⟨by repeat (first | (with_reducible first | exact HB.out | apply below_alloc | apply pw_below_drewN | apply below_drew1 | refine below_set ?_ GE426.out) | exact HB.out)⟩⟩
                ·
                 rw [if_neg c22] at H
                 exact absurd H (by simp)
               ·
                rw [if_neg c21] at H
                exact absurd H (by simp)
              ·
               rw [if_neg c20] at H
               exact absurd H (by simp)
             ·
              rw [if_neg c19] at H
              exact absurd H (by simp)
         ·
          rw [if_neg c15] at H
          exact absurd H (by simp)
        ·
         rw [if_neg c14] at H
         exact absurd H (by simp)
       ·
        rw [if_neg c13] at H
        exact absurd H (by simp)
      ·
       rw [if_neg c12] at H
       have c12b0 : decide (x8_1 < (l1.length : Int)) = false := decide_eq_false c12
       clear c12
       have H' := Aside0.mk H
       clear H
       go_wp2
       go_loopg [10, 11] k1 (fun kq v10 v11 w' => ∃ (x10_2 : Int) (x11_2 : Int), v10 = .int .i64 x10_2 ∧ v11 = .int .i64 x11_2 ∧ Aside0 (laganref04_short.l2 kq l1 a2 x7_1 x10_2 x11_2 l0_0 l0_1 l0_2 = some r) ∧ Aside0 (kq ≤ k1) ∧ Aside0 (Kd.R Kd.bool 4 w' w.heap.size (fun _ => True) v429 x7_1) ∧ Aside0 (w'.heap[gb426]? = some (.cells #[(.slice A0_0 l0_0.length c0_0), (.slice A0_1 l0_1.length c0_1), (.slice A0_2 l0_2.length c0_2)] 26 (0, 0))) ∧ Aside0 (Below w.heap.size w w'))
       case atStart => exact ⟨(0), (0), (by first | rfl | (simp; done) | (simp [*]; done)), (by first | rfl | (simp; done) | (simp [*]; done)), H', ⟨Nat.le_refl _⟩, ⟨by (with_reducible repeat (first | apply Kd.R_alloc | apply Kd.R_drewN | apply Kd.R_drew)); exact HO_7.out⟩, ⟨by (with_reducible repeat (first | refine blk_drewN ?_ _ | refine blk_drew ?_ | refine blk_alloc ?_ _)); exact BK426.out⟩, ⟨by repeat (first | (with_reducible first | exact HB.out | apply below_alloc | apply pw_below_drewN | apply below_drew1 | refine below_set ?_ GE426.out) | exact HB.out)⟩⟩
       case round =>
        clear H'
        try clear c1
        try clear c2
        try clear p2
        try clear q2
        try clear hx2
        try clear c4
        try clear p4
        try clear q4
        try clear hx4
        try clear c5
        try clear c6
        try clear c6b0
        try clear c6b1
        try clear p6
        try clear c7
        try clear c7b0
        try clear c7b1
        try clear c12
        try clear c12b0
        try clear c13
        try clear c13b0
        try clear c14
        try clear c14b0
        try clear c15
        try clear c15b0
        try clear c16
        try clear c16b0
        try clear c16b1
        try clear c16b2
        try clear c19
        try clear c19b0
        try clear c20
        try clear c20b0
        try clear c21
        try clear c21b0
        try clear c22
        try clear c22b0
        try clear c23
        try clear c23b0
        try clear c24
        try clear c24b0
        try clear c25
        try clear c25b0
        try clear c26
        try clear c26b0
        try clear p27
        try clear q27
        try clear hx27
        try clear hf27
        try clear hcz9_0
        try clear hcz9_1
        try clear hcz9_2
        try clear hfz9_0
        try clear hfz9_1
        try clear hfz9_2
        try clear hx27_0
        try clear hx431_0
        try clear hx432_0
        try clear hx433_0
        try clear hx434_0
        try clear hx435_0
        try clear hx436_0
        try clear hx437_0
        try clear p2
        try clear p27
        try clear p4
        try clear p431
        try clear p432
        try clear p433
        try clear p434
        try clear p435
        try clear p436
        try clear p437
        try clear q27
        try clear q4
        try clear q431
        try clear q432
        try clear q433
        try clear q434
        try clear q435
        try clear q436
        try clear q437
        obtain ⟨x10_2, x11_2, rfl, rfl, HA, HK2, HO_7, BK426, HB⟩ := hrel
        cases gk with
        | zero => exact absurd HA.out (by simp [laganref04_short.l2])
        | succ k2 =>
         have H := HA.out
         clear HA
         simp only [laganref04_short.l2] at H
         by_cases c32 : x11_2 < (x7_1.length : Int)
         ·
          rw [if_pos c32] at H
          have c32b0 : decide (x11_2 < (x7_1.length : Int)) = true := decide_eq_true c32
          clear c32
          by_cases c33 : 0 ≤ x11_2
          ·
           rw [if_pos c33] at H
           have c33b0 : decide (0 ≤ x11_2) = true := decide_eq_true c33
           clear c33
           obtain ⟨bq34, hbq34⟩ : ∃ b_ : Bool, b_ = (rdOf false x7_1 x11_2) := ⟨_, rfl⟩
           replace H : (if bq34 = true then (if x11_2 < (l0_1.length : Int) then (if x11_2 = a2 then (laganref04_short.l2 k2 l1 a2 x7_1 (wrap64 ((wrap64 (x10_2 + ((rd_T50 l0_1 x11_2).f2))) - 1)) (wrap64 (x11_2 + 1)) l0_0 l0_1 l0_2) else (laganref04_short.l2 k2 l1 a2 x7_1 (wrap64 (x10_2 + ((rd_T50 l0_1 x11_2).f2))) (wrap64 (x11_2 + 1)) l0_0 l0_1 l0_2)) else (none)) else (laganref04_short.l2 k2 l1 a2 x7_1 x10_2 (wrap64 (x11_2 + 1)) l0_0 l0_1 l0_2)) = some r := by rw [← hbq34] at H; exact H
           have Nbq34 := Aside0.mk hbq34
           clear hbq34
           by_cases c35 : bq34 = true
           ·
            subst c35
            have H1 : (if x11_2 < (l0_1.length : Int) then (if x11_2 = a2 then (laganref04_short.l2 k2 l1 a2 x7_1 (wrap64 ((wrap64 (x10_2 + ((rd_T50 l0_1 x11_2).f2))) - 1)) (wrap64 (x11_2 + 1)) l0_0 l0_1 l0_2) else (laganref04_short.l2 k2 l1 a2 x7_1 (wrap64 (x10_2 + ((rd_T50 l0_1 x11_2).f2))) (wrap64 (x11_2 + 1)) l0_0 l0_1 l0_2)) else (none)) = some r := by rw [if_pos rfl] at H; exact H
            clear H
            have H := H1
            clear H1
            by_cases c36 : x11_2 < (l0_1.length : Int)
            ·
             rw [if_pos c36] at H
             have c36b0 : decide (x11_2 < (l0_1.length : Int)) = true := decide_eq_true c36
             clear c36
             by_cases c37 : x11_2 = a2
             ·
              rw [if_pos c37] at H
              have c37b0 : (x11_2 == a2) = true := beq_iff_eq.mpr c37
              have c37b1 : (x11_2 != a2) = false := bne_eq_false_iff_eq.mpr c37
              clear c37
              have H' := Aside0.mk H
              clear H
              obtain ⟨Ao38, co38, eo38⟩ := Kd.R_slice HO_7.out
              subst eo38
              have p439 : 0 ≤ (x11_2 : Int) := of_decide_eq_true (by first | (with_reducible assumption) | assumption)
              have q439 : x11_2 < (x7_1.length : Int) := of_decide_eq_true (by first | (with_reducible assumption) | assumption)
              obtain ⟨ad439, e439, hx439_0⟩ := Kd.at_bool (Kd.R_reads' HO_7.out).2.2 x11_2 p439 q439
              (try rw [← Nbq34.out] at hx439_0)
              cases e439
              replace p439 := eq_true p439
              replace q439 := eq_true q439
              have hcz39_0 : wr.cell? ⟨gb426, 0, none⟩ = some (.slice A0_0 l0_0.length c0_0) := (blk_cell BK426.out 0).trans rfl
              have hcz39_1 : wr.cell? ⟨gb426, 1, none⟩ = some (.slice A0_1 l0_1.length c0_1) := (blk_cell BK426.out 1).trans rfl
              have hcz39_2 : wr.cell? ⟨gb426, 2, none⟩ = some (.slice A0_2 l0_2.length c0_2) := (blk_cell BK426.out 2).trans rfl
              have hfz39_0 := blk_frozen BK426.out 0
              have hfz39_1 := blk_frozen BK426.out 1
              have hfz39_2 := blk_frozen BK426.out 2
              have p440 : 0 ≤ (x11_2 : Int) := of_decide_eq_true (by first | (with_reducible assumption) | assumption)
              have q440 : x11_2 < (l0_1.length : Int) := of_decide_eq_true (by first | (with_reducible assumption) | assumption)
              obtain ⟨ad440, e440, hx440_0, hx440_1, hx440_2⟩ := at_T50 HR0_1.out x11_2 p440 q440
              cases e440
              replace hx440_0 := (HB.out.cell (World.block_lt_of_cell? w _ hx440_0)).trans hx440_0
              replace hx440_1 := (HB.out.cell (World.block_lt_of_cell? w _ hx440_1)).trans hx440_1
              replace hx440_2 := (HB.out.cell (World.block_lt_of_cell? w _ hx440_2)).trans hx440_2
              replace p440 := eq_true p440
              replace q440 := eq_true q440
              have p441 : 0 ≤ (x11_2 : Int) := of_decide_eq_true (by first | (with_reducible assumption) | assumption)
              have q441 : x11_2 < (x7_1.length : Int) := of_decide_eq_true (by first | (with_reducible assumption) | assumption)
              obtain ⟨ad441, e441, hx441_0⟩ := Kd.at_bool (Kd.R_reads' HO_7.out).2.2 x11_2 p441 q441
              (try rw [← Nbq34.out] at hx441_0)
              obtain rfl : ad439 = ad441 := (by injection e441)
              replace p441 := eq_true p441
              replace q441 := eq_true q441
              go_wp2
              go_roundg k2
              case measure => have := HK1.out; have := HK2.out; omega
              case rel => exact ⟨(wrap64 ((wrap64 (x10_2 + ((rd_T50 l0_1 x11_2).f2))) - 1)), (wrap64 (x11_2 + 1)), (by first | rfl | (simp; done) | (simp [*]; done)), (by first | rfl | (simp; done) | (simp [*]; done)), H', ⟨by have := HK1.out; have := HK2.out; omega⟩, ⟨by (with_reducible repeat (first | apply Kd.R_alloc | apply Kd.R_drewN | apply Kd.R_drew)); exact HO_7.out⟩, ⟨by (with_reducible repeat (first | refine blk_drewN ?_ _ | refine blk_drew ?_ | refine blk_alloc ?_ _)); exact BK426.out⟩, ⟨by repeat (first | (with_reducible first | exact HB.out | apply below_alloc | apply pw_below_drewN | apply below_drew1 | refine below_set ?_ GE426.out) | exact HB.out)⟩⟩
             ·
              rw [if_neg c37] at H
              have c37b0 : (x11_2 == a2) = false := beq_eq_false_iff_ne.mpr c37
              have c37b1 : (x11_2 != a2) = true := bne_iff_ne.mpr c37
              have H' := Aside0.mk H
              clear H
              obtain ⟨Ao40, co40, eo40⟩ := Kd.R_slice HO_7.out
              subst eo40
              have p439 : 0 ≤ (x11_2 : Int) := of_decide_eq_true (by first | (with_reducible assumption) | assumption)
              have q439 : x11_2 < (x7_1.length : Int) := of_decide_eq_true (by first | (with_reducible assumption) | assumption)
              obtain ⟨ad439, e439, hx439_0⟩ := Kd.at_bool (Kd.R_reads' HO_7.out).2.2 x11_2 p439 q439
              (try rw [← Nbq34.out] at hx439_0)
              cases e439
              replace p439 := eq_true p439
              replace q439 := eq_true q439
              have hcz41_0 : wr.cell? ⟨gb426, 0, none⟩ = some (.slice A0_0 l0_0.length c0_0) := (blk_cell BK426.out 0).trans rfl
              have hcz41_1 : wr.cell? ⟨gb426, 1, none⟩ = some (.slice A0_1 l0_1.length c0_1) := (blk_cell BK426.out 1).trans rfl
              have hcz41_2 : wr.cell? ⟨gb426, 2, none⟩ = some (.slice A0_2 l0_2.length c0_2) := (blk_cell BK426.out 2).trans rfl
              have hfz41_0 := blk_frozen BK426.out 0
              have hfz41_1 := blk_frozen BK426.out 1
              have hfz41_2 := blk_frozen BK426.out 2
              have p440 : 0 ≤ (x11_2 : Int) := of_decide_eq_true (by first | (with_reducible assumption) | assumption)
              have q440 : x11_2 < (l0_1.length : Int) := of_decide_eq_true (by first | (with_reducible assumption) | assumption)
              obtain ⟨ad440, e440, hx440_0, hx440_1, hx440_2⟩ := at_T50 HR0_1.out x11_2 p440 q440
              cases e440
              replace hx440_0 := (HB.out.cell (World.block_lt_of_cell? w _ hx440_0)).trans hx440_0
              replace hx440_1 := (HB.out.cell (World.block_lt_of_cell? w _ hx440_1)).trans hx440_1
              replace hx440_2 := (HB.out.cell (World.block_lt_of_cell? w _ hx440_2)).trans hx440_2
              replace p440 := eq_true p440
              replace q440 := eq_true q440
              have p441 : 0 ≤ (x11_2 : Int) := of_decide_eq_true (by first | (with_reducible assumption) | assumption)
              have q441 : x11_2 < (x7_1.length : Int) := of_decide_eq_true (by first | (with_reducible assumption) | assumption)
              obtain ⟨ad441, e441, hx441_0⟩ := Kd.at_bool (Kd.R_reads' HO_7.out).2.2 x11_2 p441 q441
              (try rw [← Nbq34.out] at hx441_0)
              obtain rfl : ad439 = ad441 := (by injection e441)
              replace p441 := eq_true p441
              replace q441 := eq_true q441
              go_wp2
              go_roundg k2
              case measure => have := HK1.out; have := HK2.out; omega
              case rel => exact ⟨(wrap64 (x10_2 + ((rd_T50 l0_1 x11_2).f2))), (wrap64 (x11_2 + 1)), (by first | rfl | (simp; done) | (simp [*]; done)), (by first | rfl | (simp; done) | (simp [*]; done)), H', ⟨by have := HK1.out; have := HK2.out; omega⟩, ⟨by (with_reducible repeat (first | apply Kd.R_alloc | apply Kd.R_drewN | apply Kd.R_drew)); exact HO_7.out⟩, ⟨by (with_reducible repeat (first | refine blk_drewN ?_ _ | refine blk_drew ?_ | refine blk_alloc ?_ _)); exact BK426.out⟩, ⟨by repeat (first | (with_reducible first | exact HB.out | apply below_alloc | apply pw_below_drewN | apply below_drew1 | refine below_set ?_ GE426.out) | exact HB.out)⟩⟩
            ·
             rw [if_neg c36] at H
             exact absurd H (by simp)
           ·
            replace c35 := Bool.eq_false_iff.mpr c35
            subst c35
            have H1 : (laganref04_short.l2 k2 l1 a2 x7_1 x10_2 (wrap64 (x11_2 + 1)) l0_0 l0_1 l0_2) = some r := by rw [if_neg (show ¬ (false = true) by decide)] at H; exact H
            clear H
            have H := H1
            clear H1
            have H' := Aside0.mk H
            clear H
            obtain ⟨Ao42, co42, eo42⟩ := Kd.R_slice HO_7.out
            subst eo42
            have p439 : 0 ≤ (x11_2 : Int) := of_decide_eq_true (by first | (with_reducible assumption) | assumption)
            have q439 : x11_2 < (x7_1.length : Int) := of_decide_eq_true (by first | (with_reducible assumption) | assumption)
            obtain ⟨ad439, e439, hx439_0⟩ := Kd.at_bool (Kd.R_reads' HO_7.out).2.2 x11_2 p439 q439
            (try rw [← Nbq34.out] at hx439_0)
            cases e439
            replace p439 := eq_true p439
            replace q439 := eq_true q439
            have p442 : 0 ≤ (x11_2 : Int) := of_decide_eq_true (by first | (with_reducible assumption) | assumption)
            have q442 : x11_2 < (x7_1.length : Int) := of_decide_eq_true (by first | (with_reducible assumption) | assumption)
            obtain ⟨ad442, e442, hx442_0⟩ := Kd.at_bool (Kd.R_reads' HO_7.out).2.2 x11_2 p442 q442
            (try rw [← Nbq34.out] at hx442_0)
            obtain rfl : ad439 = ad442 := (by injection e442)
            replace p442 := eq_true p442
            replace q442 := eq_true q442
            go_wp2
            go_roundg k2
            case measure => have := HK1.out; have := HK2.out; omega
            case rel => exact ⟨(x10_2), (wrap64 (x11_2 + 1)), (by first | rfl | (simp; done) | (simp [*]; done)), (by first | rfl | (simp; done) | (simp [*]; done)), H', ⟨by have := HK1.out; have := HK2.out; omega⟩, ⟨by (with_reducible repeat (first | apply Kd.R_alloc | apply Kd.R_drewN | apply Kd.R_drew)); exact HO_7.out⟩, ⟨by (with_reducible repeat (first | refine blk_drewN ?_ _ | refine blk_drew ?_ | refine blk_alloc ?_ _)); exact BK426.out⟩, ⟨by repeat (first | (with_reducible first | exact HB.out | apply below_alloc | apply pw_below_drewN | apply below_drew1 | refine below_set ?_ GE426.out) | exact HB.out)⟩⟩
          ·
           rw [if_neg c33] at H
           exact absurd H (by simp)
         ·
          rw [if_neg c32] at H
          have c32b0 : decide (x11_2 < (x7_1.length : Int)) = false := decide_eq_false c32
          clear c32
          obtain rfl := Option.some.inj H
          obtain ⟨Ao43, co43, eo43⟩ := Kd.R_slice HO_7.out
          subst eo43
          go_wp2
          go_ret
          exact ⟨by first | rfl | (simp [errW_none, errW_some] <;> rfl) | (simp [*, errW_none, errW_some] <;> rfl), by repeat (first | (with_reducible first | exact HB.out | apply below_alloc | apply pw_below_drewN | apply below_drew1 | refine below_set ?_ GE426.out) | exact HB.out)⟩
   ·
    rw [if_neg c7] at H
    exact absurd H (by simp)
  ·
   rw [if_neg c6] at H
   exact absurd H (by simp)
 ·
  replace c5 := Bool.eq_false_iff.mpr c5
  subst c5
  have H1 : (some false) = some r := by rw [if_neg (show ¬ (false = true) by decide)] at H; exact H
  clear H
  have H := H1
  clear H1
  obtain rfl := Option.some.inj H
  go_enter Try.func73, Try.ntmps73
  go_wp2_with (first | ((with_reducible refine gate_dst (N := 3) rfl ?_); refine box_event ?hg (N := 3) ?hd (cs := #[.slice A0_0 l0_0.length c0_0, .slice A0_1 l0_1.length c0_1, .slice A0_2 l0_2.length c0_2]) (t := 26) ?hr ?_; (case hd => rfl); (case hg => rfl); (case hr => first | (go_simp; done) | (go_simp; rfl)); intro gb426 hg w44 hbox hb; have n0_ := Aside0.mk (below_step (by repeat (first | (with_reducible first | exact HB.out | apply below_alloc | apply pw_below_drewN | apply below_drew1) | exact HB.out)) hb); have n1_ := Aside0.mk (hbox); have n2_ := Aside0.mk ((by rw [hg]; exact (below_size (by repeat (first | (with_reducible first | exact HB.out | apply below_alloc | apply pw_below_drewN | apply below_drew1) | exact HB.out))) : w.heap.size ≤ gb426)); have n3_ := Aside0.mk ((by rw [hg]; exact (below_size (by repeat (first | (with_reducible first | exact HB.out | apply below_alloc | apply pw_below_drewN | apply below_drew1) | exact HB.out))) : w.heap.size ≤ gb426)); clear HB; have HB := n0_; have BK426 := n1_; have GW426 := n2_; have GE426 := n3_; clear n0_ n1_ n2_ n3_; clear hb hbox hg; have hcz45_0 : w44.cell? ⟨gb426, 0, none⟩ = some (.slice A0_0 l0_0.length c0_0) := (blk_cell BK426.out 0).trans rfl; have hcz45_1 : w44.cell? ⟨gb426, 1, none⟩ = some (.slice A0_1 l0_1.length c0_1) := (blk_cell BK426.out 1).trans rfl; have hcz45_2 : w44.cell? ⟨gb426, 2, none⟩ = some (.slice A0_2 l0_2.length c0_2) := (blk_cell BK426.out 2).trans rfl; have hfz45_0 := blk_frozen BK426.out 0; have hfz45_1 := blk_frozen BK426.out 1; have hfz45_2 := blk_frozen BK426.out 2) | ((with_reducible refine gate_callee (f := 62) rfl ?_); refine goesL_ (some 16) rfl rfl Try.func62 (by kernel_rfl) rfl #[.slice A1 l1.length c1, .int .i64 (l0_0.length : Int)] rfl (by (try simp only [List.map_toArray, List.map_cons, List.map_nil]); first | done | rfl | (simp only [List.length_drop, List.length_take]; rfl)) ?_; (with_reducible refine (laganref04_ascending.calls k _ _ l1 (l0_0.length : Int) false _ ?side1 ?side2 A4.out).mono ?_); (case side1 => repeat (first | exact (Kd.C_below HR1.out HB.out) | (with_reducible refine Kd.C_alloc ?_ _) | (with_reducible refine Kd.C_drewN ?_ _) | (with_reducible refine Kd.C_drew ?_))); (case side2 => exact HC1.out); rintro e w' ⟨rfl, ⟨nd, rfl⟩⟩; refine ⟨_, rfl, ?_⟩))
  go_ret
  exact ⟨by first | rfl | (simp [errW_none, errW_some] <;> rfl) | (simp [*, errW_none, errW_some] <;> rfl), by repeat (first | (with_reducible first | exact HB.out | apply below_alloc | apply pw_below_drewN | apply below_drew1 | refine below_set ?_ GE426.out) | exact HB.out)⟩
def laganref04_CheckRefuse.f (k : Nat) (l0_0 : List Int) (l0_1 : List (S50)) (l0_2 : List (List Int)) (a1 : Int) (a2 : Int) (l3 : List Int) : Option (Bool × Int) := (laganref04_there.f k l0_0 l0_1 l0_2 a1 a2).bind fun t444 => (if t444 = 0 then (if 0 ≤ a1 then (if a1 < (l0_2.length : Int) then ((laganref04_Has.f k (rd_L1 l0_2 a1) a2).bind fun t446 => (if t446 = true then ((laganref04_Has.f k l3 a1).bind fun t447 => (if t447 = true then (some (false, 0)) else ((laganref04_short.f k l0_0 l0_1 l0_2 l3 a2).bind fun t448 => (some (t448, 0))))) else (some (((l3.length : Int) == 0), 0)))) else (none)) else (none)) else (some (false, t444)))
theorem laganref04_CheckRefuse.mono : ∀ a0 a1 a2 a3 a4 a5 k, LeO (laganref04_CheckRefuse.f k a0 a1 a2 a3 a4 a5) (laganref04_CheckRefuse.f (k + 1) a0 a1 a2 a3 a4 a5) := by
 intro a0 a1 a2 a3 a4 a5 k
 unfold laganref04_CheckRefuse.f
 repeat' first
   | (with_reducible exact laganref04_Has.mono _ _ _)
   | (with_reducible exact laganref04_short.mono _ _ _ _ _ _)
   | (with_reducible exact laganref04_there.mono _ _ _ _ _ _)
   | (with_reducible exact LeO.refl _)
   | (with_reducible exact LeO.none _)
   | (with_reducible refine LeO.ite ?_ ?_)
   | (with_reducible refine LeO.bind ?_ (fun _ => ?_))
   | exact laganref04_Has.mono _ _ _
   | exact laganref04_short.mono _ _ _ _ _ _
   | exact laganref04_there.mono _ _ _ _ _ _
   | exact LeO.none _
   | refine LeO.ite ?_ ?_
   | refine LeO.bind ?_ (fun _ => ?_)
set_option maxHeartbeats 8000000 in
set_option maxRecDepth 100000 in
theorem laganref04_CheckRefuse.calls (k : Nat) (A0_0 : Option Addr) (c0_0 : Nat) (l0_0 : List Int) (A0_1 : Option Addr) (c0_1 : Nat) (l0_1 : List (S50)) (A0_2 : Option Addr) (c0_2 : Nat) (l0_2 : List (List Int)) (a1 : Int) (a2 : Int) (A3 : Option Addr) (c3 : Nat) (l3 : List Int) (r1 : Bool) (r2 : Int) (w : World) (hr0_0 : Kd.C (Kd.int .i64) w A0_0 l0_0.length l0_0) (hc0_0 : l0_0.length ≤ c0_0) (hr0_1 : Kd.C k50 w A0_1 l0_1.length l0_1) (hc0_1 : l0_1.length ≤ c0_1) (hr0_2 : Kd.C (Kd.slice 3 (Kd.int .i64)) w A0_2 l0_2.length l0_2) (hc0_2 : l0_2.length ≤ c0_2) (hr3 : Kd.C (Kd.int .i64) w A3 l3.length l3) (hc3 : l3.length ≤ c3) (h : laganref04_CheckRefuse.f k l0_0 l0_1 l0_2 a1 a2 l3 = some (r1, r2)) :
  Calls Try.prog 35 #[.agg #[.slice A0_0 l0_0.length c0_0, .slice A0_1 l0_1.length c0_1, .slice A0_2 l0_2.length c0_2], .int .i64 a1, .int .i64 a2, .slice A3 l3.length c3] w fun e w' => e = .returned (.tuple #[.bool r1, .int .i64 r2]) ∧ Below w.heap.size w w' := by
 have hu26 := Try.underlying26
 have HR0_0 := Aside0.mk hr0_0
 have HC0_0 := Aside0.mk hc0_0
 clear hr0_0 hc0_0
 have HR0_1 := Aside0.mk hr0_1
 have HC0_1 := Aside0.mk hc0_1
 clear hr0_1 hc0_1
 have HR0_2 := Aside0.mk hr0_2
 have HC0_2 := Aside0.mk hc0_2
 clear hr0_2 hc0_2
 have HR3 := Aside0.mk hr3
 have HC3 := Aside0.mk hc3
 clear hr3 hc3
 have HB := Aside0.mk (Below.refl w.heap.size w)
 have H : ((laganref04_there.f k l0_0 l0_1 l0_2 a1 a2).bind fun t444 => (if t444 = 0 then (if 0 ≤ a1 then (if a1 < (l0_2.length : Int) then ((laganref04_Has.f k (rd_L1 l0_2 a1) a2).bind fun t446 => (if t446 = true then ((laganref04_Has.f k l3 a1).bind fun t447 => (if t447 = true then (some (false, 0)) else ((laganref04_short.f k l0_0 l0_1 l0_2 l3 a2).bind fun t448 => (some (t448, 0))))) else (some (((l3.length : Int) == 0), 0)))) else (none)) else (none)) else (some (false, t444)))) = some (r1, r2) := h
 clear h
 replace H := Option.bind_eq_some_iff.mp H
 obtain ⟨t444, A50, H⟩ := H
 replace H : (if t444 = 0 then (if 0 ≤ a1 then (if a1 < (l0_2.length : Int) then ((laganref04_Has.f k (rd_L1 l0_2 a1) a2).bind fun t446 => (if t446 = true then ((laganref04_Has.f k l3 a1).bind fun t447 => (if t447 = true then (some (false, 0)) else ((laganref04_short.f k l0_0 l0_1 l0_2 l3 a2).bind fun t448 => (some (t448, 0))))) else (some (((l3.length : Int) == 0), 0)))) else (none)) else (none)) else (some (false, t444))) = some (r1, r2) := H
 have A5 := Aside0.mk A50
 clear A50
 by_cases c6 : t444 = 0
 ·
  rw [if_pos c6] at H
  have c6b0 : (t444 == 0) = true := beq_iff_eq.mpr c6
  have c6b1 : (t444 != 0) = false := bne_eq_false_iff_eq.mpr c6
  clear c6
  by_cases c7 : 0 ≤ a1
  ·
   rw [if_pos c7] at H
   have c7b0 : decide (0 ≤ a1) = true := decide_eq_true c7
   clear c7
   by_cases c8 : a1 < (l0_2.length : Int)
   ·
    rw [if_pos c8] at H
    have c8b0 : decide (a1 < (l0_2.length : Int)) = true := decide_eq_true c8
    clear c8
    replace H := Option.bind_eq_some_iff.mp H
    obtain ⟨t446, A90, H⟩ := H
    replace H : (if t446 = true then ((laganref04_Has.f k l3 a1).bind fun t447 => (if t447 = true then (some (false, 0)) else ((laganref04_short.f k l0_0 l0_1 l0_2 l3 a2).bind fun t448 => (some (t448, 0))))) else (some (((l3.length : Int) == 0), 0))) = some (r1, r2) := H
    have A9 := Aside0.mk A90
    clear A90
    by_cases c10 : t446 = true
    ·
     subst c10
     have H1 : ((laganref04_Has.f k l3 a1).bind fun t447 => (if t447 = true then (some (false, 0)) else ((laganref04_short.f k l0_0 l0_1 l0_2 l3 a2).bind fun t448 => (some (t448, 0))))) = some (r1, r2) := by rw [if_pos rfl] at H; exact H
     clear H
     have H := H1
     clear H1
     replace H := Option.bind_eq_some_iff.mp H
     obtain ⟨t447, A110, H⟩ := H
     replace H : (if t447 = true then (some (false, 0)) else ((laganref04_short.f k l0_0 l0_1 l0_2 l3 a2).bind fun t448 => (some (t448, 0)))) = some (r1, r2) := H
     have A11 := Aside0.mk A110
     clear A110
     by_cases c12 : t447 = true
     ·
      subst c12
      have H1 : (some (false, 0)) = some (r1, r2) := by rw [if_pos rfl] at H; exact H
      clear H
      have H := H1
      clear H1
      simp only [Option.some.injEq, Prod.mk.injEq] at H
      obtain ⟨rfl, rfl⟩ := H
      go_enter Try.func35, Try.ntmps35
      go_wp2_with (first | ((with_reducible refine gate_dst (N := 4) rfl ?_); refine box_event ?hg (N := 4) ?hd (cs := #[.slice A0_0 l0_0.length c0_0, .slice A0_1 l0_1.length c0_1, .slice A0_2 l0_2.length c0_2]) (t := 26) ?hr ?_; (case hd => rfl); (case hg => rfl); (case hr => first | (go_simp; done) | (go_simp; rfl)); intro gb443 hg w13 hbox hb; have n0_ := Aside0.mk (below_step (by repeat (first | (with_reducible first | exact HB.out | apply below_alloc | apply pw_below_drewN | apply below_drew1) | exact HB.out)) hb); have n1_ := Aside0.mk (hbox); have n2_ := Aside0.mk ((by rw [hg]; exact (below_size (by repeat (first | (with_reducible first | exact HB.out | apply below_alloc | apply pw_below_drewN | apply below_drew1) | exact HB.out))) : w.heap.size ≤ gb443)); have n3_ := Aside0.mk ((by rw [hg]; exact (below_size (by repeat (first | (with_reducible first | exact HB.out | apply below_alloc | apply pw_below_drewN | apply below_drew1) | exact HB.out))) : w.heap.size ≤ gb443)); clear HB; have HB := n0_; have BK443 := n1_; have GW443 := n2_; have GE443 := n3_; clear n0_ n1_ n2_ n3_; clear hb hbox hg; have hcz14_0 : w13.cell? ⟨gb443, 0, none⟩ = some (.slice A0_0 l0_0.length c0_0) := (blk_cell BK443.out 0).trans rfl; have hcz14_1 : w13.cell? ⟨gb443, 1, none⟩ = some (.slice A0_1 l0_1.length c0_1) := (blk_cell BK443.out 1).trans rfl; have hcz14_2 : w13.cell? ⟨gb443, 2, none⟩ = some (.slice A0_2 l0_2.length c0_2) := (blk_cell BK443.out 2).trans rfl; have hfz14_0 := blk_frozen BK443.out 0; have hfz14_1 := blk_frozen BK443.out 1; have hfz14_2 := blk_frozen BK443.out 2) | ((with_reducible refine gate_callee (f := 72) rfl ?_); refine goesL_ (some 14) rfl rfl Try.func72 (by kernel_rfl) rfl #[.agg #[.slice A0_0 l0_0.length c0_0, .slice A0_1 l0_1.length c0_1, .slice A0_2 l0_2.length c0_2], .int .i64 a1, .int .i64 a2] rfl (by (try simp only [List.map_toArray, List.map_cons, List.map_nil]); first | done | rfl | (simp only [List.length_drop, List.length_take]; rfl)) ?_; (with_reducible refine (laganref04_there.calls k _ _ l0_0 _ _ l0_1 _ _ l0_2 a1 a2 t444 _ ?side1 ?side2 ?side3 ?side4 ?side5 ?side6 A5.out).mono ?_); (case side1 => repeat (first | exact (Kd.C_below HR0_0.out HB.out) | (with_reducible refine Kd.C_alloc ?_ _) | (with_reducible refine Kd.C_drewN ?_ _) | (with_reducible refine Kd.C_drew ?_))); (case side2 => exact HC0_0.out); (case side3 => repeat (first | exact (Kd.C_below HR0_1.out HB.out) | (with_reducible refine Kd.C_alloc ?_ _) | (with_reducible refine Kd.C_drewN ?_ _) | (with_reducible refine Kd.C_drew ?_))); (case side4 => exact HC0_1.out); (case side5 => repeat (first | exact (Kd.C_below HR0_2.out HB.out) | (with_reducible refine Kd.C_alloc ?_ _) | (with_reducible refine Kd.C_drewN ?_ _) | (with_reducible refine Kd.C_drew ?_))); (case side6 => exact HC0_2.out); rintro e w15 ⟨rfl, hb⟩; refine ⟨_, rfl, ?_⟩; have n0_ := Aside0.mk (blk_below (g := gb443) (o := .cells #[.slice A0_0 l0_0.length c0_0, .slice A0_1 l0_1.length c0_1, .slice A0_2 l0_2.length c0_2] 26 (0, 0)) (by (with_reducible repeat (first | refine blk_drewN ?_ _ | refine blk_drew ?_ | refine blk_alloc ?_ _)); exact BK443.out) hb); have n1_ := Aside0.mk (below_step (by repeat (first | (with_reducible first | exact HB.out | apply below_alloc | apply pw_below_drewN | apply below_drew1 | refine below_set ?_ GE443.out) | exact HB.out)) hb); clear BK443; clear HB; have BK443 := n0_; have HB := n1_; clear n0_ n1_; (try clear hb); (try clear hb2); (try clear hk); (try clear hi); have hcz16_0 : w15.cell? ⟨gb443, 0, none⟩ = some (.slice A0_0 l0_0.length c0_0) := (blk_cell BK443.out 0).trans rfl; have hcz16_1 : w15.cell? ⟨gb443, 1, none⟩ = some (.slice A0_1 l0_1.length c0_1) := (blk_cell BK443.out 1).trans rfl; have hcz16_2 : w15.cell? ⟨gb443, 2, none⟩ = some (.slice A0_2 l0_2.length c0_2) := (blk_cell BK443.out 2).trans rfl; have hfz16_0 := blk_frozen BK443.out 0; have hfz16_1 := blk_frozen BK443.out 1; have hfz16_2 := blk_frozen BK443.out 2; have p445 : 0 ≤ (a1 : Int) := of_decide_eq_true (by first | (with_reducible assumption) | assumption); have q445 : a1 < (l0_2.length : Int) := of_decide_eq_true (by first | (with_reducible assumption) | assumption); obtain ⟨ad445, A445_0, c445_0, e445, hx445_0, hl445_0, hi445_0⟩ := at_L1 HR0_2.out a1 p445 q445; cases e445; replace hx445_0 := (HB.out.cell (World.block_lt_of_cell? w _ hx445_0)).trans hx445_0; have HR445_0 := Aside0.mk hi445_0; have HC445_0 := Aside0.mk hl445_0; clear hi445_0 hl445_0; replace p445 := eq_true p445; replace q445 := eq_true q445) | ((with_reducible refine gate_callee (f := 33) rfl ?_); refine goesL_ (some 24) rfl rfl Try.func33 (by kernel_rfl) rfl #[.slice A445_0 (rd_L1 l0_2 a1).length c445_0, .int .i64 a2] rfl (by (try simp only [List.map_toArray, List.map_cons, List.map_nil]); first | done | rfl | (simp only [List.length_drop, List.length_take]; rfl)) ?_; (with_reducible refine (laganref04_Has.calls k _ _ (rd_L1 l0_2 a1) a2 true _ ?side1 ?side2 A9.out).mono ?_); (case side1 => repeat (first | exact (Kd.C_below HR445_0.out HB.out) | (with_reducible refine Kd.C_alloc ?_ _) | (with_reducible refine Kd.C_drewN ?_ _) | (with_reducible refine Kd.C_drew ?_))); (case side2 => exact HC445_0.out); rintro e w' ⟨rfl, ⟨nd, rfl⟩⟩; refine ⟨_, rfl, ?_⟩) | ((with_reducible refine gate_callee (f := 33) rfl ?_); refine goesL_ (some 31) rfl rfl Try.func33 (by kernel_rfl) rfl #[.slice A3 l3.length c3, .int .i64 a1] rfl (by (try simp only [List.map_toArray, List.map_cons, List.map_nil]); first | done | rfl | (simp only [List.length_drop, List.length_take]; rfl)) ?_; (with_reducible refine (laganref04_Has.calls k _ _ l3 a1 true _ ?side1 ?side2 A11.out).mono ?_); (case side1 => repeat (first | exact (Kd.C_below HR3.out (by repeat (first | (with_reducible first | exact HB.out | apply below_alloc | apply pw_below_drewN | apply below_drew1 | refine below_set ?_ GE443.out) | exact HB.out))) | (with_reducible refine Kd.C_alloc ?_ _) | (with_reducible refine Kd.C_drewN ?_ _) | (with_reducible refine Kd.C_drew ?_))); (case side2 => exact HC3.out); rintro e w' ⟨rfl, ⟨nd, rfl⟩⟩; refine ⟨_, rfl, ?_⟩))
      go_ret2
      exact ⟨by first | rfl | (simp [errW_none, errW_some] <;> rfl) | (simp [*, errW_none, errW_some] <;> rfl), by repeat (first | (with_reducible first | exact HB.out | apply below_alloc | apply pw_below_drewN | apply below_drew1 | refine below_set ?_ GE443.out) | exact HB.out)⟩
     ·
      replace c12 := Bool.eq_false_iff.mpr c12
      subst c12
      have H1 : ((laganref04_short.f k l0_0 l0_1 l0_2 l3 a2).bind fun t448 => (some (t448, 0))) = some (r1, r2) := by rw [if_neg (show ¬ (false = true) by decide)] at H; exact H
      clear H
      have H := H1
      clear H1
      replace H := Option.bind_eq_some_iff.mp H
      obtain ⟨t448, A170, H⟩ := H
      replace H : (some (t448, 0)) = some (r1, r2) := H
      have A17 := Aside0.mk A170
      clear A170
      simp only [Option.some.injEq, Prod.mk.injEq] at H
      obtain ⟨rfl, rfl⟩ := H
      go_enter Try.func35, Try.ntmps35
      go_wp2_with (first | ((with_reducible refine gate_dst (N := 4) rfl ?_); refine box_event ?hg (N := 4) ?hd (cs := #[.slice A0_0 l0_0.length c0_0, .slice A0_1 l0_1.length c0_1, .slice A0_2 l0_2.length c0_2]) (t := 26) ?hr ?_; (case hd => rfl); (case hg => rfl); (case hr => first | (go_simp; done) | (go_simp; rfl)); intro gb443 hg w18 hbox hb; have n0_ := Aside0.mk (below_step (by repeat (first | (with_reducible first | exact HB.out | apply below_alloc | apply pw_below_drewN | apply below_drew1) | exact HB.out)) hb); have n1_ := Aside0.mk (hbox); have n2_ := Aside0.mk ((by rw [hg]; exact (below_size (by repeat (first | (with_reducible first | exact HB.out | apply below_alloc | apply pw_below_drewN | apply below_drew1) | exact HB.out))) : w.heap.size ≤ gb443)); have n3_ := Aside0.mk ((by rw [hg]; exact (below_size (by repeat (first | (with_reducible first | exact HB.out | apply below_alloc | apply pw_below_drewN | apply below_drew1) | exact HB.out))) : w.heap.size ≤ gb443)); clear HB; have HB := n0_; have BK443 := n1_; have GW443 := n2_; have GE443 := n3_; clear n0_ n1_ n2_ n3_; clear hb hbox hg; have hcz19_0 : w18.cell? ⟨gb443, 0, none⟩ = some (.slice A0_0 l0_0.length c0_0) := (blk_cell BK443.out 0).trans rfl; have hcz19_1 : w18.cell? ⟨gb443, 1, none⟩ = some (.slice A0_1 l0_1.length c0_1) := (blk_cell BK443.out 1).trans rfl; have hcz19_2 : w18.cell? ⟨gb443, 2, none⟩ = some (.slice A0_2 l0_2.length c0_2) := (blk_cell BK443.out 2).trans rfl; have hfz19_0 := blk_frozen BK443.out 0; have hfz19_1 := blk_frozen BK443.out 1; have hfz19_2 := blk_frozen BK443.out 2) | ((with_reducible refine gate_callee (f := 72) rfl ?_); refine goesL_ (some 14) rfl rfl Try.func72 (by kernel_rfl) rfl #[.agg #[.slice A0_0 l0_0.length c0_0, .slice A0_1 l0_1.length c0_1, .slice A0_2 l0_2.length c0_2], .int .i64 a1, .int .i64 a2] rfl (by (try simp only [List.map_toArray, List.map_cons, List.map_nil]); first | done | rfl | (simp only [List.length_drop, List.length_take]; rfl)) ?_; (with_reducible refine (laganref04_there.calls k _ _ l0_0 _ _ l0_1 _ _ l0_2 a1 a2 t444 _ ?side1 ?side2 ?side3 ?side4 ?side5 ?side6 A5.out).mono ?_); (case side1 => repeat (first | exact (Kd.C_below HR0_0.out HB.out) | (with_reducible refine Kd.C_alloc ?_ _) | (with_reducible refine Kd.C_drewN ?_ _) | (with_reducible refine Kd.C_drew ?_))); (case side2 => exact HC0_0.out); (case side3 => repeat (first | exact (Kd.C_below HR0_1.out HB.out) | (with_reducible refine Kd.C_alloc ?_ _) | (with_reducible refine Kd.C_drewN ?_ _) | (with_reducible refine Kd.C_drew ?_))); (case side4 => exact HC0_1.out); (case side5 => repeat (first | exact (Kd.C_below HR0_2.out HB.out) | (with_reducible refine Kd.C_alloc ?_ _) | (with_reducible refine Kd.C_drewN ?_ _) | (with_reducible refine Kd.C_drew ?_))); (case side6 => exact HC0_2.out); rintro e w20 ⟨rfl, hb⟩; refine ⟨_, rfl, ?_⟩; have n0_ := Aside0.mk (blk_below (g := gb443) (o := .cells #[.slice A0_0 l0_0.length c0_0, .slice A0_1 l0_1.length c0_1, .slice A0_2 l0_2.length c0_2] 26 (0, 0)) (by (with_reducible repeat (first | refine blk_drewN ?_ _ | refine blk_drew ?_ | refine blk_alloc ?_ _)); exact BK443.out) hb); have n1_ := Aside0.mk (below_step (by repeat (first | (with_reducible first | exact HB.out | apply below_alloc | apply pw_below_drewN | apply below_drew1 | refine below_set ?_ GE443.out) | exact HB.out)) hb); clear BK443; clear HB; have BK443 := n0_; have HB := n1_; clear n0_ n1_; (try clear hb); (try clear hb2); (try clear hk); (try clear hi); have hcz21_0 : w20.cell? ⟨gb443, 0, none⟩ = some (.slice A0_0 l0_0.length c0_0) := (blk_cell BK443.out 0).trans rfl; have hcz21_1 : w20.cell? ⟨gb443, 1, none⟩ = some (.slice A0_1 l0_1.length c0_1) := (blk_cell BK443.out 1).trans rfl; have hcz21_2 : w20.cell? ⟨gb443, 2, none⟩ = some (.slice A0_2 l0_2.length c0_2) := (blk_cell BK443.out 2).trans rfl; have hfz21_0 := blk_frozen BK443.out 0; have hfz21_1 := blk_frozen BK443.out 1; have hfz21_2 := blk_frozen BK443.out 2; have p445 : 0 ≤ (a1 : Int) := of_decide_eq_true (by first | (with_reducible assumption) | assumption); have q445 : a1 < (l0_2.length : Int) := of_decide_eq_true (by first | (with_reducible assumption) | assumption); obtain ⟨ad445, A445_0, c445_0, e445, hx445_0, hl445_0, hi445_0⟩ := at_L1 HR0_2.out a1 p445 q445; cases e445; replace hx445_0 := (HB.out.cell (World.block_lt_of_cell? w _ hx445_0)).trans hx445_0; have HR445_0 := Aside0.mk hi445_0; have HC445_0 := Aside0.mk hl445_0; clear hi445_0 hl445_0; replace p445 := eq_true p445; replace q445 := eq_true q445) | ((with_reducible refine gate_callee (f := 33) rfl ?_); refine goesL_ (some 24) rfl rfl Try.func33 (by kernel_rfl) rfl #[.slice A445_0 (rd_L1 l0_2 a1).length c445_0, .int .i64 a2] rfl (by (try simp only [List.map_toArray, List.map_cons, List.map_nil]); first | done | rfl | (simp only [List.length_drop, List.length_take]; rfl)) ?_; (with_reducible refine (laganref04_Has.calls k _ _ (rd_L1 l0_2 a1) a2 true _ ?side1 ?side2 A9.out).mono ?_); (case side1 => repeat (first | exact (Kd.C_below HR445_0.out HB.out) | (with_reducible refine Kd.C_alloc ?_ _) | (with_reducible refine Kd.C_drewN ?_ _) | (with_reducible refine Kd.C_drew ?_))); (case side2 => exact HC445_0.out); rintro e w' ⟨rfl, ⟨nd, rfl⟩⟩; refine ⟨_, rfl, ?_⟩) | ((with_reducible refine gate_callee (f := 33) rfl ?_); refine goesL_ (some 31) rfl rfl Try.func33 (by kernel_rfl) rfl #[.slice A3 l3.length c3, .int .i64 a1] rfl (by (try simp only [List.map_toArray, List.map_cons, List.map_nil]); first | done | rfl | (simp only [List.length_drop, List.length_take]; rfl)) ?_; (with_reducible refine (laganref04_Has.calls k _ _ l3 a1 false _ ?side1 ?side2 A11.out).mono ?_); (case side1 => repeat (first | exact (Kd.C_below HR3.out (by repeat (first | (with_reducible first | exact HB.out | apply below_alloc | apply pw_below_drewN | apply below_drew1 | refine below_set ?_ GE443.out) | exact HB.out))) | (with_reducible refine Kd.C_alloc ?_ _) | (with_reducible refine Kd.C_drewN ?_ _) | (with_reducible refine Kd.C_drew ?_))); (case side2 => exact HC3.out); rintro e w' ⟨rfl, ⟨nd, rfl⟩⟩; refine ⟨_, rfl, ?_⟩) | (go_at_call 73; (with_reducible refine (laganref04_short.calls k _ _ l0_0 _ _ l0_1 _ _ l0_2 _ _ l3 a2 t448 _ ?side1 ?side2 ?side3 ?side4 ?side5 ?side6 ?side7 ?side8 A17.out).mono ?_); (case side1 => repeat (first | exact (Kd.C_below HR0_0.out (by repeat (first | (with_reducible first | exact HB.out | apply below_alloc | apply pw_below_drewN | apply below_drew1 | refine below_set ?_ GE443.out) | exact HB.out))) | (with_reducible refine Kd.C_alloc ?_ _) | (with_reducible refine Kd.C_drewN ?_ _) | (with_reducible refine Kd.C_drew ?_))); (case side2 => exact HC0_0.out); (case side3 => repeat (first | exact (Kd.C_below HR0_1.out (by repeat (first | (with_reducible first | exact HB.out | apply below_alloc | apply pw_below_drewN | apply below_drew1 | refine below_set ?_ GE443.out) | exact HB.out))) | (with_reducible refine Kd.C_alloc ?_ _) | (with_reducible refine Kd.C_drewN ?_ _) | (with_reducible refine Kd.C_drew ?_))); (case side4 => exact HC0_1.out); (case side5 => repeat (first | exact (Kd.C_below HR0_2.out (by repeat (first | (with_reducible first | exact HB.out | apply below_alloc | apply pw_below_drewN | apply below_drew1 | refine below_set ?_ GE443.out) | exact HB.out))) | (with_reducible refine Kd.C_alloc ?_ _) | (with_reducible refine Kd.C_drewN ?_ _) | (with_reducible refine Kd.C_drew ?_))); (case side6 => exact HC0_2.out); (case side7 => repeat (first | exact (Kd.C_below HR3.out (by repeat (first | (with_reducible first | exact HB.out | apply below_alloc | apply pw_below_drewN | apply below_drew1 | refine below_set ?_ GE443.out) | exact HB.out))) | (with_reducible refine Kd.C_alloc ?_ _) | (with_reducible refine Kd.C_drewN ?_ _) | (with_reducible refine Kd.C_drew ?_))); (case side8 => exact HC3.out); rintro e w22 ⟨rfl, hb⟩; have n0_ := Aside0.mk (blk_below (g := gb443) (o := .cells #[.slice A0_0 l0_0.length c0_0, .slice A0_1 l0_1.length c0_1, .slice (some ad445) l0_2.length c0_2] 26 (0, 0)) (by (with_reducible repeat (first | refine blk_drewN ?_ _ | refine blk_drew ?_ | refine blk_alloc ?_ _)); exact BK443.out) hb); have n1_ := Aside0.mk (below_step (by repeat (first | (with_reducible first | exact HB.out | apply below_alloc | apply pw_below_drewN | apply below_drew1 | refine below_set ?_ GE443.out) | exact HB.out)) hb); clear BK443; clear HB; have BK443 := n0_; have HB := n1_; clear n0_ n1_; (try clear hb); (try clear hb2); (try clear hk); (try clear hi)))
      go_ret2
      exact ⟨by first | rfl | (simp [errW_none, errW_some] <;> rfl) | (simp [*, errW_none, errW_some] <;> rfl), by repeat (first | (with_reducible first | exact HB.out | apply below_alloc | apply pw_below_drewN | apply below_drew1 | refine below_set ?_ GE443.out) | exact HB.out)⟩
    ·
     replace c10 := Bool.eq_false_iff.mpr c10
     subst c10
     have H1 : (some (((l3.length : Int) == 0), 0)) = some (r1, r2) := by rw [if_neg (show ¬ (false = true) by decide)] at H; exact H
     clear H
     have H := H1
     clear H1
     simp only [Option.some.injEq, Prod.mk.injEq] at H
     obtain ⟨rfl, rfl⟩ := H
     go_enter Try.func35, Try.ntmps35
     go_wp2_with (first | ((with_reducible refine gate_dst (N := 4) rfl ?_); refine box_event ?hg (N := 4) ?hd (cs := #[.slice A0_0 l0_0.length c0_0, .slice A0_1 l0_1.length c0_1, .slice A0_2 l0_2.length c0_2]) (t := 26) ?hr ?_; (case hd => rfl); (case hg => rfl); (case hr => first | (go_simp; done) | (go_simp; rfl)); intro gb443 hg w23 hbox hb; have n0_ := Aside0.mk (below_step (by repeat (first | (with_reducible first | exact HB.out | apply below_alloc | apply pw_below_drewN | apply below_drew1) | exact HB.out)) hb); have n1_ := Aside0.mk (hbox); have n2_ := Aside0.mk ((by rw [hg]; exact (below_size (by repeat (first | (with_reducible first | exact HB.out | apply below_alloc | apply pw_below_drewN | apply below_drew1) | exact HB.out))) : w.heap.size ≤ gb443)); have n3_ := Aside0.mk ((by rw [hg]; exact (below_size (by repeat (first | (with_reducible first | exact HB.out | apply below_alloc | apply pw_below_drewN | apply below_drew1) | exact HB.out))) : w.heap.size ≤ gb443)); clear HB; have HB := n0_; have BK443 := n1_; have GW443 := n2_; have GE443 := n3_; clear n0_ n1_ n2_ n3_; clear hb hbox hg; have hcz24_0 : w23.cell? ⟨gb443, 0, none⟩ = some (.slice A0_0 l0_0.length c0_0) := (blk_cell BK443.out 0).trans rfl; have hcz24_1 : w23.cell? ⟨gb443, 1, none⟩ = some (.slice A0_1 l0_1.length c0_1) := (blk_cell BK443.out 1).trans rfl; have hcz24_2 : w23.cell? ⟨gb443, 2, none⟩ = some (.slice A0_2 l0_2.length c0_2) := (blk_cell BK443.out 2).trans rfl; have hfz24_0 := blk_frozen BK443.out 0; have hfz24_1 := blk_frozen BK443.out 1; have hfz24_2 := blk_frozen BK443.out 2) | ((with_reducible refine gate_callee (f := 72) rfl ?_); refine goesL_ (some 14) rfl rfl Try.func72 (by kernel_rfl) rfl #[.agg #[.slice A0_0 l0_0.length c0_0, .slice A0_1 l0_1.length c0_1, .slice A0_2 l0_2.length c0_2], .int .i64 a1, .int .i64 a2] rfl (by (try simp only [List.map_toArray, List.map_cons, List.map_nil]); first | done | rfl | (simp only [List.length_drop, List.length_take]; rfl)) ?_; (with_reducible refine (laganref04_there.calls k _ _ l0_0 _ _ l0_1 _ _ l0_2 a1 a2 t444 _ ?side1 ?side2 ?side3 ?side4 ?side5 ?side6 A5.out).mono ?_); (case side1 => repeat (first | exact (Kd.C_below HR0_0.out HB.out) | (with_reducible refine Kd.C_alloc ?_ _) | (with_reducible refine Kd.C_drewN ?_ _) | (with_reducible refine Kd.C_drew ?_))); (case side2 => exact HC0_0.out); (case side3 => repeat (first | exact (Kd.C_below HR0_1.out HB.out) | (with_reducible refine Kd.C_alloc ?_ _) | (with_reducible refine Kd.C_drewN ?_ _) | (with_reducible refine Kd.C_drew ?_))); (case side4 => exact HC0_1.out); (case side5 => repeat (first | exact (Kd.C_below HR0_2.out HB.out) | (with_reducible refine Kd.C_alloc ?_ _) | (with_reducible refine Kd.C_drewN ?_ _) | (with_reducible refine Kd.C_drew ?_))); (case side6 => exact HC0_2.out); rintro e w25 ⟨rfl, hb⟩; refine ⟨_, rfl, ?_⟩; have n0_ := Aside0.mk (blk_below (g := gb443) (o := .cells #[.slice A0_0 l0_0.length c0_0, .slice A0_1 l0_1.length c0_1, .slice A0_2 l0_2.length c0_2] 26 (0, 0)) (by (with_reducible repeat (first | refine blk_drewN ?_ _ | refine blk_drew ?_ | refine blk_alloc ?_ _)); exact BK443.out) hb); have n1_ := Aside0.mk (below_step (by repeat (first | (with_reducible first | exact HB.out | apply below_alloc | apply pw_below_drewN | apply below_drew1 | refine below_set ?_ GE443.out) | exact HB.out)) hb); clear BK443; clear HB; have BK443 := n0_; have HB := n1_; clear n0_ n1_; (try clear hb); (try clear hb2); (try clear hk); (try clear hi); have hcz26_0 : w25.cell? ⟨gb443, 0, none⟩ = some (.slice A0_0 l0_0.length c0_0) := (blk_cell BK443.out 0).trans rfl; have hcz26_1 : w25.cell? ⟨gb443, 1, none⟩ = some (.slice A0_1 l0_1.length c0_1) := (blk_cell BK443.out 1).trans rfl; have hcz26_2 : w25.cell? ⟨gb443, 2, none⟩ = some (.slice A0_2 l0_2.length c0_2) := (blk_cell BK443.out 2).trans rfl; have hfz26_0 := blk_frozen BK443.out 0; have hfz26_1 := blk_frozen BK443.out 1; have hfz26_2 := blk_frozen BK443.out 2; have p445 : 0 ≤ (a1 : Int) := of_decide_eq_true (by first | (with_reducible assumption) | assumption); have q445 : a1 < (l0_2.length : Int) := of_decide_eq_true (by first | (with_reducible assumption) | assumption); obtain ⟨ad445, A445_0, c445_0, e445, hx445_0, hl445_0, hi445_0⟩ := at_L1 HR0_2.out a1 p445 q445; cases e445; replace hx445_0 := (HB.out.cell (World.block_lt_of_cell? w _ hx445_0)).trans hx445_0; have HR445_0 := Aside0.mk hi445_0; have HC445_0 := Aside0.mk hl445_0; clear hi445_0 hl445_0; replace p445 := eq_true p445; replace q445 := eq_true q445) | ((with_reducible refine gate_callee (f := 33) rfl ?_); refine goesL_ (some 24) rfl rfl Try.func33 (by kernel_rfl) rfl #[.slice A445_0 (rd_L1 l0_2 a1).length c445_0, .int .i64 a2] rfl (by (try simp only [List.map_toArray, List.map_cons, List.map_nil]); first | done | rfl | (simp only [List.length_drop, List.length_take]; rfl)) ?_; (with_reducible refine (laganref04_Has.calls k _ _ (rd_L1 l0_2 a1) a2 false _ ?side1 ?side2 A9.out).mono ?_); (case side1 => repeat (first | exact (Kd.C_below HR445_0.out HB.out) | (with_reducible refine Kd.C_alloc ?_ _) | (with_reducible refine Kd.C_drewN ?_ _) | (with_reducible refine Kd.C_drew ?_))); (case side2 => exact HC445_0.out); rintro e w' ⟨rfl, ⟨nd, rfl⟩⟩; refine ⟨_, rfl, ?_⟩))
     go_ret2
     exact ⟨by first | rfl | (simp [errW_none, errW_some] <;> rfl) | (simp [*, errW_none, errW_some] <;> rfl), by repeat (first | (with_reducible first | exact HB.out | apply below_alloc | apply pw_below_drewN | apply below_drew1 | refine below_set ?_ GE443.out) | exact HB.out)⟩
   ·
    rw [if_neg c8] at H
    exact absurd H (by simp)
  ·
   rw [if_neg c7] at H
   exact absurd H (by simp)
 ·
  rw [if_neg c6] at H
  have c6b0 : (t444 == 0) = false := beq_eq_false_iff_ne.mpr c6
  have c6b1 : (t444 != 0) = true := bne_iff_ne.mpr c6
  simp only [Option.some.injEq, Prod.mk.injEq] at H
  obtain ⟨rfl, rfl⟩ := H
  go_enter Try.func35, Try.ntmps35
  go_wp2_with (first | ((with_reducible refine gate_dst (N := 4) rfl ?_); refine box_event ?hg (N := 4) ?hd (cs := #[.slice A0_0 l0_0.length c0_0, .slice A0_1 l0_1.length c0_1, .slice A0_2 l0_2.length c0_2]) (t := 26) ?hr ?_; (case hd => rfl); (case hg => rfl); (case hr => first | (go_simp; done) | (go_simp; rfl)); intro gb443 hg w27 hbox hb; have n0_ := Aside0.mk (below_step (by repeat (first | (with_reducible first | exact HB.out | apply below_alloc | apply pw_below_drewN | apply below_drew1) | exact HB.out)) hb); have n1_ := Aside0.mk (hbox); have n2_ := Aside0.mk ((by rw [hg]; exact (below_size (by repeat (first | (with_reducible first | exact HB.out | apply below_alloc | apply pw_below_drewN | apply below_drew1) | exact HB.out))) : w.heap.size ≤ gb443)); have n3_ := Aside0.mk ((by rw [hg]; exact (below_size (by repeat (first | (with_reducible first | exact HB.out | apply below_alloc | apply pw_below_drewN | apply below_drew1) | exact HB.out))) : w.heap.size ≤ gb443)); clear HB; have HB := n0_; have BK443 := n1_; have GW443 := n2_; have GE443 := n3_; clear n0_ n1_ n2_ n3_; clear hb hbox hg; have hcz28_0 : w27.cell? ⟨gb443, 0, none⟩ = some (.slice A0_0 l0_0.length c0_0) := (blk_cell BK443.out 0).trans rfl; have hcz28_1 : w27.cell? ⟨gb443, 1, none⟩ = some (.slice A0_1 l0_1.length c0_1) := (blk_cell BK443.out 1).trans rfl; have hcz28_2 : w27.cell? ⟨gb443, 2, none⟩ = some (.slice A0_2 l0_2.length c0_2) := (blk_cell BK443.out 2).trans rfl; have hfz28_0 := blk_frozen BK443.out 0; have hfz28_1 := blk_frozen BK443.out 1; have hfz28_2 := blk_frozen BK443.out 2) | ((with_reducible refine gate_callee (f := 72) rfl ?_); refine goesL_ (some 14) rfl rfl Try.func72 (by kernel_rfl) rfl #[.agg #[.slice A0_0 l0_0.length c0_0, .slice A0_1 l0_1.length c0_1, .slice A0_2 l0_2.length c0_2], .int .i64 a1, .int .i64 a2] rfl (by (try simp only [List.map_toArray, List.map_cons, List.map_nil]); first | done | rfl | (simp only [List.length_drop, List.length_take]; rfl)) ?_; (with_reducible refine (laganref04_there.calls k _ _ l0_0 _ _ l0_1 _ _ l0_2 a1 a2 t444 _ ?side1 ?side2 ?side3 ?side4 ?side5 ?side6 A5.out).mono ?_); (case side1 => repeat (first | exact (Kd.C_below HR0_0.out HB.out) | (with_reducible refine Kd.C_alloc ?_ _) | (with_reducible refine Kd.C_drewN ?_ _) | (with_reducible refine Kd.C_drew ?_))); (case side2 => exact HC0_0.out); (case side3 => repeat (first | exact (Kd.C_below HR0_1.out HB.out) | (with_reducible refine Kd.C_alloc ?_ _) | (with_reducible refine Kd.C_drewN ?_ _) | (with_reducible refine Kd.C_drew ?_))); (case side4 => exact HC0_1.out); (case side5 => repeat (first | exact (Kd.C_below HR0_2.out HB.out) | (with_reducible refine Kd.C_alloc ?_ _) | (with_reducible refine Kd.C_drewN ?_ _) | (with_reducible refine Kd.C_drew ?_))); (case side6 => exact HC0_2.out); rintro e w29 ⟨rfl, hb⟩; refine ⟨_, rfl, ?_⟩; have n0_ := Aside0.mk (blk_below (g := gb443) (o := .cells #[.slice A0_0 l0_0.length c0_0, .slice A0_1 l0_1.length c0_1, .slice A0_2 l0_2.length c0_2] 26 (0, 0)) (by (with_reducible repeat (first | refine blk_drewN ?_ _ | refine blk_drew ?_ | refine blk_alloc ?_ _)); exact BK443.out) hb); have n1_ := Aside0.mk (below_step (by repeat (first | (with_reducible first | exact HB.out | apply below_alloc | apply pw_below_drewN | apply below_drew1 | refine below_set ?_ GE443.out) | exact HB.out)) hb); clear BK443; clear HB; have BK443 := n0_; have HB := n1_; clear n0_ n1_; (try clear hb); (try clear hb2); (try clear hk); (try clear hi)))
  go_ret2
  exact ⟨by first | rfl | (simp [errW_none, errW_some] <;> rfl) | (simp [*, errW_none, errW_some] <;> rfl), by repeat (first | (with_reducible first | exact HB.out | apply below_alloc | apply pw_below_drewN | apply below_drew1 | refine below_set ?_ GE443.out) | exact HB.out)⟩
def laganref04_CheckHall.f (k : Nat) (l0_0 : List Int) (l0_1 : List (S50)) (l0_2 : List (List Int)) (l1 : List Int) : Option (Bool × Int) := (laganref04_CheckBoard.f k l0_0 l0_1 l0_2).bind fun t586 => (if t586 = 0 then ((laganref04_short.f k l0_0 l0_1 l0_2 l1 (-1)).bind fun t587 => (some (t587, t586))) else (some (false, t586)))
theorem laganref04_CheckHall.mono : ∀ a0 a1 a2 a3 k, LeO (laganref04_CheckHall.f k a0 a1 a2 a3) (laganref04_CheckHall.f (k + 1) a0 a1 a2 a3) := by
 intro a0 a1 a2 a3 k
 unfold laganref04_CheckHall.f
 repeat' first
   | (with_reducible exact laganref04_CheckBoard.mono _ _ _ _)
   | (with_reducible exact laganref04_short.mono _ _ _ _ _ _)
   | (with_reducible exact LeO.refl _)
   | (with_reducible exact LeO.none _)
   | (with_reducible refine LeO.ite ?_ ?_)
   | (with_reducible refine LeO.bind ?_ (fun _ => ?_))
   | exact laganref04_CheckBoard.mono _ _ _ _
   | exact laganref04_short.mono _ _ _ _ _ _
   | exact LeO.none _
   | refine LeO.ite ?_ ?_
   | refine LeO.bind ?_ (fun _ => ?_)
set_option maxHeartbeats 8000000 in
set_option maxRecDepth 100000 in
theorem laganref04_CheckHall.calls (k : Nat) (A0_0 : Option Addr) (c0_0 : Nat) (l0_0 : List Int) (A0_1 : Option Addr) (c0_1 : Nat) (l0_1 : List (S50)) (A0_2 : Option Addr) (c0_2 : Nat) (l0_2 : List (List Int)) (A1 : Option Addr) (c1 : Nat) (l1 : List Int) (r1 : Bool) (r2 : Int) (w : World) (hr0_0 : Kd.C (Kd.int .i64) w A0_0 l0_0.length l0_0) (hc0_0 : l0_0.length ≤ c0_0) (hr0_1 : Kd.C k50 w A0_1 l0_1.length l0_1) (hc0_1 : l0_1.length ≤ c0_1) (hr0_2 : Kd.C (Kd.slice 3 (Kd.int .i64)) w A0_2 l0_2.length l0_2) (hc0_2 : l0_2.length ≤ c0_2) (hr1 : Kd.C (Kd.int .i64) w A1 l1.length l1) (hc1 : l1.length ≤ c1) (h : laganref04_CheckHall.f k l0_0 l0_1 l0_2 l1 = some (r1, r2)) :
  Calls Try.prog 40 #[.agg #[.slice A0_0 l0_0.length c0_0, .slice A0_1 l0_1.length c0_1, .slice A0_2 l0_2.length c0_2], .slice A1 l1.length c1] w fun e w' => e = .returned (.tuple #[.bool r1, .int .i64 r2]) ∧ Below w.heap.size w w' := by
 have hu26 := Try.underlying26
 have HR0_0 := Aside0.mk hr0_0
 have HC0_0 := Aside0.mk hc0_0
 clear hr0_0 hc0_0
 have HR0_1 := Aside0.mk hr0_1
 have HC0_1 := Aside0.mk hc0_1
 clear hr0_1 hc0_1
 have HR0_2 := Aside0.mk hr0_2
 have HC0_2 := Aside0.mk hc0_2
 clear hr0_2 hc0_2
 have HR1 := Aside0.mk hr1
 have HC1 := Aside0.mk hc1
 clear hr1 hc1
 have HB := Aside0.mk (Below.refl w.heap.size w)
 have H : ((laganref04_CheckBoard.f k l0_0 l0_1 l0_2).bind fun t586 => (if t586 = 0 then ((laganref04_short.f k l0_0 l0_1 l0_2 l1 (-1)).bind fun t587 => (some (t587, t586))) else (some (false, t586)))) = some (r1, r2) := h
 clear h
 replace H := Option.bind_eq_some_iff.mp H
 obtain ⟨t586, A30, H⟩ := H
 replace H : (if t586 = 0 then ((laganref04_short.f k l0_0 l0_1 l0_2 l1 (-1)).bind fun t587 => (some (t587, t586))) else (some (false, t586))) = some (r1, r2) := H
 have A3 := Aside0.mk A30
 clear A30
 by_cases c4 : t586 = 0
 ·
  rw [if_pos c4] at H
  have c4b0 : (t586 == 0) = true := beq_iff_eq.mpr c4
  have c4b1 : (t586 != 0) = false := bne_eq_false_iff_eq.mpr c4
  clear c4
  replace H := Option.bind_eq_some_iff.mp H
  obtain ⟨t587, A50, H⟩ := H
  replace H : (some (t587, t586)) = some (r1, r2) := H
  have A5 := Aside0.mk A50
  clear A50
  simp only [Option.some.injEq, Prod.mk.injEq] at H
  obtain ⟨rfl, rfl⟩ := H
  go_enter Try.func40, Try.ntmps40
  go_wp2_with (first | ((with_reducible refine gate_dst (N := 2) rfl ?_); refine box_event ?hg (N := 2) ?hd (cs := #[.slice A0_0 l0_0.length c0_0, .slice A0_1 l0_1.length c0_1, .slice A0_2 l0_2.length c0_2]) (t := 26) ?hr ?_; (case hd => rfl); (case hg => rfl); (case hr => first | (go_simp; done) | (go_simp; rfl)); intro gb585 hg w6 hbox hb; have n0_ := Aside0.mk (below_step (by repeat (first | (with_reducible first | exact HB.out | apply below_alloc | apply pw_below_drewN | apply below_drew1) | exact HB.out)) hb); have n1_ := Aside0.mk (hbox); have n2_ := Aside0.mk ((by rw [hg]; exact (below_size (by repeat (first | (with_reducible first | exact HB.out | apply below_alloc | apply pw_below_drewN | apply below_drew1) | exact HB.out))) : w.heap.size ≤ gb585)); have n3_ := Aside0.mk ((by rw [hg]; exact (below_size (by repeat (first | (with_reducible first | exact HB.out | apply below_alloc | apply pw_below_drewN | apply below_drew1) | exact HB.out))) : w.heap.size ≤ gb585)); clear HB; have HB := n0_; have BK585 := n1_; have GW585 := n2_; have GE585 := n3_; clear n0_ n1_ n2_ n3_; clear hb hbox hg; have hcz7_0 : w6.cell? ⟨gb585, 0, none⟩ = some (.slice A0_0 l0_0.length c0_0) := (blk_cell BK585.out 0).trans rfl; have hcz7_1 : w6.cell? ⟨gb585, 1, none⟩ = some (.slice A0_1 l0_1.length c0_1) := (blk_cell BK585.out 1).trans rfl; have hcz7_2 : w6.cell? ⟨gb585, 2, none⟩ = some (.slice A0_2 l0_2.length c0_2) := (blk_cell BK585.out 2).trans rfl; have hfz7_0 := blk_frozen BK585.out 0; have hfz7_1 := blk_frozen BK585.out 1; have hfz7_2 := blk_frozen BK585.out 2) | ((with_reducible refine gate_callee (f := 19) rfl ?_); refine goesL_ (some 8) rfl rfl Try.func19 (by kernel_rfl) rfl #[.agg #[.slice A0_0 l0_0.length c0_0, .slice A0_1 l0_1.length c0_1, .slice A0_2 l0_2.length c0_2]] rfl (by (try simp only [List.map_toArray, List.map_cons, List.map_nil]); first | done | rfl | (simp only [List.length_drop, List.length_take]; rfl)) ?_; (with_reducible refine (laganref04_CheckBoard.calls k _ _ l0_0 _ _ l0_1 _ _ l0_2 t586 _ ?side1 ?side2 ?side3 ?side4 ?side5 ?side6 A3.out).mono ?_); (case side1 => repeat (first | exact (Kd.C_below HR0_0.out HB.out) | (with_reducible refine Kd.C_alloc ?_ _) | (with_reducible refine Kd.C_drewN ?_ _) | (with_reducible refine Kd.C_drew ?_))); (case side2 => exact HC0_0.out); (case side3 => repeat (first | exact (Kd.C_below HR0_1.out HB.out) | (with_reducible refine Kd.C_alloc ?_ _) | (with_reducible refine Kd.C_drewN ?_ _) | (with_reducible refine Kd.C_drew ?_))); (case side4 => exact HC0_1.out); (case side5 => repeat (first | exact (Kd.C_below HR0_2.out HB.out) | (with_reducible refine Kd.C_alloc ?_ _) | (with_reducible refine Kd.C_drewN ?_ _) | (with_reducible refine Kd.C_drew ?_))); (case side6 => exact HC0_2.out); rintro e w8 ⟨rfl, hb⟩; refine ⟨_, rfl, ?_⟩; have n0_ := Aside0.mk (blk_below (g := gb585) (o := .cells #[.slice A0_0 l0_0.length c0_0, .slice A0_1 l0_1.length c0_1, .slice A0_2 l0_2.length c0_2] 26 (0, 0)) (by (with_reducible repeat (first | refine blk_drewN ?_ _ | refine blk_drew ?_ | refine blk_alloc ?_ _)); exact BK585.out) hb); have n1_ := Aside0.mk (below_step (by repeat (first | (with_reducible first | exact HB.out | apply below_alloc | apply pw_below_drewN | apply below_drew1 | refine below_set ?_ GE585.out) | exact HB.out)) hb); clear BK585; clear HB; have BK585 := n0_; have HB := n1_; clear n0_ n1_; (try clear hb); (try clear hb2); (try clear hk); (try clear hi); have hcz9_0 : w8.cell? ⟨gb585, 0, none⟩ = some (.slice A0_0 l0_0.length c0_0) := (blk_cell BK585.out 0).trans rfl; have hcz9_1 : w8.cell? ⟨gb585, 1, none⟩ = some (.slice A0_1 l0_1.length c0_1) := (blk_cell BK585.out 1).trans rfl; have hcz9_2 : w8.cell? ⟨gb585, 2, none⟩ = some (.slice A0_2 l0_2.length c0_2) := (blk_cell BK585.out 2).trans rfl; have hfz9_0 := blk_frozen BK585.out 0; have hfz9_1 := blk_frozen BK585.out 1; have hfz9_2 := blk_frozen BK585.out 2) | (go_at_call 73; (with_reducible refine (laganref04_short.calls k _ _ l0_0 _ _ l0_1 _ _ l0_2 _ _ l1 (-1) t587 _ ?side1 ?side2 ?side3 ?side4 ?side5 ?side6 ?side7 ?side8 A5.out).mono ?_); (case side1 => repeat (first | exact (Kd.C_below HR0_0.out HB.out) | (with_reducible refine Kd.C_alloc ?_ _) | (with_reducible refine Kd.C_drewN ?_ _) | (with_reducible refine Kd.C_drew ?_))); (case side2 => exact HC0_0.out); (case side3 => repeat (first | exact (Kd.C_below HR0_1.out HB.out) | (with_reducible refine Kd.C_alloc ?_ _) | (with_reducible refine Kd.C_drewN ?_ _) | (with_reducible refine Kd.C_drew ?_))); (case side4 => exact HC0_1.out); (case side5 => repeat (first | exact (Kd.C_below HR0_2.out HB.out) | (with_reducible refine Kd.C_alloc ?_ _) | (with_reducible refine Kd.C_drewN ?_ _) | (with_reducible refine Kd.C_drew ?_))); (case side6 => exact HC0_2.out); (case side7 => repeat (first | exact (Kd.C_below HR1.out HB.out) | (with_reducible refine Kd.C_alloc ?_ _) | (with_reducible refine Kd.C_drewN ?_ _) | (with_reducible refine Kd.C_drew ?_))); (case side8 => exact HC1.out); rintro e w10 ⟨rfl, hb⟩; have n0_ := Aside0.mk (blk_below (g := gb585) (o := .cells #[.slice A0_0 l0_0.length c0_0, .slice A0_1 l0_1.length c0_1, .slice A0_2 l0_2.length c0_2] 26 (0, 0)) (by (with_reducible repeat (first | refine blk_drewN ?_ _ | refine blk_drew ?_ | refine blk_alloc ?_ _)); exact BK585.out) hb); have n1_ := Aside0.mk (below_step (by repeat (first | (with_reducible first | exact HB.out | apply below_alloc | apply pw_below_drewN | apply below_drew1 | refine below_set ?_ GE585.out) | exact HB.out)) hb); clear BK585; clear HB; have BK585 := n0_; have HB := n1_; clear n0_ n1_; (try clear hb); (try clear hb2); (try clear hk); (try clear hi)))
  go_ret2
  exact ⟨by first | rfl | (simp [errW_none, errW_some] <;> rfl) | (simp [*, errW_none, errW_some] <;> rfl), by repeat (first | (with_reducible first | exact HB.out | apply below_alloc | apply pw_below_drewN | apply below_drew1 | refine below_set ?_ GE585.out) | exact HB.out)⟩
 ·
  rw [if_neg c4] at H
  have c4b0 : (t586 == 0) = false := beq_eq_false_iff_ne.mpr c4
  have c4b1 : (t586 != 0) = true := bne_iff_ne.mpr c4
  simp only [Option.some.injEq, Prod.mk.injEq] at H
  obtain ⟨rfl, rfl⟩ := H
  go_enter Try.func40, Try.ntmps40
  go_wp2_with (first | ((with_reducible refine gate_dst (N := 2) rfl ?_); refine box_event ?hg (N := 2) ?hd (cs := #[.slice A0_0 l0_0.length c0_0, .slice A0_1 l0_1.length c0_1, .slice A0_2 l0_2.length c0_2]) (t := 26) ?hr ?_; (case hd => rfl); (case hg => rfl); (case hr => first | (go_simp; done) | (go_simp; rfl)); intro gb585 hg w11 hbox hb; have n0_ := Aside0.mk (below_step (by repeat (first | (with_reducible first | exact HB.out | apply below_alloc | apply pw_below_drewN | apply below_drew1) | exact HB.out)) hb); have n1_ := Aside0.mk (hbox); have n2_ := Aside0.mk ((by rw [hg]; exact (below_size (by repeat (first | (with_reducible first | exact HB.out | apply below_alloc | apply pw_below_drewN | apply below_drew1) | exact HB.out))) : w.heap.size ≤ gb585)); have n3_ := Aside0.mk ((by rw [hg]; exact (below_size (by repeat (first | (with_reducible first | exact HB.out | apply below_alloc | apply pw_below_drewN | apply below_drew1) | exact HB.out))) : w.heap.size ≤ gb585)); clear HB; have HB := n0_; have BK585 := n1_; have GW585 := n2_; have GE585 := n3_; clear n0_ n1_ n2_ n3_; clear hb hbox hg; have hcz12_0 : w11.cell? ⟨gb585, 0, none⟩ = some (.slice A0_0 l0_0.length c0_0) := (blk_cell BK585.out 0).trans rfl; have hcz12_1 : w11.cell? ⟨gb585, 1, none⟩ = some (.slice A0_1 l0_1.length c0_1) := (blk_cell BK585.out 1).trans rfl; have hcz12_2 : w11.cell? ⟨gb585, 2, none⟩ = some (.slice A0_2 l0_2.length c0_2) := (blk_cell BK585.out 2).trans rfl; have hfz12_0 := blk_frozen BK585.out 0; have hfz12_1 := blk_frozen BK585.out 1; have hfz12_2 := blk_frozen BK585.out 2) | ((with_reducible refine gate_callee (f := 19) rfl ?_); refine goesL_ (some 8) rfl rfl Try.func19 (by kernel_rfl) rfl #[.agg #[.slice A0_0 l0_0.length c0_0, .slice A0_1 l0_1.length c0_1, .slice A0_2 l0_2.length c0_2]] rfl (by (try simp only [List.map_toArray, List.map_cons, List.map_nil]); first | done | rfl | (simp only [List.length_drop, List.length_take]; rfl)) ?_; (with_reducible refine (laganref04_CheckBoard.calls k _ _ l0_0 _ _ l0_1 _ _ l0_2 t586 _ ?side1 ?side2 ?side3 ?side4 ?side5 ?side6 A3.out).mono ?_); (case side1 => repeat (first | exact (Kd.C_below HR0_0.out HB.out) | (with_reducible refine Kd.C_alloc ?_ _) | (with_reducible refine Kd.C_drewN ?_ _) | (with_reducible refine Kd.C_drew ?_))); (case side2 => exact HC0_0.out); (case side3 => repeat (first | exact (Kd.C_below HR0_1.out HB.out) | (with_reducible refine Kd.C_alloc ?_ _) | (with_reducible refine Kd.C_drewN ?_ _) | (with_reducible refine Kd.C_drew ?_))); (case side4 => exact HC0_1.out); (case side5 => repeat (first | exact (Kd.C_below HR0_2.out HB.out) | (with_reducible refine Kd.C_alloc ?_ _) | (with_reducible refine Kd.C_drewN ?_ _) | (with_reducible refine Kd.C_drew ?_))); (case side6 => exact HC0_2.out); rintro e w13 ⟨rfl, hb⟩; refine ⟨_, rfl, ?_⟩; have n0_ := Aside0.mk (blk_below (g := gb585) (o := .cells #[.slice A0_0 l0_0.length c0_0, .slice A0_1 l0_1.length c0_1, .slice A0_2 l0_2.length c0_2] 26 (0, 0)) (by (with_reducible repeat (first | refine blk_drewN ?_ _ | refine blk_drew ?_ | refine blk_alloc ?_ _)); exact BK585.out) hb); have n1_ := Aside0.mk (below_step (by repeat (first | (with_reducible first | exact HB.out | apply below_alloc | apply pw_below_drewN | apply below_drew1 | refine below_set ?_ GE585.out) | exact HB.out)) hb); clear BK585; clear HB; have BK585 := n0_; have HB := n1_; clear n0_ n1_; (try clear hb); (try clear hb2); (try clear hk); (try clear hi)))
  go_ret2
  exact ⟨by first | rfl | (simp [errW_none, errW_some] <;> rfl) | (simp [*, errW_none, errW_some] <;> rfl), by repeat (first | (with_reducible first | exact HB.out | apply below_alloc | apply pw_below_drewN | apply below_drew1 | refine below_set ?_ GE585.out) | exact HB.out)⟩
end Go.Proofs.Ytkmmihadcbfkoaa.PM
end

section
namespace Go.Proofs.Ytkmmihadcbfkoaa
open Go.RowKit Go.Proofs.YtkmmihadcbfkoaaW.PrintWords PM
set_option linter.unusedVariables false
set_option linter.unusedSimpArgs false
/-- A find that spoils the list: the one that is left out, or one that fits no slot. -/
def badFind (T : List (List Int)) (wo f : Int) : Prop := f = wo ∨ T.getD f.toNat [] = []
instance (T : List (List Int)) (wo f : Int) : Decidable (badFind T wo f) := by unfold badFind; infer_instance
theorem crowdL_met {S : List S50} {T : List (List Int)} (hinj : ∀ a b : Nat, a < S.length → b < S.length → fullKey (S.getD a z50) = fullKey (S.getD b z50) → a = b) (wo de : Int)
    (hT : ∀ i : Nat, i < T.length → ∀ s, s ∈ T.getD i [] → 0 ≤ s ∧ s < S.length) : ∀ (fs : List Int) (met : List Nat) (ks : List (Int × Int × Int)) (n : Int), (∀ f, f ∈ fs → 0 ≤ f ∧ f < T.length) → Met S met ks →
    ((∃ f, f ∈ fs ∧ badFind T wo f) ∧ crowdL S T wo de fs ks n = none) ∨ ((∀ f, f ∈ fs → ¬ badFind T wo f) ∧ ∃ met', (∀ s : Nat, s ∈ met' ↔ s ∈ met ∨ ∃ f, f ∈ fs ∧ (s : Int) ∈ T.getD f.toNat []) ∧ (∀ s, s ∈ met' → s < S.length) ∧ crowdL S T wo de fs ks n = some (n - (tot S met' - tot S met) + (deIn de met' - deIn de met)))
  | [], met, ks, n, _, hm => Or.inr ⟨fun f hf => absurd hf (by simp), met, fun s => by simp, hm.lt, by
      show some n = _
      congr 1
      omega⟩
  | f :: fs, met, ks, n, hf, hm => by
    obtain ⟨h0, h1⟩ := hf f (by simp)
    have hf' : ∀ g, g ∈ fs → 0 ≤ g ∧ g < T.length := fun g hg => hf g (by simp [hg])
    unfold crowdL
    by_cases hb : badFind T wo f
    · exact Or.inl ⟨⟨f, by simp, hb⟩, if_pos hb⟩
    · rw [if_neg (show ¬ (f = wo ∨ T.getD f.toNat [] = []) from hb)]
      obtain ⟨m1, a1, a2, a3⟩ := crowdIn_met hinj de (T.getD f.toNat []) met ks n (hT f.toNat (by omega)) hm
      rcases crowdL_met hinj wo de hT fs m1 _ (crowdIn S de (T.getD f.toNat []) ks n).2 hf' a1 with ⟨⟨g, hg, hgb⟩, h2⟩ | ⟨hnb, m2, b1, b2, b3⟩
      · exact Or.inl ⟨⟨g, by simp [hg], hgb⟩, h2⟩
      · refine Or.inr ⟨fun g hg => ?_, m2, fun s => ?_, b2, ?_⟩
        · rcases List.mem_cons.1 hg with e | hg
          · rw [e]; exact hb
          · exact hnb g hg
        · rw [b1 s, a2 s]
          constructor
          · rintro ((h | h) | ⟨g, hg, h⟩)
            · exact Or.inl h
            · exact Or.inr ⟨f, by simp, h⟩
            · exact Or.inr ⟨g, by simp [hg], h⟩
          · rintro (h | ⟨g, hg, h⟩)
            · exact Or.inl (Or.inl h)
            · rcases List.mem_cons.1 hg with e | hg
              · exact Or.inl (Or.inr (e ▸ h))
              · exact Or.inr ⟨g, hg, h⟩
        · rw [b3, a3]
          congr 1
          omega
theorem keys_inj {F : List Int} {S : List S50} {T : List (List Int)} (hc : checkB F S T = 0) : ∀ a b : Nat, a < S.length → b < S.length → fullKey (S.getD a z50) = fullKey (S.getD b z50) → a = b := by
  have hsl := (check_parts hc).2.2.2.2.1
  rw [← slots_same] at hsl
  have hup : ∀ j, j < S.length → slotUp S j = true := fun j hj => by
    have := List.all_eq_true.1 hsl j (List.mem_range.2 hj)
    unfold slotRef at this
    simp only [Bool.and_eq_true] at this
    exact this.2
  have key : ∀ a b : Nat, a < b → b < S.length → fullKey (S.getD a z50) ≠ fullKey (S.getD b z50) := fun a b hab hb e => by
    have := up_lt (fun j (hj : j ≤ b) => hup j (by omega)) a b hab (Nat.le_refl _)
    unfold fullKey at e
    injection e with e1 e2
    injection e2 with e2 _
    unfold KeyLt at this
    omega
  intro a b ha hb e
  rcases Nat.lt_trichotomy a b with h | h | h
  · exact absurd e (key a b h hb)
  · exact h
  · exact absurd e.symm (key b a h ha)
/-- A row of slots is marked. -/
def markRow (near : List Bool) (row : List Int) : List Bool := row.foldl (fun n s => n.set s.toNat true) near
theorem markRow_len (row : List Int) : ∀ near, (markRow near row).length = near.length := by
  induction row with
  | nil => intro near; rfl
  | cons s ss ih => intro near; show (markRow (near.set s.toNat true) ss).length = _; rw [ih, List.length_set]
theorem markRow_at (row : List Int) : ∀ (near : List Bool) (t : Nat), (∀ s, s ∈ row → 0 ≤ s ∧ s < near.length) → t < near.length → ((markRow near row).getD t false = true ↔ near.getD t false = true ∨ (t : Int) ∈ row) := by
  induction row with
  | nil => intro near t _ _; simp [markRow]
  | cons s ss ih =>
    intro near t hr ht
    obtain ⟨h0, h1⟩ := hr s (by simp)
    show (markRow (near.set s.toNat true) ss).getD t false = true ↔ _
    rw [ih (near.set s.toNat true) t (fun u hu => by rw [List.length_set]; exact hr u (by simp [hu])) (by rw [List.length_set]; exact ht)]
    rw [show (near.set s.toNat true).getD t false = if s.toNat = t then true else near.getD t false from by
      rw [List.getD_eq_getElem?_getD, List.getElem?_set]
      by_cases e : s.toNat = t
      · rw [if_pos e, if_pos e, if_pos (by omega)]; rfl
      · rw [if_neg e, if_neg e, List.getD_eq_getElem?_getD]]
    by_cases e : s.toNat = t
    · rw [if_pos e]
      exact ⟨fun _ => Or.inr (List.mem_cons.2 (Or.inl (by omega))), fun _ => Or.inl rfl⟩
    · rw [if_neg e]
      constructor
      · rintro (h | h)
        · exact Or.inl h
        · exact Or.inr (List.mem_cons.2 (Or.inr h))
      · rintro (h | h)
        · exact Or.inl h
        · rcases List.mem_cons.1 h with h | h
          · exact absurd (by omega) e
          · exact Or.inr h
end Go.Proofs.Ytkmmihadcbfkoaa
end

section
namespace Go.Proofs.Ytkmmihadcbfkoaa
open Go.RowKit Go.Proofs.YtkmmihadcbfkoaaW.PrintWords PM
set_option linter.unusedVariables false
set_option linter.unusedSimpArgs false
def pieceOf (S : List S50) (near : List Bool) (less : Int) (s : Nat) : Int := if near.getD s false = true then (S.getD s z50).f2 - (if (s : Int) = less then 1 else 0) else 0
def restSum (S : List S50) (near : List Bool) (less : Int) (i : Nat) : Int := (((List.range S.length).drop i).map (pieceOf S near less)).sum
theorem restSum_step {S : List S50} {near : List Bool} {less : Int} {i : Nat} (h : i < S.length) : restSum S near less i = pieceOf S near less i + restSum S near less (i + 1) := by
  unfold restSum
  rw [List.drop_eq_getElem_cons (by simpa using h)]
  simp
theorem wrap_id {x : Int} (h0 : -9223372036854775808 ≤ x) (h1 : x ≤ 9223372036854775807) : wrap64 x = x := by
  unfold wrap64
  omega
theorem short2_ev {F : List Int} {S : List S50} {T : List (List Int)} (hS : S.length ≤ 200) (hp : ∀ i : Nat, i < S.length → 1 ≤ (S.getD i z50).f2 ∧ (S.getD i z50).f2 ≤ 20) (fs : List Int) (less : Int) (near : List Bool) (hn : near.length = S.length) (d : Nat) : ∀ (i : Nat) (p : Int), S.length - i = d → i ≤ S.length → 0 ≤ p → p ≤ 20 * i →
    Ev (fun k => laganref04_short.l2 k fs less near p (i : Int) F S T) (decide (p + restSum S near less i < (fs.length : Int))) := by
  induction d with
  | zero =>
    intro i p hd hi h0 h1
    have : restSum S near less i = 0 := by unfold restSum; rw [List.drop_of_length_le (by simp; omega)]; rfl
    rw [this, Int.add_zero]
    exact (Ev.const _).step fun k => by simp only [laganref04_short.l2]; rw [if_neg (by omega)]
  | succ d ih =>
    intro i p hd hi h0 h1
    have hlt : i < S.length := by omega
    have hw := wrap_pm (i := (i : Int)) (by omega) (by omega)
    have hb := hp i hlt
    have hrn : rdOf false near (i : Int) = near.getD i false := by simp [rdOf]
    rw [restSum_step hlt]
    by_cases hnr : near.getD i false = true
    · by_cases hle : (i : Int) = less
      · have hpi : pieceOf S near less i = (S.getD i z50).f2 - 1 := by unfold pieceOf; rw [if_pos hnr, if_pos hle]
        have ih' := ih (i + 1) (p + (S.getD i z50).f2 - 1) (by omega) (by omega) (by omega) (by omega)
        rw [show (((i + 1 : Nat)) : Int) = (i : Int) + 1 from by omega, show p + (S.getD i z50).f2 - 1 + restSum S near less (i + 1) = p + (pieceOf S near less i + restSum S near less (i + 1)) from by omega] at ih'
        exact Ev.step ih' fun k => by
          simp only [laganref04_short.l2]
          rw [if_pos (by omega), if_pos (by omega), hrn, if_pos hnr, if_pos (by omega), if_pos hle, rd_S, hw.1, wrap_id (x := p + (S.getD i z50).f2) (by omega) (by omega), wrap_id (by omega) (by omega)]
      · have hpi : pieceOf S near less i = (S.getD i z50).f2 := by unfold pieceOf; rw [if_pos hnr, if_neg hle]; omega
        have ih' := ih (i + 1) (p + (S.getD i z50).f2) (by omega) (by omega) (by omega) (by omega)
        rw [show (((i + 1 : Nat)) : Int) = (i : Int) + 1 from by omega, show p + (S.getD i z50).f2 + restSum S near less (i + 1) = p + (pieceOf S near less i + restSum S near less (i + 1)) from by omega] at ih'
        exact Ev.step ih' fun k => by
          simp only [laganref04_short.l2]
          rw [if_pos (by omega), if_pos (by omega), hrn, if_pos hnr, if_pos (by omega), if_neg hle, rd_S, hw.1, wrap_id (x := p + (S.getD i z50).f2) (by omega) (by omega)]
    · have hpi : pieceOf S near less i = 0 := by unfold pieceOf; rw [if_neg hnr]
      have ih' := ih (i + 1) p (by omega) (by omega) (by omega) (by omega)
      rw [show (((i + 1 : Nat)) : Int) = (i : Int) + 1 from by omega, show p + restSum S near less (i + 1) = p + (pieceOf S near less i + restSum S near less (i + 1)) from by omega] at ih'
      exact Ev.step ih' fun k => by
        simp only [laganref04_short.l2]
        rw [if_pos (by omega), if_pos (by omega), hrn, if_neg hnr, hw.1]
theorem short1_ev {F : List Int} {S : List S50} {T : List (List Int)} (fs : List Int) (less : Int) (i : Nat) (hi : i < fs.length) (hfl : fs.length ≤ 60) (f : Nat) (hf : fs.getD i 0 = (f : Int)) (hfT : f < T.length) (row : List Int) (hrow : T.getD f [] = row) (hrl : row.length ≤ 1000) (hr : ∀ j : Nat, j < row.length → 0 ≤ row.getD j 0 ∧ row.getD j 0 < S.length) {r : Bool} (d : Nat) : ∀ (j : Nat) (near : List Bool), row.length - j = d → j ≤ row.length → near.length = S.length →
    Ev (fun k => laganref04_short.l0 k fs less (markRow near (row.drop j)) ((i : Int) + 1) F S T) r → Ev (fun k => laganref04_short.l1 k fs less near (i : Int) (j : Int) F S T) r := by
  have hrd : rd fs (i : Int) = (f : Int) := by rw [rd_nat, hf]
  have hrT : rd_L1 T (f : Int) = row := by rw [← hrow]; simp [rd_L1]
  have hwi := wrap_pm (i := (i : Int)) (by omega) (by omega)
  induction d with
  | zero =>
    intro j near hd hj hn h
    rw [List.drop_of_length_le (by omega), show markRow near [] = near from rfl] at h
    exact Ev.step h fun k => by
      simp only [laganref04_short.l1]
      rw [if_pos (by omega), if_pos (by omega), hrd, if_pos (by omega), if_pos (by omega), hrT, if_neg (by omega), hwi.1]
  | succ d ih =>
    intro j near hd hj hn h
    have hlt : j < row.length := by omega
    have hwj := wrap_pm (i := (j : Int)) (by omega) (by omega)
    have hs := hr j hlt
    rw [show row.drop j = row.getD j 0 :: row.drop (j + 1) from by rw [List.drop_eq_getElem_cons hlt]; simp [List.getD_eq_getElem?_getD, List.getElem?_eq_getElem hlt]] at h
    rw [show markRow near (row.getD j 0 :: row.drop (j + 1)) = markRow (near.set (row.getD j 0).toNat true) (row.drop (j + 1)) from rfl] at h
    have e1 : row.length - (j + 1) = d := by rw [Nat.sub_add_eq, hd]; rfl
    have ih' := ih (j + 1) (near.set (row.getD j 0).toNat true) e1 hlt (by rw [List.length_set]; exact hn) h
    clear h
    rw [show (((j + 1 : Nat)) : Int) = (j : Int) + 1 from by omega] at ih'
    have c1 : (0 : Int) ≤ (i : Int) := Int.natCast_nonneg _
    have c2 : (i : Int) < (fs.length : Int) := Int.ofNat_lt.2 hi
    have c3 : (0 : Int) ≤ (f : Int) := Int.natCast_nonneg _
    have c4 : (f : Int) < (T.length : Int) := Int.ofNat_lt.2 hfT
    have c5 : (j : Int) < (row.length : Int) := Int.ofNat_lt.2 hlt
    have c6 : (0 : Int) ≤ (j : Int) := Int.natCast_nonneg _
    have c8 : row.getD j 0 < (near.length : Int) := by rw [hn]; exact hs.2
    refine Ev.step ih' fun k => ?_
    simp only [laganref04_short.l1]
    rw [if_pos c1, if_pos c2, hrd, if_pos c3, if_pos c4, hrT, if_pos c5, if_pos c6, rd_nat, if_pos hs.1, if_pos c8, hwj.1]
/-- All finds' rows are marked. -/
def markAll (T : List (List Int)) (near : List Bool) (fs : List Int) : List Bool := fs.foldl (fun n f => markRow n (T.getD f.toNat [])) near
theorem short0_ev {F : List Int} {S : List S50} {T : List (List Int)} (hk : BOK F S T) (hp : ∀ i : Nat, i < S.length → 1 ≤ (S.getD i z50).f2 ∧ (S.getD i z50).f2 ≤ 20) (fs : List Int) (less : Int) (hfl : fs.length ≤ 60) (hfs : ∀ i : Nat, i < fs.length → 0 ≤ fs.getD i 0 ∧ fs.getD i 0 < T.length) (d : Nat) : ∀ (i : Nat) (near : List Bool), fs.length - i = d → i ≤ fs.length → near.length = S.length →
    Ev (fun k => laganref04_short.l0 k fs less near (i : Int) F S T) (if (fs.drop i).all (fun f => !decide (T.getD f.toNat [] = [])) then decide (restSum S (markAll T near (fs.drop i)) less 0 < (fs.length : Int)) else false) := by
  induction d with
  | zero =>
    intro i near hd hi hn
    rw [List.drop_of_length_le (by omega)]
    have h2 := short2_ev (F := F) (T := T) hk.ns hp fs less near hn S.length 0 0 (by omega) (by omega) (by omega) (by omega)
    refine Ev.step (g := fun k => laganref04_short.l2 k fs less near 0 0 F S T) (by simpa [markAll] using h2) fun k => by
      simp only [laganref04_short.l0]
      rw [if_neg (by omega)]
  | succ d ih =>
    intro i near hd hi hn
    have hlt : i < fs.length := by omega
    obtain ⟨h0, h1⟩ := hfs i hlt
    obtain ⟨f, hf⟩ : ∃ f : Nat, fs.getD i 0 = (f : Int) := ⟨(fs.getD i 0).toNat, by omega⟩
    rw [hf] at h0 h1
    have hfT : f < T.length := by omega
    have hrd : rd fs (i : Int) = (f : Int) := by rw [rd_nat, hf]
    rw [show fs.drop i = (f : Int) :: fs.drop (i + 1) from by rw [List.drop_eq_getElem_cons hlt, ← hf]; simp [List.getD_eq_getElem?_getD, List.getElem?_eq_getElem hlt], List.all_cons, Int.toNat_natCast]
    obtain ⟨row, hrow⟩ : ∃ row, T.getD f [] = row := ⟨_, rfl⟩
    have hrT : rd_L1 T (f : Int) = row := by rw [← hrow]; simp [rd_L1]
    rw [hrow]
    by_cases hem : row = []
    · rw [decide_eq_true hem, Bool.not_true, Bool.false_and]
      exact (Ev.const false).step fun k => by
        simp only [laganref04_short.l0]
        rw [if_pos (by omega), if_pos (by omega), hrd, if_pos (by omega), if_pos (by omega), hrT, if_pos (by rw [hem]; rfl)]
    · rw [decide_eq_false hem, Bool.not_false, Bool.true_and]
      have hrl := hk.row f hfT
      have hrs := hk.slot f hfT
      rw [hrow] at hrl hrs
      have ih' := ih (i + 1) (markRow near row) (by omega) (by omega) (by rw [markRow_len]; exact hn)
      rw [show (((i + 1 : Nat)) : Int) = (i : Int) + 1 from by omega] at ih'
      have h1 := short1_ev (F := F) (S := S) (T := T) fs less i hlt hfl f hf hfT row hrow hrl hrs row.length 0 near (by omega) (by omega) hn ih'
      have hm : markAll T near ((f : Int) :: fs.drop (i + 1)) = markAll T (markRow near row) (fs.drop (i + 1)) := by
        show markAll T (markRow near (T.getD ((f : Int)).toNat [])) _ = _
        rw [Int.toNat_natCast, hrow]
      rw [hm]
      refine Ev.step (g := fun k => laganref04_short.l1 k fs less near (i : Int) 0 F S T) h1 fun k => ?_
      simp only [laganref04_short.l0]
      rw [if_pos (by omega), if_pos (by omega), hrd, if_pos (by omega), if_pos (by omega), hrT, if_neg (by
        intro e
        exact hem (List.length_eq_zero_iff.1 (by omega)))]
end Go.Proofs.Ytkmmihadcbfkoaa
end

section
namespace Go.Proofs.Ytkmmihadcbfkoaa
open PM
set_option linter.unusedVariables false
set_option linter.unusedSimpArgs false
theorem sum_de (less : Int) (met : List Nat) : ∀ n, ((List.range n).map fun s : Nat => if s ∈ met ∧ (s : Int) = less then (1 : Int) else 0).sum = if 0 ≤ less ∧ less.toNat ∈ met ∧ less.toNat < n then 1 else 0
  | 0 => by
    rw [if_neg (fun h => absurd h.2.2 (Nat.not_lt_zero _))]
    rfl
  | n + 1 => by
    rw [List.range_succ, List.map_append, List.sum_append, sum_de less met n]
    simp only [List.map_cons, List.map_nil, List.sum_cons, List.sum_nil, Int.add_zero]
    by_cases h : n ∈ met ∧ (n : Int) = less
    · have e : less.toNat = n := by omega
      rw [if_pos h, if_neg (fun k => by have := k.2.2; omega), if_pos ⟨by omega, by rw [e]; exact h.1, by omega⟩]
      rfl
    · rw [if_neg h, Int.add_zero]
      by_cases k : 0 ≤ less ∧ less.toNat ∈ met ∧ less.toNat < n
      · rw [if_pos k, if_pos ⟨k.1, k.2.1, by omega⟩]
      · rw [if_neg k, if_neg (fun m => by
          have m3 := m.2.2
          by_cases e : less.toNat = n
          · exact h ⟨e ▸ m.2.1, by omega⟩
          · exact k ⟨m.1, m.2.1, by omega⟩)]
theorem sum_sub (f g : Nat → Int) : ∀ l : List Nat, (l.map fun s => f s - g s).sum = (l.map f).sum - (l.map g).sum
  | [] => rfl
  | a :: l => by
    simp only [List.map_cons, List.sum_cons]
    rw [sum_sub f g l]
    omega
theorem rest_is {S : List S50} {near : List Bool} {less : Int} {met : List Nat} (h : ∀ s, s < S.length → (near.getD s false = true ↔ s ∈ met)) (hl : ∀ s, s ∈ met → s < S.length) : restSum S near less 0 = tot S met - deIn less met := by
  have e : restSum S near less 0 = ((List.range S.length).map fun s => (if s ∈ met then (S.getD s z50).f2 else 0) - (if s ∈ met ∧ (s : Int) = less then (1 : Int) else 0)).sum := by
    unfold restSum
    rw [List.drop_zero]
    congr 1
    refine List.map_congr_left fun s hs => ?_
    have hs' := List.mem_range.1 hs
    unfold pieceOf
    by_cases hm : s ∈ met
    · rw [if_pos ((h s hs').2 hm), if_pos hm]
      by_cases e : (s : Int) = less
      · rw [if_pos e, if_pos ⟨hm, e⟩]
      · rw [if_neg e, if_neg (fun k => e k.2)]
    · rw [if_neg (fun k => hm ((h s hs').1 k)), if_neg hm, if_neg (fun k => hm k.1)]
      rfl
  rw [e, sum_sub, sum_de]
  unfold tot deIn
  congr 1
  by_cases k : 0 ≤ less ∧ less.toNat ∈ met
  · rw [if_pos k, if_pos ⟨k.1, k.2, hl _ k.2⟩]
  · rw [if_neg k, if_neg (fun m => k ⟨m.1, m.2.1⟩)]
end Go.Proofs.Ytkmmihadcbfkoaa
end

section
namespace Go.Proofs.Ytkmmihadcbfkoaa
open PM
set_option linter.unusedVariables false
set_option linter.unusedSimpArgs false
theorem markAll_at {T : List (List Int)} {n : Nat} (hT : ∀ i : Nat, i < T.length → ∀ s, s ∈ T.getD i [] → 0 ≤ s ∧ s < n) (fs : List Int) : ∀ (near : List Bool) (t : Nat), near.length = n → (∀ f, f ∈ fs → 0 ≤ f ∧ f < T.length) → t < n →
    ((markAll T near fs).getD t false = true ↔ near.getD t false = true ∨ ∃ f, f ∈ fs ∧ (t : Int) ∈ T.getD f.toNat []) := by
  induction fs with
  | nil => intro near t _ _ _; simp [markAll]
  | cons f fs ih =>
    intro near t hn hf ht
    obtain ⟨h0, h1⟩ := hf f (by simp)
    show (markAll T (markRow near (T.getD f.toNat [])) fs).getD t false = true ↔ _
    rw [ih _ t (by rw [markRow_len]; exact hn) (fun g hg => hf g (by simp [hg])) ht, markRow_at _ near t (fun s hs => by rw [hn]; exact hT f.toNat (by omega) s hs) (by omega)]
    constructor
    · rintro ((h | h) | ⟨g, hg, h⟩)
      · exact Or.inl h
      · exact Or.inr ⟨f, by simp, h⟩
      · exact Or.inr ⟨g, by simp [hg], h⟩
    · rintro (h | ⟨g, hg, h⟩)
      · exact Or.inl (Or.inl h)
      · rcases List.mem_cons.1 hg with e | hg
        · exact Or.inl (Or.inr (e ▸ h))
        · exact Or.inr ⟨g, hg, h⟩
/-- What short comes to. -/
def shortB (F : List Int) (S : List S50) (T : List (List Int)) (fs : List Int) (less : Int) : Bool :=
  risB fs 0 ((F.length : Int) - 1) && (fs.all (fun f => !decide (T.getD f.toNat [] = [])) && decide (restSum S (markAll T (List.replicate S.length false) fs) less 0 < (fs.length : Int)))
theorem ris_mem {l : List Int} {n : Nat} (h : risB l 0 ((n : Int) - 1) = true) : ∀ f, f ∈ l → 0 ≤ f ∧ f < n := by
  intro f hf
  obtain ⟨j, hj, he⟩ := List.getElem_of_mem hf
  have := risB_at h j hj
  rw [List.getD_eq_getElem?_getD, List.getElem?_eq_getElem hj, Option.getD_some, he] at this
  omega
theorem short_is {F : List Int} {S : List S50} {T : List (List Int)} (hc : checkB F S T = 0) (fs : List Int) (less : Int) (hl : fs.length ≤ 9223372036854775807) : Ev (fun k => laganref04_short.f k F S T fs less) (shortB F S T fs less) := by
  have hk := bok_of_check hc
  have hns := hk.ns
  have hnf := hk.nf
  refine Ev.bind (ascending_is fs (F.length : Int) hl) ?_
  unfold shortB
  cases hr : risB fs 0 ((F.length : Int) - 1) with
  | false => exact (Ev.const false).congr fun k => by rw [if_neg (by simp)]
  | true =>
    have hfl : fs.length ≤ 60 := by
      rcases risB_len hr with h | h
      · omega
      · rw [h]; simp
    have h0 := short0_ev hk (fun i hi => by
      have := room_bound hc i hi
      rwa [rooms_at S i hi] at this) fs less hfl (fun i hi => by
      have := risB_at hr i hi
      have := hk.nt
      omega) fs.length 0 (List.replicate S.length false) (by omega) (by omega) (by simp)
    rw [List.drop_zero] at h0
    refine Ev.congr (g := fun k => laganref04_short.l0 k fs less (List.replicate S.length false) ((0 : Nat) : Int) F S T) ?_ fun k => ?_
    · rw [Bool.true_and]
      cases ha : fs.all (fun f => !decide (T.getD f.toNat [] = [])) with
      | true => rw [ha, if_pos rfl] at h0; rw [Bool.true_and]; exact h0
      | false => rw [ha, if_neg (by simp)] at h0; rw [Bool.false_and]; exact h0
    · rw [if_pos rfl, if_pos (by omega), if_pos (by omega), Int.toNat_natCast]
      rfl
end Go.Proofs.Ytkmmihadcbfkoaa
end

section
namespace Go.Proofs.Ytkmmihadcbfkoaa
open PM
set_option linter.unusedVariables false
set_option linter.unusedSimpArgs false
theorem fits_mem {F : List Int} {S : List S50} {T : List (List Int)} (hk : BOK F S T) : ∀ i : Nat, i < T.length → ∀ s, s ∈ T.getD i [] → 0 ≤ s ∧ s < S.length := by
  intro i hi s hs
  obtain ⟨j, hj, he⟩ := List.getElem_of_mem hs
  have := hk.slot i hi j hj
  rwa [List.getD_eq_getElem?_getD (l := T.getD i []), List.getElem?_eq_getElem hj, Option.getD_some, he] at this
theorem crowded_is {F : List Int} {S : List S50} {T : List (List Int)} (hc : checkB F S T = 0) (fs : List Int) (wo less : Int) : crowdedB F S T fs wo less = (shortB F S T fs less && !decide (wo ∈ fs)) := by
  have hk := bok_of_check hc
  unfold crowdedB shortB
  cases hr : risB fs 0 ((F.length : Int) - 1) with
  | false => rfl
  | true =>
    rw [Bool.true_and, Bool.true_and]
    have hfs : ∀ f, f ∈ fs → 0 ≤ f ∧ f < T.length := fun f hf => by rw [hk.nt]; exact ris_mem hr f hf
    have hT := fits_mem hk
    rcases crowdL_met (keys_inj hc) wo less hT fs [] [] fs.length hfs ⟨rfl, fun s hs => absurd hs (by simp)⟩ with ⟨⟨f, hf, hb⟩, he⟩ | ⟨hnb, met, hm, hml, he⟩
    · rw [he]
      show false = _
      rcases hb with e | e
      · have hw : wo ∈ fs := by rw [← e]; exact hf
        rw [decide_eq_true hw, Bool.not_true, Bool.and_false]
      · rw [show fs.all (fun f => !decide (T.getD f.toNat [] = [])) = false from List.all_eq_false.2 ⟨f, hf, by rw [decide_eq_true e]; simp⟩]
        rfl
    · rw [he]
      have hwo : wo ∉ fs := fun h => hnb wo h (Or.inl rfl)
      have hne : fs.all (fun f => !decide (T.getD f.toNat [] = [])) = true := List.all_eq_true.2 fun f hf => by
        rw [decide_eq_false (fun e => hnb f hf (Or.inr e))]
        rfl
      rw [decide_eq_false hwo, hne, Bool.not_false, Bool.and_true, Bool.true_and]
      have hrest := rest_is (less := less) (near := markAll T (List.replicate S.length false) fs) (met := met) (fun s hs => by
        rw [markAll_at hT fs _ s (by simp) hfs hs, hm s]
        simp [List.getD_eq_getElem?_getD, hs]) hml
      rw [hrest]
      have ht0 : tot S [] = 0 := by
        unfold tot
        induction (List.range S.length) with
        | nil => rfl
        | cons a l ih => simp only [List.map_cons, List.sum_cons]; rw [ih, if_neg (by simp)]; rfl
      have hd0 : deIn less [] = 0 := by unfold deIn; rw [if_neg (fun h => absurd h.2 (by simp))]
      rw [ht0, hd0]
      show decide _ = decide _
      exact decide_eq_decide.2 ⟨fun h => by omega, fun h => by omega⟩
end Go.Proofs.Ytkmmihadcbfkoaa
end

section
namespace Go.Proofs.Ytkmmihadcbfkoaa
open Go.RowKit Go.Proofs.YtkmmihadcbfkoaaW.PrintWords PM
set_option linter.unusedVariables false
set_option linter.unusedSimpArgs false
theorem piece_bound {F : List Int} {S : List S50} {T : List (List Int)} (h : checkB F S T = 0) (i : Nat) (hi : i < S.length) : 1 ≤ (S.getD i z50).f2 ∧ (S.getD i z50).f2 ≤ 20 := by
  have := room_bound h i hi
  rwa [show (rooms S).getD i 0 = (S.getD i z50).f2 from by simp [rooms, List.getD_eq_getElem?_getD, List.getElem?_eq_getElem hi]] at this
def PM.match_CheckHall.f (_k : Nat) (F : List Int) (S : List S50) (T : List (List Int)) (finds : List Int) : Option (Bool × Int) :=
  if checkB F S T ≠ 0 then some (false, checkB F S T) else some (crowdedB F S T finds (-1) (-1), 0)
theorem PM.match_CheckHall.mono : ∀ a0 a1 a2 a3 k, LeO (match_CheckHall.f k a0 a1 a2 a3) (match_CheckHall.f (k + 1) a0 a1 a2 a3) := fun _ _ _ _ _ => LeO.refl _
set_option maxRecDepth 100000 in
set_option maxHeartbeats 8000000 in
theorem PM.match_CheckHall.calls (k : Nat) (A0 : Option Addr) (c0 : Nat) (F : List Int) (A1 : Option Addr) (c1 : Nat) (S : List S50) (A2 : Option Addr) (c2 : Nat) (T : List (List Int)) (A3 : Option Addr) (c3 : Nat) (finds : List Int) (r1 : Bool) (r2 : Int) (w : World) (hr0 : Kd.C (Kd.int .i64) w A0 F.length F) (hc0 : F.length ≤ c0) (hr1 : Kd.C k50 w A1 S.length S) (hc1 : S.length ≤ c1) (hr2 : Kd.C (Kd.slice 3 (Kd.int .i64)) w A2 T.length T) (hc2 : T.length ≤ c2) (hr3 : Kd.C (Kd.int .i64) w A3 finds.length finds) (hc3 : finds.length ≤ c3) (h : match_CheckHall.f k F S T finds = some (r1, r2)) :
    Calls Try.prog 39 #[.agg #[.slice A0 F.length c0, .slice A1 S.length c1, .slice A2 T.length c2], .slice A3 finds.length c3] w fun e w' => e = .returned (.tuple #[.bool r1, .int .i64 r2]) ∧ Below w.heap.size w w' := by
  have hB0 := (Below.refl w.heap.size w).alloc (Nat.le_refl _) (.cells #[.slice A0 F.length c0, .slice A1 S.length c1, .slice A2 T.length c2] 26)
  have CB := checkboard_calls A0 c0 F A1 c1 S A2 c2 T _ (Kd.C_below hr0 hB0) hc0 (Kd.C_below hr1 hB0) (Kd.C_below hr2 hB0)
  unfold match_CheckHall.f at h
  obtain ⟨q, hq⟩ : ∃ q, checkB F S T = q := ⟨_, rfl⟩
  rw [hq] at h CB
  have HB0 := Go.Lib.hid hB0
  have HR := Go.Lib.hid (And.intro hr1 (And.intro hr2 hr3))
  have HQ := Go.Lib.hid hq
  have HH := Go.Lib.hid h
  clear hr0 hr1 hr2 hr3 hB0 hq h
  go_enter Try.func39, Try.ntmps39
  go_wp2_with fail
  refine CB.mono ?_
  clear CB
  rintro e w1 ⟨rfl, hB1⟩
  have b1 : w1.heap[w.heap.size]? = some (.cells #[.slice A0 F.length c0, .slice A1 S.length c1, .slice A2 T.length c2] 26 (0, 0)) := by
    rw [hB1.block w.heap.size (by simp)]
    exact World.alloc_heap_new w _
  have hW1 : Below w.heap.size w w1 := HB0.out.trans (hB1.mono HB0.out.size)
  have k0 := cell_of_heap b1 (j := 0) rfl
  have k1 := cell_of_heap b1 (j := 1) rfl
  have k2 := cell_of_heap b1 (j := 2) rfl
  have HW1 := Go.Lib.hid hW1
  have BX1 := Go.Lib.hid b1
  clear hB1 b1 hW1
  by_cases hq0 : q = 0
  · subst hq0
    have CC := crowded_calls A0 c0 F A1 c1 S A2 c2 T A3 c3 finds (-1) (-1) w1 (bok_of_check HQ.out) (piece_bound HQ.out) (Kd.C_below HR.out.1 HW1.out) (Kd.C_below HR.out.2.1 HW1.out) (Kd.C_below HR.out.2.2 HW1.out) hc3
    have hf := HH.out
    rw [if_neg (by simp)] at hf
    injection hf with hf
    injection hf with hf1 hf2
    subst hf2
    rw [hf1] at CC
    clear hf1 HH
    go_wp2_with fail
    refine CC.mono ?_
    clear CC
    rintro e w2 ⟨rfl, hB2⟩
    have HB2 := Go.Lib.hid (HW1.out.trans (hB2.mono HW1.out.size))
    clear hB2
    go_wp2_with fail
    go_ret2
    exact ⟨rfl, HB2.out⟩
  · have g9 : decide (q = 0) = false := by simpa using hq0
    have hf := HH.out
    rw [if_pos hq0] at hf
    injection hf with hf
    injection hf with hf1 hf2
    subst hf1 hf2
    go_wp2_with fail
    go_ret2
    exact ⟨rfl, HW1.out⟩
end Go.Proofs.Ytkmmihadcbfkoaa
end

section
namespace Go.Proofs.Ytkmmihadcbfkoaa
open Go.RowKit Go.Proofs.YtkmmihadcbfkoaaW.PrintWords PM
set_option linter.unusedVariables false
set_option linter.unusedSimpArgs false
/-- The first error of a board, a find and a slot; true: there is no such argument. -/
def askB (F : List Int) (S : List S50) (T : List (List Int)) (find slot : Int) (g0 g1 : Bool) : Int :=
  if checkB F S T ≠ 0 then checkB F S T
  else if (!g0 && !inB find 0 ((F.length : Int) - 1) || !g1 && !inB slot 0 ((S.length : Int) - 1)) = true then 1 else 0
set_option maxRecDepth 100000 in
set_option maxHeartbeats 8000000 in
theorem asked_calls (A0 : Option Addr) (c0 : Nat) (F : List Int) (A1 : Option Addr) (c1 : Nat) (S : List S50) (A2 : Option Addr) (c2 : Nat) (T : List (List Int)) (find slot : Int) (g : Nat) (g0 g1 : Bool) (w : World)
    (hr0 : Kd.C (Kd.int .i64) w A0 F.length F) (hc0 : F.length ≤ c0) (hr1 : Kd.C k50 w A1 S.length S) (hr2 : Kd.C (Kd.slice 3 (Kd.int .i64)) w A2 T.length T)
    (hg0 : w.cell? ⟨g, 0, none⟩ = some (.bool g0)) (hg1 : w.cell? ⟨g, 1, none⟩ = some (.bool g1)) :
    Calls Try.prog 58 #[.agg #[.slice A0 F.length c0, .slice A1 S.length c1, .slice A2 T.length c2], .int .i64 find, .int .i64 slot, .slice (some ⟨g, 0, none⟩) 2 2] w (CbPost (askB F S T find slot g0 g1) w) := by
  have hB0 := (Below.refl w.heap.size w).alloc (Nat.le_refl _) (.cells #[.slice A0 F.length c0, .slice A1 S.length c1, .slice A2 T.length c2] 26)
  have lF : F.length ≤ 9223372036854775807 := hr0.2.1
  have lS : S.length ≤ 9223372036854775807 := hr1.2.1
  have CB := checkboard_calls A0 c0 F A1 c1 S A2 c2 T _ (Kd.C_below hr0 hB0) hc0 (Kd.C_below hr1 hB0) (Kd.C_below hr2 hB0)
  obtain ⟨q, hq⟩ : ∃ q, checkB F S T = q := ⟨_, rfl⟩
  obtain ⟨r, hr⟩ : ∃ r, askB F S T find slot g0 g1 = r := ⟨_, rfl⟩
  rw [hq] at CB
  rw [hr]
  unfold askB at hr
  rw [hq] at hr
  have hgl := World.block_lt_of_cell? w _ hg0
  have HB0 := Go.Lib.hid hB0
  have HR := Go.Lib.hid hr
  have HG := Go.Lib.hid (And.intro hg0 hg1)
  clear hq hr0 hr1 hr2 hB0 hr hg0 hg1
  go_enter Try.func58, Try.ntmps58
  go_wp2_with fail
  refine CB.mono ?_
  clear CB
  rintro e w1 ⟨rfl, hB1⟩
  have b1 : w1.heap[w.heap.size]? = some (.cells #[.slice A0 F.length c0, .slice A1 S.length c1, .slice A2 T.length c2] 26 (0, 0)) := by
    rw [hB1.block w.heap.size (by simp)]
    exact World.alloc_heap_new w _
  have hW1 : Below w.heap.size w w1 := HB0.out.trans (hB1.mono HB0.out.size)
  have y0 := (hW1.cell (p := ⟨g, 0, none⟩) hgl).trans HG.out.1
  have y1 := (hW1.cell (p := ⟨g, 1, none⟩) hgl).trans HG.out.2
  have k0 := cell_of_heap b1 (j := 0) rfl
  have k1 := cell_of_heap b1 (j := 1) rfl
  have HW1 := Go.Lib.hid hW1
  have BX := Go.Lib.hid b1
  clear hB1 b1 hW1
  by_cases hq0 : q = 0
  · subst hq0
    have hr' := HR.out
    rw [if_neg (by simp)] at hr'
    have HR := Go.Lib.hid hr'
    have IC0 := in_calls find 0 ((F.length : Int) - 1) w1
    clear hr'
    cases g0 with
    | true =>
      cases g1 with
      | true =>
        have hr0 : r = 0 := by have := HR.out; simpa [] using this.symm
        subst hr0
        go_wp2_with fail
        go_ret
        exact ⟨rfl, HW1.out⟩
      | false =>
        have IC1 := in_calls slot 0 ((S.length : Int) - 1) w1
        go_wp2_with fail
        refine IC1.mono ?_
        clear IC1
        rintro e w3 ⟨rfl, hd3⟩
        have hW3 : Below w.heap.size w w3 := HW1.out.trans (hd3.below.mono HW1.out.size)
        have HW3 := Go.Lib.hid hW3
        clear hW3 hd3
        cases hi1 : inB slot 0 ((S.length : Int) - 1) with
        | false =>
          have HI1 := Go.Lib.hid hi1
          clear hi1
          have hr0 : r = 1 := by have := HR.out; simpa [HI1.out] using this.symm
          subst hr0
          go_wp2_with fail
          go_ret
          exact ⟨rfl, HW3.out⟩
        | true =>
          have HI1 := Go.Lib.hid hi1
          clear hi1
          have hr0 : r = 0 := by have := HR.out; simpa [HI1.out] using this.symm
          subst hr0
          go_wp2_with fail
          go_ret
          exact ⟨rfl, HW3.out⟩
    | false =>
      go_wp2_with fail
      refine IC0.mono ?_
      clear IC0
      rintro e w2 ⟨rfl, hd2⟩
      have hW2 : Below w.heap.size w w2 := HW1.out.trans (hd2.below.mono HW1.out.size)
      have y1 := (hW2.cell (p := ⟨g, 1, none⟩) hgl).trans HG.out.2
      have k1 := cell_of_heap ((hd2.below.block w.heap.size (Array.getElem?_eq_some_iff.1 BX.out).1).trans BX.out) (j := 1) rfl
      have HW2 := Go.Lib.hid hW2
      clear hW2 hd2
      cases hi0 : inB find 0 ((F.length : Int) - 1) with
      | false =>
        have HI0 := Go.Lib.hid hi0
        clear hi0
        have hr0 : r = 1 := by have := HR.out; simpa [HI0.out] using this.symm
        subst hr0
        go_wp2_with fail
        go_ret
        exact ⟨rfl, HW2.out⟩
      | true =>
        have HI0 := Go.Lib.hid hi0
        clear hi0
        cases g1 with
        | true =>
          have hr0 : r = 0 := by have := HR.out; simpa [HI0.out] using this.symm
          subst hr0
          go_wp2_with fail
          go_ret
          exact ⟨rfl, HW2.out⟩
        | false =>
          have IC1 := in_calls slot 0 ((S.length : Int) - 1) w2
          go_wp2_with fail
          refine IC1.mono ?_
          clear IC1
          rintro e w3 ⟨rfl, hd3⟩
          have hW3 : Below w.heap.size w w3 := HW2.out.trans (hd3.below.mono HW2.out.size)
          have HW3 := Go.Lib.hid hW3
          clear hW3 hd3
          cases hi1 : inB slot 0 ((S.length : Int) - 1) with
          | false =>
            have HI1 := Go.Lib.hid hi1
            clear hi1
            have hr0 : r = 1 := by have := HR.out; simpa [HI0.out, HI1.out] using this.symm
            subst hr0
            go_wp2_with fail
            go_ret
            exact ⟨rfl, HW3.out⟩
          | true =>
            have HI1 := Go.Lib.hid hi1
            clear hi1
            have hr0 : r = 0 := by have := HR.out; simpa [HI0.out, HI1.out] using this.symm
            subst hr0
            go_wp2_with fail
            go_ret
            exact ⟨rfl, HW3.out⟩
  · have g9 : decide (q = 0) = false := by simpa using hq0
    have hr0 : r = q := by have := HR.out; rw [if_pos hq0] at this; exact this.symm
    subst hr0
    go_wp2_with fail
    go_ret
    exact ⟨rfl, HW1.out⟩
/-- asked, the two bools new. -/
theorem asked_new (A0 : Option Addr) (c0 : Nat) (F : List Int) (A1 : Option Addr) (c1 : Nat) (S : List S50) (A2 : Option Addr) (c2 : Nat) (T : List (List Int)) (find slot : Int) (g0 g1 : Bool) (w : World)
    (hr0 : Kd.C (Kd.int .i64) w A0 F.length F) (hc0 : F.length ≤ c0) (hr1 : Kd.C k50 w A1 S.length S) (hr2 : Kd.C (Kd.slice 3 (Kd.int .i64)) w A2 T.length T) :
    Calls Try.prog 58 #[.agg #[.slice A0 F.length c0, .slice A1 S.length c1, .slice A2 T.length c2], .int .i64 find, .int .i64 slot, .slice (some ⟨w.heap.size, 0, none⟩) 2 2] (w.alloc (.cells #[.bool g0, .bool g1] 4)) (CbPost (askB F S T find slot g0 g1) w) := by
  have hB := (Below.refl w.heap.size w).alloc (Nat.le_refl _) (.cells #[.bool g0, .bool g1] 4)
  have b0 := World.alloc_heap_new w (.cells #[.bool g0, .bool g1] 4)
  refine (asked_calls A0 c0 F A1 c1 S A2 c2 T find slot w.heap.size g0 g1 _ (Kd.C_below hr0 hB) hc0 (Kd.C_below hr1 hB) (Kd.C_below hr2 hB) (cell_of_heap b0 rfl) (cell_of_heap b0 rfl)).mono ?_
  rintro e w' ⟨rfl, h⟩
  exact ⟨rfl, hB.trans (h.mono hB.size)⟩
/-- asked, the board boxed ahead and the two bools new: as each caller that has a box calls it. -/
theorem asked_boxed (A0 : Option Addr) (c0 : Nat) (F : List Int) (A1 : Option Addr) (c1 : Nat) (S : List S50) (A2 : Option Addr) (c2 : Nat) (T : List (List Int)) (find slot : Int) (g0 g1 : Bool) (w : World)
    (hr0 : Kd.C (Kd.int .i64) w A0 F.length F) (hc0 : F.length ≤ c0) (hr1 : Kd.C k50 w A1 S.length S) (hr2 : Kd.C (Kd.slice 3 (Kd.int .i64)) w A2 T.length T) (o : Obj) :
    Calls Try.prog 58 #[.agg #[.slice A0 F.length c0, .slice A1 S.length c1, .slice A2 T.length c2], .int .i64 find, .int .i64 slot, .slice (some ⟨w.heap.size + 1, 0, none⟩) 2 2] ((w.alloc o).alloc (.cells #[.bool g0, .bool g1] 4)) (fun e w' => CbPost (askB F S T find slot g0 g1) w e w' ∧ w'.heap[w.heap.size]? = some o) := by
  have hB := (Below.refl w.heap.size w).alloc (Nat.le_refl _) o
  have AN := asked_new A0 c0 F A1 c1 S A2 c2 T find slot g0 g1 (w.alloc o) (Kd.C_below hr0 hB) hc0 (Kd.C_below hr1 hB) (Kd.C_below hr2 hB)
  rw [show (w.alloc o).heap.size = w.heap.size + 1 from by simp] at AN
  refine AN.mono ?_
  rintro e w' ⟨rfl, h⟩
  exact ⟨⟨rfl, hB.trans (h.mono hB.size)⟩, (h.block _ (by simp)).trans (World.alloc_heap_new w o)⟩
set_option maxRecDepth 100000 in
set_option maxHeartbeats 8000000 in
theorem both_calls (A0 : Option Addr) (c0 : Nat) (F : List Int) (A1 : Option Addr) (c1 : Nat) (S : List S50) (A2 : Option Addr) (c2 : Nat) (T : List (List Int)) (find slot : Int) (w : World)
    (hr0 : Kd.C (Kd.int .i64) w A0 F.length F) (hc0 : F.length ≤ c0) (hr1 : Kd.C k50 w A1 S.length S) (hr2 : Kd.C (Kd.slice 3 (Kd.int .i64)) w A2 T.length T) :
    Calls Try.prog 66 #[.agg #[.slice A0 F.length c0, .slice A1 S.length c1, .slice A2 T.length c2], .int .i64 find, .int .i64 slot] w (CbPost (askB F S T find slot false false) w) := by
  have AC := asked_boxed A0 c0 F A1 c1 S A2 c2 T find slot false false w hr0 hc0 hr1 hr2 (.cells #[.slice A0 F.length c0, .slice A1 S.length c1, .slice A2 T.length c2] 26)
  obtain ⟨r, hr⟩ : ∃ r, askB F S T find slot false false = r := ⟨_, rfl⟩
  rw [hr] at AC ⊢
  clear hr hr0 hr1 hr2
  go_enter Try.func66, Try.ntmps66
  go_wp2_with fail
  refine AC.mono ?_
  clear AC
  rintro e w1 ⟨⟨rfl, hB1⟩, _⟩
  have HB1 := Go.Lib.hid hB1
  clear hB1
  go_wp2_with fail
  go_ret
  exact ⟨rfl, HB1.out⟩
end Go.Proofs.Ytkmmihadcbfkoaa
end

section
namespace Go.Proofs.Ytkmmihadcbfkoaa
open PM
theorem ask_parts {F : List Int} {S : List S50} {T : List (List Int)} {find slot : Int} {g0 g1 : Bool} (h : askB F S T find slot g0 g1 = 0) :
    checkB F S T = 0 ∧ (g0 = false → 0 ≤ find ∧ find < F.length) ∧ (g1 = false → 0 ≤ slot ∧ slot < S.length) := by
  unfold askB at h
  split at h
  · rename_i h1; exact absurd h h1
  · rename_i h1
    split at h
    · exact absurd h (by decide)
    · rename_i h2
      refine ⟨by simpa using h1, fun e => ?_, fun e => ?_⟩
      · have hi : inB find 0 ((F.length : Int) - 1) = true := by
          cases hh : inB find 0 ((F.length : Int) - 1) with
          | false => exact absurd (by rw [hh, e]; rfl) h2
          | true => rfl
        unfold inB at hi
        simp only [Bool.and_eq_true, decide_eq_true_eq] at hi
        omega
      · have hi : inB slot 0 ((S.length : Int) - 1) = true := by
          cases hh : inB slot 0 ((S.length : Int) - 1) with
          | false => exact absurd (by rw [hh, e]; cases (!g0 && !inB find 0 ((F.length : Int) - 1)) <;> rfl) h2
          | true => rfl
        unfold inB at hi
        simp only [Bool.and_eq_true, decide_eq_true_eq] at hi
        omega
end Go.Proofs.Ytkmmihadcbfkoaa
end

section
namespace Go.Proofs.Ytkmmihadcbfkoaa
open Go.RowKit Go.Proofs.YtkmmihadcbfkoaaW.PrintWords PM
set_option linter.unusedVariables false
set_option linter.unusedSimpArgs false
def PM.match_CheckRefuse.f (_k : Nat) (F : List Int) (S : List S50) (T : List (List Int)) (find slot : Int) (finds : List Int) : Option (Bool × Int) :=
  if askB F S T find slot false false ≠ 0 then some (false, askB F S T find slot false false)
  else if slot ∉ T.getD find.toNat [] then some (decide (finds = []), 0)
  else some (crowdedB F S T finds find slot, 0)
theorem PM.match_CheckRefuse.mono : ∀ a0 a1 a2 a3 a4 a5 k, LeO (match_CheckRefuse.f k a0 a1 a2 a3 a4 a5) (match_CheckRefuse.f (k + 1) a0 a1 a2 a3 a4 a5) := fun _ _ _ _ _ _ _ => LeO.refl _
set_option maxRecDepth 100000 in
set_option maxHeartbeats 8000000 in
theorem PM.match_CheckRefuse.calls (k : Nat) (A0 : Option Addr) (c0 : Nat) (F : List Int) (A1 : Option Addr) (c1 : Nat) (S : List S50) (A2 : Option Addr) (c2 : Nat) (T : List (List Int)) (find slot : Int) (A3 : Option Addr) (c3 : Nat) (finds : List Int) (r1 : Bool) (r2 : Int) (w : World) (hr0 : Kd.C (Kd.int .i64) w A0 F.length F) (hc0 : F.length ≤ c0) (hr1 : Kd.C k50 w A1 S.length S) (hc1 : S.length ≤ c1) (hr2 : Kd.C (Kd.slice 3 (Kd.int .i64)) w A2 T.length T) (hc2 : T.length ≤ c2) (hr3 : Kd.C (Kd.int .i64) w A3 finds.length finds) (hc3 : finds.length ≤ c3) (h : match_CheckRefuse.f k F S T find slot finds = some (r1, r2)) :
    Calls Try.prog 46 #[.agg #[.slice A0 F.length c0, .slice A1 S.length c1, .slice A2 T.length c2], .int .i64 find, .int .i64 slot, .slice A3 finds.length c3] w fun e w' => e = .returned (.tuple #[.bool r1, .int .i64 r2]) ∧ Below w.heap.size w w' := by
  have hB0 := (Below.refl w.heap.size w).alloc (Nat.le_refl _) (.cells #[.slice A0 F.length c0, .slice A1 S.length c1, .slice A2 T.length c2] 26)
  have CB := both_calls A0 c0 F A1 c1 S A2 c2 T find slot _ (Kd.C_below hr0 hB0) hc0 (Kd.C_below hr1 hB0) (Kd.C_below hr2 hB0)
  have l3 : finds.length ≤ 9223372036854775807 := hr3.2.1
  unfold match_CheckRefuse.f at h
  obtain ⟨q, hq⟩ : ∃ q, askB F S T find slot false false = q := ⟨_, rfl⟩
  rw [hq] at h CB
  have HB0 := Go.Lib.hid hB0
  have HR := Go.Lib.hid (And.intro hr1 (And.intro hr2 hr3))
  have HQ := Go.Lib.hid hq
  have HH := Go.Lib.hid h
  clear hr0 hr1 hr2 hr3 hB0 hq h
  go_enter Try.func46, Try.ntmps46
  go_wp2_with fail
  refine CB.mono ?_
  clear CB
  rintro e w1 ⟨rfl, hB1⟩
  have b1 : w1.heap[w.heap.size]? = some (.cells #[.slice A0 F.length c0, .slice A1 S.length c1, .slice A2 T.length c2] 26 (0, 0)) := by
    rw [hB1.block w.heap.size (by simp)]
    exact World.alloc_heap_new w _
  have hW1 : Below w.heap.size w w1 := HB0.out.trans (hB1.mono HB0.out.size)
  have k0 := cell_of_heap b1 (j := 0) rfl
  have k1 := cell_of_heap b1 (j := 1) rfl
  have k2 := cell_of_heap b1 (j := 2) rfl
  have HW1 := Go.Lib.hid hW1
  have BX1 := Go.Lib.hid b1
  clear hB1 b1 hW1
  by_cases hq0 : q = 0
  · subst hq0
    obtain ⟨hcb, hfd, hsl⟩ := ask_parts HQ.out
    obtain ⟨hfd0, hfd1⟩ := hfd rfl
    obtain ⟨hsl0, hsl1⟩ := hsl rfl
    have hk := bok_of_check hcb
    have hfd2 : find < (T.length : Int) := by rw [hk.nt]; exact hfd1
    obtain ⟨a, Ar, cr, e2, hx, hlc, hC⟩ := rows_at (Kd.C_below HR.out.2.1 HW1.out) find hfd0 hfd2
    obtain ⟨row, hrw⟩ : ∃ row, T.getD find.toNat [] = row := ⟨_, rfl⟩
    rw [hrw] at hx hlc hC
    have CC := contains_calls Ar cr row slot w1 hC hlc
    have hf := HH.out
    rw [if_neg (by simp), hrw] at hf
    have HF := Go.Lib.hid hf
    have HK := Go.Lib.hid hk
    have HCB := Go.Lib.hid hcb
    clear hk hcb hC hrw hf HH HQ
    subst e2
    go_wp2_with fail
    refine CC.mono ?_
    clear CC
    rintro e w2 ⟨rfl, hd⟩
    have hW2 := HW1.out.trans (hd.below.mono HW1.out.size)
    have b2 := (hd.below.block w.heap.size (Array.getElem?_eq_some_iff.1 BX1.out).1).trans BX1.out
    have k0 := cell_of_heap b2 (j := 0) rfl
    have k1 := cell_of_heap b2 (j := 1) rfl
    have k2 := cell_of_heap b2 (j := 2) rfl
    have HW2 := Go.Lib.hid hW2
    clear hW2 b2 hd
    by_cases hin : slot ∈ row
    · rw [decide_eq_true hin]
      have hf := HF.out
      rw [if_neg (by simpa using hin)] at hf
      injection hf with hf
      injection hf with hf1 hf2
      subst hf2
      have CC := crowded_calls A0 c0 F A1 c1 S (some a) c2 T A3 c3 finds find slot w2 HK.out (piece_bound HCB.out) (Kd.C_below HR.out.1 HW2.out) (Kd.C_below HR.out.2.1 HW2.out) (Kd.C_below HR.out.2.2 HW2.out) hc3
      rw [hf1] at CC
      clear hf1 HF hin
      go_wp2_with fail
      refine CC.mono ?_
      clear CC
      rintro e w3 ⟨rfl, hB3⟩
      have HB3 := Go.Lib.hid (HW2.out.trans (hB3.mono HW2.out.size))
      clear hB3
      go_wp2_with fail
      go_ret2
      exact ⟨rfl, HB3.out⟩
    · rw [decide_eq_false hin]
      have hf := HF.out
      rw [if_pos hin] at hf
      injection hf with hf
      injection hf with hf1 hf2
      subst hf2
      have HF1 := Go.Lib.hid hf1
      clear hin hf1 HF
      go_wp2_with fail
      go_ret2
      exact ⟨by rw [← HF1.out]; congr 3; cases finds with | nil => rfl | cons _ _ => simp; omega, HW2.out⟩
  · have g9 : decide (q = 0) = false := by simpa using hq0
    have hf := HH.out
    rw [if_pos hq0] at hf
    injection hf with hf
    injection hf with hf1 hf2
    subst hf1 hf2
    go_wp2_with fail
    go_ret2
    exact ⟨rfl, HW1.out⟩
end Go.Proofs.Ytkmmihadcbfkoaa
end

section
namespace Go.Proofs.Ytkmmihadcbfkoaa
open Go.RowKit Go.Proofs.YtkmmihadcbfkoaaW.PrintWords PM
set_option linter.unusedVariables false
set_option linter.unusedSimpArgs false
theorem Ev.pos {α : Type} {c : Prop} [Decidable c] {f g : Nat → Option α} {r : α} (h : c) (hf : Ev f r) : Ev (fun k => if c then f k else g k) r := hf.congr fun _ => if_pos h
theorem Ev.neg {α : Type} {c : Prop} [Decidable c] {f g : Nat → Option α} {r : α} (h : ¬ c) (hg : Ev g r) : Ev (fun k => if c then f k else g k) r := hg.congr fun _ => if_neg h
theorem Ev.into {α : Type} {f g : Nat → Option α} {r : α} (hs : ∀ k, f (k + 1) = g k) (h : Ev g r) : Ev f r := h.step hs
theorem there_is {F : List Int} {S : List S50} {T : List (List Int)} (hF : F.length ≤ 9223372036854775807) (hS : S.length ≤ 9223372036854775807) (hT : T.length ≤ 9223372036854775807) (hr : ∀ l, l ∈ T → l.length ≤ 9223372036854775807) (find slot : Int) :
    Ev (fun k => laganref04_there.f k F S T find slot) (askB F S T find slot false false) := by
  refine Ev.bind (refcheck_is F S T hF hS hT hr) ?_
  unfold askB
  by_cases hc : checkB F S T = 0
  · rw [if_neg (show ¬ checkB F S T ≠ 0 from fun h => h hc)]
    refine Ev.pos hc ?_
    have hi : ∀ x : Int, ∀ n : Nat, inB x 0 ((n : Int) - 1) = (decide (0 ≤ x) && decide (x < n)) := fun x n => by
      unfold inB
      congr 1
      exact decide_eq_decide.2 ⟨fun h => by omega, fun h => by omega⟩
    rw [hi, hi]
    by_cases a1 : find < 0
    · rw [decide_eq_false (show ¬ 0 ≤ find by omega)]
      exact Ev.pos a1 (by simpa using Ev.const (1 : Int))
    · refine Ev.neg a1 ?_
      rw [decide_eq_true (show 0 ≤ find by omega)]
      by_cases a2 : find ≥ (F.length : Int)
      · rw [decide_eq_false (show ¬ find < (F.length : Int) by omega)]
        exact Ev.pos a2 (by simpa using Ev.const (1 : Int))
      · refine Ev.neg a2 ?_
        rw [decide_eq_true (show find < (F.length : Int) by omega)]
        by_cases a3 : slot < 0
        · rw [decide_eq_false (show ¬ 0 ≤ slot by omega)]
          exact Ev.pos a3 (by simpa using Ev.const (1 : Int))
        · refine Ev.neg a3 ?_
          rw [decide_eq_true (show 0 ≤ slot by omega)]
          by_cases a4 : slot ≥ (S.length : Int)
          · rw [decide_eq_false (show ¬ slot < (S.length : Int) by omega)]
            exact Ev.pos a4 (by simpa using Ev.const (1 : Int))
          · refine Ev.neg a4 ?_
            rw [decide_eq_true (show slot < (S.length : Int) by omega), hc]
            simpa using Ev.const (0 : Int)
  · rw [if_pos hc]
    exact Ev.neg hc (Ev.const _)
/-- What CheckRefuse comes to. -/
def refuseP (F : List Int) (S : List S50) (T : List (List Int)) (find slot : Int) (fs : List Int) : Bool × Int :=
  if askB F S T find slot false false ≠ 0 then (false, askB F S T find slot false false) else if slot ∉ T.getD find.toNat [] then (decide (fs = []), 0) else (crowdedB F S T fs find slot, 0)
theorem refuse_is (F : List Int) (S : List S50) (T : List (List Int)) (find slot : Int) (fs : List Int) : Ev (fun k => match_CheckRefuse.f k F S T find slot fs) (refuseP F S T find slot fs) := by
  refine (Ev.const (refuseP F S T find slot fs)).congr fun k => ?_
  unfold match_CheckRefuse.f refuseP
  split
  · rfl
  · split <;> rfl
theorem refrefuse_is {F : List Int} {S : List S50} {T : List (List Int)} (hF : F.length ≤ 9223372036854775807) (hS : S.length ≤ 9223372036854775807) (hT : T.length ≤ 9223372036854775807) (hr : ∀ l, l ∈ T → l.length ≤ 9223372036854775807) (find slot : Int) (fs : List Int) (hl : fs.length ≤ 9223372036854775807) :
    Ev (fun k => laganref04_CheckRefuse.f k F S T find slot fs) (refuseP F S T find slot fs) := by
  refine Ev.bind (there_is hF hS hT hr find slot) ?_
  unfold refuseP
  by_cases hq : askB F S T find slot false false = 0
  · rw [if_neg (show ¬ askB F S T find slot false false ≠ 0 from fun h => h hq)]
    obtain ⟨hc, hfd, hsl⟩ := ask_parts hq
    have h1 := hfd rfl
    have hk := bok_of_check hc
    have hnt := hk.nt
    refine Ev.pos hq (Ev.pos h1.1 (Ev.pos (by omega) ?_))
    have hrow := hk.row find.toNat (by omega)
    refine Ev.bind (has_is (rd_L1 T find) slot (by show (T.getD find.toNat []).length ≤ _; omega)) ?_
    show Ev _ _
    have hrd : rd_L1 T find = T.getD find.toNat [] := rfl
    by_cases hm : slot ∈ T.getD find.toNat []
    · rw [if_neg (show ¬ slot ∉ T.getD find.toNat [] from fun h => h hm)]
      refine Ev.pos (by rw [hrd]; exact decide_eq_true hm) ?_
      refine Ev.bind (has_is fs find hl) ?_
      rw [crowded_is hc]
      by_cases hw : find ∈ fs
      · rw [decide_eq_true hw, Bool.not_true, Bool.and_false]
        exact Ev.pos rfl (Ev.const _)
      · rw [decide_eq_false hw, Bool.not_false, Bool.and_true]
        refine Ev.neg (by simp) ?_
        exact Ev.bind (short_is hc fs slot hl) (Ev.const _)
    · rw [if_pos hm]
      refine Ev.neg (by rw [hrd, decide_eq_false hm]; simp) ?_
      have e : ((fs.length : Int) == 0) = decide (fs = []) := by
        by_cases h : fs = []
        · subst h; rfl
        · rw [decide_eq_false h, beq_eq_false_iff_ne]
          intro k
          exact h (List.length_eq_zero_iff.1 (by omega))
      rw [← e]
      exact Ev.const _
  · rw [if_pos hq]
    exact Ev.neg hq (Ev.const _)
end Go.Proofs.Ytkmmihadcbfkoaa
end

section
namespace Go.Proofs.Ytkmmihadcbfkoaa
open Go.RowKit Go.Proofs.YtkmmihadcbfkoaaW.PrintWords PM
set_option linter.unusedVariables false
set_option linter.unusedSimpArgs false
def PM.match_CheckBoard.f (_k : Nat) (F : List Int) (S : List S50) (T : List (List Int)) : Option Int := some (checkB F S T)
theorem PM.match_CheckBoard.mono : ∀ a0 a1 a2 k, LeO (match_CheckBoard.f k a0 a1 a2) (match_CheckBoard.f (k + 1) a0 a1 a2) := fun _ _ _ _ => LeO.refl _
theorem PM.match_CheckBoard.calls (k : Nat) (A0 : Option Addr) (c0 : Nat) (F : List Int) (A1 : Option Addr) (c1 : Nat) (S : List S50) (A2 : Option Addr) (c2 : Nat) (T : List (List Int)) (r : Int) (w : World) (hr0 : Kd.C (Kd.int .i64) w A0 F.length F) (hc0 : F.length ≤ c0) (hr1 : Kd.C k50 w A1 S.length S) (hc1 : S.length ≤ c1) (hr2 : Kd.C (Kd.slice 3 (Kd.int .i64)) w A2 T.length T) (hc2 : T.length ≤ c2) (h : match_CheckBoard.f k F S T = some r) :
    Calls Try.prog 47 #[.agg #[.slice A0 F.length c0, .slice A1 S.length c1, .slice A2 T.length c2]] w fun e w' => e = .returned (.int .i64 r) ∧ Below w.heap.size w w' := by
  injection h with h
  subst h
  exact checkboard_calls A0 c0 F A1 c1 S A2 c2 T w hr0 hc0 hr1 hr2
end Go.Proofs.Ytkmmihadcbfkoaa
end

section
namespace Go.Proofs.Ytkmmihadcbfkoaa.PM
open Go.RowKit Go.Proofs.YtkmmihadcbfkoaaW.PrintWords Go.Proofs.YtkmmihadcbfkoaaW.PrintLast Go.Proofs.YtkmmihadcbfkoaaW.PrintMore
set_option linter.unusedVariables false
set_option linter.unusedSimpArgs false
def match_Nobody.l0 : Nat → List Int → List (List Int) → Int → Int → Option (List Int × Int)
 | 0, _, _, _, _ => none
 | k + 1, x5, x14, x15, x16 => if x16 < x15 then (if 0 ≤ x16 then (if x16 < (x14.length : Int) then (if ((rd_L1 x14 x16).length : Int) = 0 then (if x5.length < 17592186044416 then (match_Nobody.l0 k (x5 ++ [x16]) x14 x15 (wrap64 (x16 + 1))) else (none)) else (match_Nobody.l0 k x5 x14 x15 (wrap64 (x16 + 1)))) else (none)) else (none)) else (some (x5, 0))
def match_Nobody.f (k : Nat) (l0_0 : List Int) (l0_1 : List (S50)) (l0_2 : List (List Int)) : Option (List Int × Int) := (match_CheckBoard.f k l0_0 l0_1 l0_2).bind fun t548 => (if t548 = 0 then (match_Nobody.l0 k ([] : List Int) l0_2 (l0_2.length : Int) 0) else (some (([] : List Int), t548)))
theorem match_Nobody.mono_l : ∀ k, (∀ y0 y1 y2 y3, LeO (match_Nobody.l0 k y0 y1 y2 y3) (match_Nobody.l0 (k + 1) y0 y1 y2 y3))
 | 0 => fun _ _ _ _ r h => by simp [match_Nobody.l0] at h
 | k + 1 => by
  have ih0 := match_Nobody.mono_l k
  ·
   intro y0 y1 y2 y3
   unfold match_Nobody.l0
   repeat' first
   | (with_reducible exact ih0 _ _ _ _)
   | (with_reducible exact match_CheckBoard.mono _ _ _ _)
   | (with_reducible exact LeO.refl _)
   | (with_reducible exact LeO.none _)
   | (with_reducible refine LeO.ite ?_ ?_)
   | (with_reducible refine LeO.bind ?_ (fun _ => ?_))
   | exact ih0 _ _ _ _
   | exact match_CheckBoard.mono _ _ _ _
   | exact LeO.none _
   | refine LeO.ite ?_ ?_
   | refine LeO.bind ?_ (fun _ => ?_)
theorem match_Nobody.mono : ∀ a0 a1 a2 k, LeO (match_Nobody.f k a0 a1 a2) (match_Nobody.f (k + 1) a0 a1 a2) := by
 intro a0 a1 a2 k
 have ih0 := match_Nobody.mono_l k
 unfold match_Nobody.f
 repeat' first
   | (with_reducible exact ih0 _ _ _ _)
   | (with_reducible exact match_CheckBoard.mono _ _ _ _)
   | (with_reducible exact LeO.refl _)
   | (with_reducible exact LeO.none _)
   | (with_reducible refine LeO.ite ?_ ?_)
   | (with_reducible refine LeO.bind ?_ (fun _ => ?_))
   | exact ih0 _ _ _ _
   | exact match_CheckBoard.mono _ _ _ _
   | exact LeO.none _
   | refine LeO.ite ?_ ?_
   | refine LeO.bind ?_ (fun _ => ?_)
set_option maxHeartbeats 8000000 in
set_option maxRecDepth 100000 in
theorem match_Nobody.calls (k : Nat) (A0_0 : Option Addr) (c0_0 : Nat) (l0_0 : List Int) (A0_1 : Option Addr) (c0_1 : Nat) (l0_1 : List (S50)) (A0_2 : Option Addr) (c0_2 : Nat) (l0_2 : List (List Int)) (r1 : List Int) (r2 : Int) (w : World) (hr0_0 : Kd.C (Kd.int .i64) w A0_0 l0_0.length l0_0) (hc0_0 : l0_0.length ≤ c0_0) (hr0_1 : Kd.C k50 w A0_1 l0_1.length l0_1) (hc0_1 : l0_1.length ≤ c0_1) (hr0_2 : Kd.C (Kd.slice 3 (Kd.int .i64)) w A0_2 l0_2.length l0_2) (hc0_2 : l0_2.length ≤ c0_2) (h : match_Nobody.f k l0_0 l0_1 l0_2 = some (r1, r2)) :
  Calls Try.prog 37 #[.agg #[.slice A0_0 l0_0.length c0_0, .slice A0_1 l0_1.length c0_1, .slice A0_2 l0_2.length c0_2]] w fun e w' => ∃ v0_ : Value, e = .returned (.tuple #[v0_, .int .i64 r2]) ∧ Kd.R (Kd.int .i64) 3 w' w.heap.size (fun _ => True) v0_ r1 ∧ Below w.heap.size w w' := by
 have hu26 := Try.underlying26
 have HR0_0 := Aside0.mk hr0_0
 have HC0_0 := Aside0.mk hc0_0
 clear hr0_0 hc0_0
 have HR0_1 := Aside0.mk hr0_1
 have HC0_1 := Aside0.mk hc0_1
 clear hr0_1 hc0_1
 have HR0_2 := Aside0.mk hr0_2
 have HC0_2 := Aside0.mk hc0_2
 clear hr0_2 hc0_2
 have HB := Aside0.mk (Below.refl w.heap.size w)
 have H : ((match_CheckBoard.f k l0_0 l0_1 l0_2).bind fun t548 => (if t548 = 0 then (match_Nobody.l0 k ([] : List Int) l0_2 (l0_2.length : Int) 0) else (some (([] : List Int), t548)))) = some (r1, r2) := h
 clear h
 replace H := Option.bind_eq_some_iff.mp H
 obtain ⟨t548, A20, H⟩ := H
 replace H : (if t548 = 0 then (match_Nobody.l0 k ([] : List Int) l0_2 (l0_2.length : Int) 0) else (some (([] : List Int), t548))) = some (r1, r2) := H
 have A2 := Aside0.mk A20
 clear A20
 by_cases c3 : t548 = 0
 ·
  rw [if_pos c3] at H
  have c3b0 : (t548 == 0) = true := beq_iff_eq.mpr c3
  have c3b1 : (t548 != 0) = false := bne_eq_false_iff_eq.mpr c3
  clear c3
  have H' := Aside0.mk H
  clear H
  go_enter Try.func37, Try.ntmps37
  go_wp2_with (first | ((with_reducible refine gate_dst (N := 1) rfl ?_); refine box_event ?hg (N := 1) ?hd (cs := #[.slice A0_0 l0_0.length c0_0, .slice A0_1 l0_1.length c0_1, .slice A0_2 l0_2.length c0_2]) (t := 26) ?hr ?_; (case hd => rfl); (case hg => rfl); (case hr => first | (go_simp; done) | (go_simp; rfl)); intro gb547 hg w4 hbox hb; have n0_ := Aside0.mk (below_step (by repeat (first | (with_reducible first | exact HB.out | apply below_alloc | apply pw_below_drewN | apply below_drew1) | exact HB.out)) hb); have n1_ := Aside0.mk (hbox); have n2_ := Aside0.mk ((by rw [hg]; exact (below_size (by repeat (first | (with_reducible first | exact HB.out | apply below_alloc | apply pw_below_drewN | apply below_drew1) | exact HB.out))) : w.heap.size ≤ gb547)); have n3_ := Aside0.mk ((by rw [hg]; exact (below_size (by repeat (first | (with_reducible first | exact HB.out | apply below_alloc | apply pw_below_drewN | apply below_drew1) | exact HB.out))) : w.heap.size ≤ gb547)); clear HB; have HB := n0_; have BK547 := n1_; have GW547 := n2_; have GE547 := n3_; clear n0_ n1_ n2_ n3_; clear hb hbox hg; have hcz5_0 : w4.cell? ⟨gb547, 0, none⟩ = some (.slice A0_0 l0_0.length c0_0) := (blk_cell BK547.out 0).trans rfl; have hcz5_1 : w4.cell? ⟨gb547, 1, none⟩ = some (.slice A0_1 l0_1.length c0_1) := (blk_cell BK547.out 1).trans rfl; have hcz5_2 : w4.cell? ⟨gb547, 2, none⟩ = some (.slice A0_2 l0_2.length c0_2) := (blk_cell BK547.out 2).trans rfl; have hfz5_0 := blk_frozen BK547.out 0; have hfz5_1 := blk_frozen BK547.out 1; have hfz5_2 := blk_frozen BK547.out 2) | ((with_reducible refine gate_callee (f := 47) rfl ?_); refine goesL_ (some 9) rfl rfl Try.func47 (by kernel_rfl) rfl #[.agg #[.slice A0_0 l0_0.length c0_0, .slice A0_1 l0_1.length c0_1, .slice A0_2 l0_2.length c0_2]] rfl (by (try simp only [List.map_toArray, List.map_cons, List.map_nil]); first | done | rfl | (simp only [List.length_drop, List.length_take]; rfl)) ?_; (with_reducible refine (match_CheckBoard.calls k _ _ l0_0 _ _ l0_1 _ _ l0_2 t548 _ ?side1 ?side2 ?side3 ?side4 ?side5 ?side6 A2.out).mono ?_); (case side1 => repeat (first | exact (Kd.C_below HR0_0.out HB.out) | (with_reducible refine Kd.C_alloc ?_ _) | (with_reducible refine Kd.C_drewN ?_ _) | (with_reducible refine Kd.C_drew ?_))); (case side2 => exact HC0_0.out); (case side3 => repeat (first | exact (Kd.C_below HR0_1.out HB.out) | (with_reducible refine Kd.C_alloc ?_ _) | (with_reducible refine Kd.C_drewN ?_ _) | (with_reducible refine Kd.C_drew ?_))); (case side4 => exact HC0_1.out); (case side5 => repeat (first | exact (Kd.C_below HR0_2.out HB.out) | (with_reducible refine Kd.C_alloc ?_ _) | (with_reducible refine Kd.C_drewN ?_ _) | (with_reducible refine Kd.C_drew ?_))); (case side6 => exact HC0_2.out); rintro e w6 ⟨rfl, hb⟩; refine ⟨_, rfl, ?_⟩; have n0_ := Aside0.mk (blk_below (g := gb547) (o := .cells #[.slice A0_0 l0_0.length c0_0, .slice A0_1 l0_1.length c0_1, .slice A0_2 l0_2.length c0_2] 26 (0, 0)) (by (with_reducible repeat (first | refine blk_drewN ?_ _ | refine blk_drew ?_ | refine blk_alloc ?_ _)); exact BK547.out) hb); have n1_ := Aside0.mk (below_step (by repeat (first | (with_reducible first | exact HB.out | apply below_alloc | apply pw_below_drewN | apply below_drew1 | refine below_set ?_ GE547.out) | exact HB.out)) hb); clear BK547; clear HB; have BK547 := n0_; have HB := n1_; clear n0_ n1_; (try clear hb); (try clear hb2); (try clear hk); (try clear hi); have hcz7_0 : w6.cell? ⟨gb547, 0, none⟩ = some (.slice A0_0 l0_0.length c0_0) := (blk_cell BK547.out 0).trans rfl; have hcz7_1 : w6.cell? ⟨gb547, 1, none⟩ = some (.slice A0_1 l0_1.length c0_1) := (blk_cell BK547.out 1).trans rfl; have hcz7_2 : w6.cell? ⟨gb547, 2, none⟩ = some (.slice A0_2 l0_2.length c0_2) := (blk_cell BK547.out 2).trans rfl; have hfz7_0 := blk_frozen BK547.out 0; have hfz7_1 := blk_frozen BK547.out 1; have hfz7_2 := blk_frozen BK547.out 2))
  go_loopg [5, 16] k (fun kq v5 v16 w' => ∃ (x5_1 : List Int) (x16_1 : Int), v16 = .int .i64 x16_1 ∧ Aside0 (match_Nobody.l0 kq x5_1 l0_2 (l0_2.length : Int) x16_1 = some (r1, r2)) ∧ Aside0 (kq ≤ k) ∧ Aside0 (Kd.R (Kd.int .i64) 3 w' w.heap.size (fun _ => True) v5 x5_1) ∧ Aside0 (w'.heap[gb547]? = some (.cells #[(.slice A0_0 l0_0.length c0_0), (.slice A0_1 l0_1.length c0_1), (.slice A0_2 l0_2.length c0_2)] 26 (0, 0))) ∧ Aside0 (Below w.heap.size w w'))
  case atStart => exact ⟨(([] : List Int)), (0), (by first | rfl | (simp; done) | (simp [*]; done)), H', ⟨Nat.le_refl _⟩, ⟨by first | exact Kd.R_nil _ _ _ _ _ | exact Kd.N_nil _ _ _ _ _ | exact Kd.V_nil _ _ _ _ _ | exact Kd.Q_nil _ _ _ _ _ | exact Kd.S_nil _ _ _ _ _⟩, ⟨by (with_reducible repeat (first | refine blk_drewN ?_ _ | refine blk_drew ?_ | refine blk_alloc ?_ _)); exact BK547.out⟩, ⟨by repeat (first | (with_reducible first | exact HB.out | apply below_alloc | apply pw_below_drewN | apply below_drew1 | refine below_set ?_ GE547.out) | exact HB.out)⟩⟩
  case round =>
   clear H'
   try clear p2
   try clear c3
   try clear c3b0
   try clear c3b1
   try clear c4
   try clear hcz5_0
   try clear hcz5_1
   try clear hcz5_2
   try clear hcz7_0
   try clear hcz7_1
   try clear hcz7_2
   try clear hfz5_0
   try clear hfz5_1
   try clear hfz5_2
   try clear hfz7_0
   try clear hfz7_1
   try clear hfz7_2
   obtain ⟨x5_1, x16_1, rfl, HA, HK1, HO_5, BK547, HB⟩ := hrel
   cases gk with
   | zero => exact absurd HA.out (by simp [match_Nobody.l0])
   | succ k1 =>
    have H := HA.out
    clear HA
    simp only [match_Nobody.l0] at H
    by_cases c8 : x16_1 < (l0_2.length : Int)
    ·
     rw [if_pos c8] at H
     have c8b0 : decide (x16_1 < (l0_2.length : Int)) = true := decide_eq_true c8
     clear c8
     by_cases c9 : 0 ≤ x16_1
     ·
      rw [if_pos c9] at H
      have c9b0 : decide (0 ≤ x16_1) = true := decide_eq_true c9
      clear c9
      by_cases c10 : x16_1 < (l0_2.length : Int)
      ·
       rw [if_pos c10] at H
       have c10b0 : decide (x16_1 < (l0_2.length : Int)) = true := decide_eq_true c10
       clear c10
       by_cases c11 : ((rd_L1 l0_2 x16_1).length : Int) = 0
       ·
        rw [if_pos c11] at H
        have c11b0 : (((rd_L1 l0_2 x16_1).length : Int) == 0) = true := beq_iff_eq.mpr c11
        have c11b1 : (((rd_L1 l0_2 x16_1).length : Int) != 0) = false := bne_eq_false_iff_eq.mpr c11
        clear c11
        by_cases c12 : x5_1.length < 17592186044416
        ·
         rw [if_pos c12] at H
         have LMc12 := Aside0.mk c12
         clear c12
         obtain ⟨y550, hy550⟩ : ∃ y_ : List Int, y_ = (x5_1 ++ [x16_1]) := ⟨_, rfl⟩
         replace H : (match_Nobody.l0 k1 y550 l0_2 (l0_2.length : Int) (wrap64 (x16_1 + 1))) = some (r1, r2) := by first | (rw [hy550]; with_reducible exact H) | (have H2_ := (Option.bind_some _ _).symm.trans H; rw [hy550]; with_reducible exact H2_) | (have H2_ := (Option.bind_some _ _).symm.trans H; with_reducible exact H2_) | with_reducible exact H | (rw [hy550]; exact H) | exact H
         have Ny550 := Aside0.mk hy550
         clear hy550
         have H' := Aside0.mk H
         clear H
         have p549 : 0 ≤ (x16_1 : Int) := of_decide_eq_true (by first | (with_reducible assumption) | assumption)
         have q549 : x16_1 < (l0_2.length : Int) := of_decide_eq_true (by first | (with_reducible assumption) | assumption)
         obtain ⟨ad549, A549_0, c549_0, e549, hx549_0, hl549_0, hi549_0⟩ := at_L1 HR0_2.out x16_1 p549 q549
         cases e549
         replace hx549_0 := (HB.out.cell (World.block_lt_of_cell? w _ hx549_0)).trans hx549_0
         have HR549_0 := Aside0.mk hi549_0
         have HC549_0 := Aside0.mk hl549_0
         clear hi549_0 hl549_0
         replace p549 := eq_true p549
         replace q549 := eq_true q549
         go_wp2_with (first | ((with_reducible refine gate_builtin (b := .append) (xs := #[.tmp 24, .tmp 26]) rfl ?_); at_builtin; refine Kd.R_append (Kd.int .i64) (w0 := w) w.heap.size rfl (.tmp 24) (.tmp 26) 22 3 (.int .i64 0) 8 rfl Try.underlying22 info3 rfl (by decide) (by omega) u5 x5_1 x16_1 [.int .i64 x16_1] (fun _ => True) (fun _ => False) rfl rfl ?aP (fun _ hk => hk.elim) ?aF ?aO ?aB ?aS ?aL ?_; (case aP => exact rfl); (case aB => exact (by repeat (first | (with_reducible first | exact HB.out | apply below_alloc | apply pw_below_drewN | apply below_drew1 | refine below_set ?_ GE547.out) | exact HB.out))); (case aF => exact (fun _ _ => trivial)); (case aO => exact (by (with_reducible repeat (first | apply Kd.R_alloc | apply Kd.R_drewN | apply Kd.R_drew)); exact HO_5.out)); (case aS => exact (below_size (by repeat (first | (with_reducible first | exact HB.out | apply below_alloc | apply pw_below_drewN | apply below_drew1 | refine below_set ?_ GE547.out) | exact HB.out)))); (case aL => have := LMc12.out; omega); intro v551 w13 ho hb hg hat; rw [← Ny550.out] at ho; have n0_ := Aside0.mk (blk_grown (g := gb547) (o := .cells #[.slice A0_0 l0_0.length c0_0, .slice A0_1 l0_1.length c0_1, .slice (some ad549) l0_2.length c0_2] 26 (0, 0)) (by (with_reducible repeat (first | refine blk_drewN ?_ _ | refine blk_drew ?_ | refine blk_alloc ?_ _)); exact BK547.out) hg (Kd.R_ne HO_5.out BK547.out (by decide))); have n1_ := Aside0.mk (hb); have n2_ := Aside0.mk (ho); clear BK547; clear HB; clear HO_5; have BK547 := n0_; have HB := n1_; have HO552 := n2_; clear n0_ n1_ n2_; clear ho hb hg hat))
         go_roundg k1
         case measure => have := HK1.out; omega
         case rel => exact ⟨(y550), (wrap64 (x16_1 + 1)), (by first | rfl | (simp; done) | (simp [*]; done)), H', ⟨by have := HK1.out; omega⟩, ⟨by (with_reducible repeat (first | apply Kd.R_alloc | apply Kd.R_drewN | apply Kd.R_drew)); exact HO552.out⟩, ⟨by (with_reducible repeat (first | refine blk_drewN ?_ _ | refine blk_drew ?_ | refine blk_alloc ?_ _)); exact BK547.out⟩, ⟨by repeat (first | (with_reducible first | exact HB.out | apply below_alloc | apply pw_below_drewN | apply below_drew1 | refine below_set ?_ GE547.out) | exact HB.out)⟩⟩
        ·
         rw [if_neg c12] at H
         exact absurd H (by simp)
       ·
        rw [if_neg c11] at H
        have c11b0 : (((rd_L1 l0_2 x16_1).length : Int) == 0) = false := beq_eq_false_iff_ne.mpr c11
        have c11b1 : (((rd_L1 l0_2 x16_1).length : Int) != 0) = true := bne_iff_ne.mpr c11
        have c11b2 : ¬ ((rd_L1 l0_2 x16_1) = []) := fun h_ => c11 (by rw [h_]; rfl)
        have H' := Aside0.mk H
        clear H
        have p549 : 0 ≤ (x16_1 : Int) := of_decide_eq_true (by first | (with_reducible assumption) | assumption)
        have q549 : x16_1 < (l0_2.length : Int) := of_decide_eq_true (by first | (with_reducible assumption) | assumption)
        obtain ⟨ad549, A549_0, c549_0, e549, hx549_0, hl549_0, hi549_0⟩ := at_L1 HR0_2.out x16_1 p549 q549
        cases e549
        replace hx549_0 := (HB.out.cell (World.block_lt_of_cell? w _ hx549_0)).trans hx549_0
        have HR549_0 := Aside0.mk hi549_0
        have HC549_0 := Aside0.mk hl549_0
        clear hi549_0 hl549_0
        replace p549 := eq_true p549
        replace q549 := eq_true q549
        go_wp2
        go_roundg k1
        case measure => have := HK1.out; omega
        case rel => exact ⟨(x5_1), (wrap64 (x16_1 + 1)), (by first | rfl | (simp; done) | (simp [*]; done)), H', ⟨by have := HK1.out; omega⟩, ⟨by (with_reducible repeat (first | apply Kd.R_alloc | apply Kd.R_drewN | apply Kd.R_drew)); exact HO_5.out⟩, ⟨by (with_reducible repeat (first | refine blk_drewN ?_ _ | refine blk_drew ?_ | refine blk_alloc ?_ _)); exact BK547.out⟩, ⟨by repeat (first | (with_reducible first | exact HB.out | apply below_alloc | apply pw_below_drewN | apply below_drew1 | refine below_set ?_ GE547.out) | exact HB.out)⟩⟩
      ·
       rw [if_neg c10] at H
       exact absurd H (by simp)
     ·
      rw [if_neg c9] at H
      exact absurd H (by simp)
    ·
     rw [if_neg c8] at H
     have c8b0 : decide (x16_1 < (l0_2.length : Int)) = false := decide_eq_false c8
     clear c8
     simp only [Option.some.injEq, Prod.mk.injEq] at H
     obtain ⟨rfl, rfl⟩ := H
     go_wp2
     go_ret2
     exact ⟨_, by first | rfl | (simp [errW_none, errW_some] <;> rfl) | (simp [*, errW_none, errW_some] <;> rfl), by (with_reducible repeat (first | apply Kd.R_alloc | apply Kd.R_drewN | apply Kd.R_drew)); exact HO_5.out, by repeat (first | (with_reducible first | exact HB.out | apply below_alloc | apply pw_below_drewN | apply below_drew1 | refine below_set ?_ GE547.out) | exact HB.out)⟩
 ·
  rw [if_neg c3] at H
  have c3b0 : (t548 == 0) = false := beq_eq_false_iff_ne.mpr c3
  have c3b1 : (t548 != 0) = true := bne_iff_ne.mpr c3
  simp only [Option.some.injEq, Prod.mk.injEq] at H
  obtain ⟨rfl, rfl⟩ := H
  go_enter Try.func37, Try.ntmps37
  go_wp2_with (first | ((with_reducible refine gate_dst (N := 1) rfl ?_); refine box_event ?hg (N := 1) ?hd (cs := #[.slice A0_0 l0_0.length c0_0, .slice A0_1 l0_1.length c0_1, .slice A0_2 l0_2.length c0_2]) (t := 26) ?hr ?_; (case hd => rfl); (case hg => rfl); (case hr => first | (go_simp; done) | (go_simp; rfl)); intro gb547 hg w14 hbox hb; have n0_ := Aside0.mk (below_step (by repeat (first | (with_reducible first | exact HB.out | apply below_alloc | apply pw_below_drewN | apply below_drew1) | exact HB.out)) hb); have n1_ := Aside0.mk (hbox); have n2_ := Aside0.mk ((by rw [hg]; exact (below_size (by repeat (first | (with_reducible first | exact HB.out | apply below_alloc | apply pw_below_drewN | apply below_drew1) | exact HB.out))) : w.heap.size ≤ gb547)); have n3_ := Aside0.mk ((by rw [hg]; exact (below_size (by repeat (first | (with_reducible first | exact HB.out | apply below_alloc | apply pw_below_drewN | apply below_drew1) | exact HB.out))) : w.heap.size ≤ gb547)); clear HB; have HB := n0_; have BK547 := n1_; have GW547 := n2_; have GE547 := n3_; clear n0_ n1_ n2_ n3_; clear hb hbox hg; have hcz15_0 : w14.cell? ⟨gb547, 0, none⟩ = some (.slice A0_0 l0_0.length c0_0) := (blk_cell BK547.out 0).trans rfl; have hcz15_1 : w14.cell? ⟨gb547, 1, none⟩ = some (.slice A0_1 l0_1.length c0_1) := (blk_cell BK547.out 1).trans rfl; have hcz15_2 : w14.cell? ⟨gb547, 2, none⟩ = some (.slice A0_2 l0_2.length c0_2) := (blk_cell BK547.out 2).trans rfl; have hfz15_0 := blk_frozen BK547.out 0; have hfz15_1 := blk_frozen BK547.out 1; have hfz15_2 := blk_frozen BK547.out 2) | ((with_reducible refine gate_callee (f := 47) rfl ?_); refine goesL_ (some 9) rfl rfl Try.func47 (by kernel_rfl) rfl #[.agg #[.slice A0_0 l0_0.length c0_0, .slice A0_1 l0_1.length c0_1, .slice A0_2 l0_2.length c0_2]] rfl (by (try simp only [List.map_toArray, List.map_cons, List.map_nil]); first | done | rfl | (simp only [List.length_drop, List.length_take]; rfl)) ?_; (with_reducible refine (match_CheckBoard.calls k _ _ l0_0 _ _ l0_1 _ _ l0_2 t548 _ ?side1 ?side2 ?side3 ?side4 ?side5 ?side6 A2.out).mono ?_); (case side1 => repeat (first | exact (Kd.C_below HR0_0.out HB.out) | (with_reducible refine Kd.C_alloc ?_ _) | (with_reducible refine Kd.C_drewN ?_ _) | (with_reducible refine Kd.C_drew ?_))); (case side2 => exact HC0_0.out); (case side3 => repeat (first | exact (Kd.C_below HR0_1.out HB.out) | (with_reducible refine Kd.C_alloc ?_ _) | (with_reducible refine Kd.C_drewN ?_ _) | (with_reducible refine Kd.C_drew ?_))); (case side4 => exact HC0_1.out); (case side5 => repeat (first | exact (Kd.C_below HR0_2.out HB.out) | (with_reducible refine Kd.C_alloc ?_ _) | (with_reducible refine Kd.C_drewN ?_ _) | (with_reducible refine Kd.C_drew ?_))); (case side6 => exact HC0_2.out); rintro e w16 ⟨rfl, hb⟩; refine ⟨_, rfl, ?_⟩; have n0_ := Aside0.mk (blk_below (g := gb547) (o := .cells #[.slice A0_0 l0_0.length c0_0, .slice A0_1 l0_1.length c0_1, .slice A0_2 l0_2.length c0_2] 26 (0, 0)) (by (with_reducible repeat (first | refine blk_drewN ?_ _ | refine blk_drew ?_ | refine blk_alloc ?_ _)); exact BK547.out) hb); have n1_ := Aside0.mk (below_step (by repeat (first | (with_reducible first | exact HB.out | apply below_alloc | apply pw_below_drewN | apply below_drew1 | refine below_set ?_ GE547.out) | exact HB.out)) hb); clear BK547; clear HB; have BK547 := n0_; have HB := n1_; clear n0_ n1_; (try clear hb); (try clear hb2); (try clear hk); (try clear hi)))
  go_ret2
  exact ⟨_, by first | rfl | (simp [errW_none, errW_some] <;> rfl) | (simp [*, errW_none, errW_some] <;> rfl), by first | exact Kd.R_nil _ _ _ _ _ | exact Kd.N_nil _ _ _ _ _ | exact Kd.V_nil _ _ _ _ _ | exact Kd.Q_nil _ _ _ _ _ | exact Kd.S_nil _ _ _ _ _, by repeat (first | (with_reducible first | exact HB.out | apply below_alloc | apply pw_below_drewN | apply below_drew1 | refine below_set ?_ GE547.out) | exact HB.out)⟩
end Go.Proofs.Ytkmmihadcbfkoaa.PM
end

section
namespace Go.Proofs.Ytkmmihadcbfkoaa
open Go.RowKit Go.Proofs.YtkmmihadcbfkoaaW.PrintWords PM
set_option linter.unusedVariables false
set_option linter.unusedSimpArgs false
theorem wide_ev {F : List Int} {S : List S50} {T : List (List Int)} (hT : T.length ≤ 9223372036854775807) (d : Nat) : ∀ i : Nat, T.length - i = d → i ≤ T.length → ∃ b, Ev (fun k => laganlaw04_wide.l0 k (i : Int) F S T) b := by
  induction d with
  | zero =>
    intro i hd hi
    have h : ∃ b : Bool, Ev (fun _ => if (F.length : Int) ≤ 30 then (if (S.length : Int) ≤ 40 then (some true) else (if (F.length : Int) > 60 then (some true) else (some (decide ((S.length : Int) > 200))))) else (if (F.length : Int) > 60 then (some true) else (some (decide ((S.length : Int) > 200))))) b := by
      by_cases h1 : (F.length : Int) ≤ 30
      · by_cases h2 : (S.length : Int) ≤ 40
        · exact ⟨_, Ev.pos h1 (Ev.pos h2 (Ev.const _))⟩
        · by_cases h3 : (F.length : Int) > 60
          · exact ⟨_, Ev.pos h1 (Ev.neg h2 (Ev.pos h3 (Ev.const _)))⟩
          · exact ⟨_, Ev.pos h1 (Ev.neg h2 (Ev.neg h3 (Ev.const _)))⟩
      · by_cases h3 : (F.length : Int) > 60
        · exact ⟨_, Ev.neg h1 (Ev.pos h3 (Ev.const _))⟩
        · exact ⟨_, Ev.neg h1 (Ev.neg h3 (Ev.const _))⟩
    obtain ⟨b, hb⟩ := h
    exact ⟨b, Ev.into (fun k => by rw [laganlaw04_wide.l0]) (Ev.neg (by omega) hb)⟩
  | succ d ih =>
    intro i hd hi
    have hw := wrap_pm (i := (i : Int)) (by omega) (by omega)
    obtain ⟨b, hb⟩ := ih (i + 1) (by omega) (by omega)
    rw [show ((i + 1 : Nat) : Int) = (i : Int) + 1 by omega, ← hw.1] at hb
    by_cases h : ((rd_L1 T (i : Int)).length : Int) > 60
    · exact ⟨_, Ev.into (fun k => by rw [laganlaw04_wide.l0]) (Ev.pos (by omega) (Ev.pos (by omega) (Ev.pos h (Ev.const _))))⟩
    · exact ⟨b, Ev.into (fun k => by rw [laganlaw04_wide.l0]) (Ev.pos (by omega) (Ev.pos (by omega) (Ev.neg h hb)))⟩
theorem wide_is (F : List Int) (S : List S50) (T : List (List Int)) (hT : T.length ≤ 9223372036854775807) : ∃ b, Ev (fun k => laganlaw04_wide.f k F S T) b := by
  have hj : ∀ x, ∃ b, Ev (fun k => laganlaw04_wide.j0 k x F S T) b := fun x => by
    cases x with
    | true => exact ⟨_, Ev.into (fun k => by rw [laganlaw04_wide.j0]) (Ev.pos rfl (Ev.const _))⟩
    | false =>
      obtain ⟨b, hb⟩ := wide_ev (F := F) (S := S) hT T.length 0 (by omega) (by omega)
      rw [show ((0 : Nat) : Int) = 0 from rfl] at hb
      exact ⟨b, Ev.into (fun k => by rw [laganlaw04_wide.j0]) (Ev.neg (by simp) hb)⟩
  by_cases h1 : (F.length : Int) > 70
  · obtain ⟨b, hb⟩ := hj true
    exact ⟨b, Ev.pos h1 hb⟩
  · by_cases h2 : (S.length : Int) > 210
    · obtain ⟨b, hb⟩ := hj true
      exact ⟨b, Ev.neg h1 (Ev.pos h2 hb)⟩
    · obtain ⟨b, hb⟩ := hj (decide ((T.length : Int) > 70))
      exact ⟨b, Ev.neg h1 (Ev.neg h2 hb)⟩
end Go.Proofs.Ytkmmihadcbfkoaa
end

section
namespace Go.Proofs.Ytkmmihadcbfkoaa
open Go.RowKit Go.Proofs.YtkmmihadcbfkoaaW.PrintWords PM
set_option linter.unusedVariables false
set_option linter.unusedSimpArgs false
def bdF : List Int := [10, 20, 30]
def bdS (p : Int) : List S50 := [⟨1, 1, p⟩, ⟨1, 2, 1⟩, ⟨1, 3, 1⟩]
def bdT : List (List Int) := [[0], [0, 1], [0, 1, 2]]
theorem rowC {W : World} {b t : Nat} {cs : Array Value} {fr : Nat × Nat} {l : List Int} (h : W.heap[b]? = some (.cells cs t fr)) (hl : l.length ≤ 9223372036854775807) (hc : ∀ (j : Nat) (v : Int), l[j]? = some v → cs[j]? = some (Value.int .i64 v)) : Kd.C (Kd.int .i64) W (some ⟨b, 0, none⟩) l.length l :=
  Kd.C_of_reads (enc := Value.int .i64) (d := (0 : Int)) (h1 := fun _ => rfl) ⟨rfl, hl, fun _ => ⟨⟨b, 0, none⟩, rfl, fun j hj => by
    rw [add_plain]
    have := hc j l[j] (List.getElem?_eq_getElem hj)
    simp [World.cell?, h, this, List.getD_eq_getElem?_getD, List.getElem?_eq_getElem hj]⟩⟩
theorem rowsC {W : World} {b t : Nat} {cs : Array Value} {fr : Nat × Nat} {T : List (List Int)} (h : W.heap[b]? = some (.cells cs t fr)) (hl : T.length ≤ 9223372036854775807)
    (hc : ∀ (j : Nat) (l : List Int), T[j]? = some l → ∃ A c, cs[j]? = some (Value.slice A l.length c) ∧ l.length ≤ c ∧ Kd.C (Kd.int .i64) W A l.length l) : Kd.C (Kd.slice 3 (Kd.int .i64)) W (some ⟨b, 0, none⟩) T.length T :=
  ⟨rfl, hl, fun _ => ⟨⟨b, 0, none⟩, rfl, fun j l hj => by
    obtain ⟨A, c, h1, h2, h3⟩ := hc j l hj
    refine ⟨[.slice A l.length c], rfl, ⟨A, c, rfl, h2, h3⟩, fun i u hu => ?_⟩
    have hi : i = 0 := by
      have := (List.getElem?_eq_some_iff.1 hu).1
      simpa using this
    subst hi
    have hu : Value.slice A l.length c = u := by simpa using hu
    subst hu
    show W.cell? ((⟨b, 0, none⟩ : Addr).add (j * 1 + 0)) = _
    rw [add_plain]
    simp [World.cell?, h, h1]⟩⟩
theorem slotsC {W : World} {b t : Nat} {cs : Array Value} {fr : Nat × Nat} {S : List S50} (h : W.heap[b]? = some (.cells cs t fr)) (hl : S.length ≤ 9223372036854775807)
    (hc : ∀ (j : Nat) (s : S50), S[j]? = some s → cs[j * 3]? = some (Value.int .i64 s.f0) ∧ cs[j * 3 + 1]? = some (Value.int .i64 s.f1) ∧ cs[j * 3 + 2]? = some (Value.int .i64 s.f2)) : Kd.C k50 W (some ⟨b, 0, none⟩) S.length S :=
  ⟨rfl, hl, fun _ => ⟨⟨b, 0, none⟩, rfl, fun j s hj => by
    obtain ⟨h0, h1, h2⟩ := hc j s hj
    refine ⟨[.int .i64 s.f0, .int .i64 s.f1, .int .i64 s.f2], rfl, k50_mk W s, fun i u hu => ?_⟩
    show W.cell? ((⟨b, 0, none⟩ : Addr).add (j * 3 + i)) = _
    rw [add_plain]
    have hi := (List.getElem?_eq_some_iff.1 hu).1
    match i, hi, hu with
    | 0, _, hu =>
      have hu : Value.int .i64 s.f0 = u := by simpa using hu
      subst hu
      simp [World.cell?, h, h0]
    | 1, _, hu =>
      have hu : Value.int .i64 s.f1 = u := by simpa using hu
      subst hu
      simp [World.cell?, h, h1]
    | 2, _, hu =>
      have hu : Value.int .i64 s.f2 = u := by simpa using hu
      subst hu
      simp [World.cell?, h, h2]⟩⟩
def BoardPost (F : List Int) (S : List S50) (T : List (List Int)) (w : World) (e : Ending) (w' : World) : Prop :=
  ∃ A0 c0 A1 c1 A2 c2, e = .returned (.agg #[.slice A0 F.length c0, .slice A1 S.length c1, .slice A2 T.length c2]) ∧ F.length ≤ c0 ∧ S.length ≤ c1 ∧ T.length ≤ c2 ∧ Kd.C (Kd.int .i64) w' A0 F.length F ∧ Kd.C k50 w' A1 S.length S ∧ Kd.C (Kd.slice 3 (Kd.int .i64)) w' A2 T.length T ∧ Below w.heap.size w w'
set_option maxRecDepth 100000 in
set_option maxHeartbeats 8000000 in
theorem board_calls (p : Int) (w : World) : Calls Try.prog 51 #[.int .i64 p] w (BoardPost bdF (bdS p) bdT w) := by
  go_enter Try.func51, Try.ntmps51
  go_wp2_with fail
  have hB : Below w.heap.size w (((((((w.alloc (.cells #[.slice (some ⟨w.heap.size + 1, 0, none⟩) 3 3, .slice (some ⟨w.heap.size + 1 + 1, 0, none⟩) 3 3, .slice (some ⟨w.heap.size + 1 + 1 + 1 + 1 + 1 + 1, 0, none⟩) 3 3] 26)).alloc (.cells #[.int .i64 10, .int .i64 20, .int .i64 30] 3)).alloc
      (.cells #[.int .i64 1, .int .i64 1, .int .i64 p, .int .i64 1, .int .i64 2, .int .i64 1, .int .i64 1, .int .i64 3, .int .i64 1] 50)).alloc (.cells #[.int .i64 0] 3)).alloc (.cells #[.int .i64 0, .int .i64 1] 3)).alloc (.cells #[.int .i64 0, .int .i64 1, .int .i64 2] 3)).alloc
      (.cells #[.slice (some ⟨w.heap.size + 1 + 1 + 1, 0, none⟩) 1 1, .slice (some ⟨w.heap.size + 1 + 1 + 1 + 1, 0, none⟩) 2 2, .slice (some ⟨w.heap.size + 1 + 1 + 1 + 1 + 1, 0, none⟩) 3 3] 22)) := by
    repeat (first | exact Below.refl _ _ | refine below_alloc ?_ _)
  obtain ⟨W, hW⟩ : ∃ W, (((((((w.alloc (.cells #[.slice (some ⟨w.heap.size + 1, 0, none⟩) 3 3, .slice (some ⟨w.heap.size + 1 + 1, 0, none⟩) 3 3, .slice (some ⟨w.heap.size + 1 + 1 + 1 + 1 + 1 + 1, 0, none⟩) 3 3] 26)).alloc (.cells #[.int .i64 10, .int .i64 20, .int .i64 30] 3)).alloc
      (.cells #[.int .i64 1, .int .i64 1, .int .i64 p, .int .i64 1, .int .i64 2, .int .i64 1, .int .i64 1, .int .i64 3, .int .i64 1] 50)).alloc (.cells #[.int .i64 0] 3)).alloc (.cells #[.int .i64 0, .int .i64 1] 3)).alloc (.cells #[.int .i64 0, .int .i64 1, .int .i64 2] 3)).alloc
      (.cells #[.slice (some ⟨w.heap.size + 1 + 1 + 1, 0, none⟩) 1 1, .slice (some ⟨w.heap.size + 1 + 1 + 1 + 1, 0, none⟩) 2 2, .slice (some ⟨w.heap.size + 1 + 1 + 1 + 1 + 1, 0, none⟩) 3 3] 22)) = W := ⟨_, rfl⟩
  have e0 : W.heap[w.heap.size]? = some (.cells #[.slice (some ⟨w.heap.size + 1, 0, none⟩) 3 3, .slice (some ⟨w.heap.size + 1 + 1, 0, none⟩) 3 3, .slice (some ⟨w.heap.size + 1 + 1 + 1 + 1 + 1 + 1, 0, none⟩) 3 3] 26 (0, 0)) := by
    rw [← hW]
    repeat (first | exact blk_new _ _ | (refine (congrArg _ ?_).trans (blk_new _ _); simp only [World.size_alloc]; done) | refine blk_alloc ?_ _)
  have e1 : W.heap[w.heap.size + 1]? = some (.cells #[.int .i64 10, .int .i64 20, .int .i64 30] 3 (0, 0)) := by
    rw [← hW]
    repeat (first | exact blk_new _ _ | (refine (congrArg _ ?_).trans (blk_new _ _); simp only [World.size_alloc]; done) | refine blk_alloc ?_ _)
  have e2 : W.heap[w.heap.size + 1 + 1]? = some (.cells #[.int .i64 1, .int .i64 1, .int .i64 p, .int .i64 1, .int .i64 2, .int .i64 1, .int .i64 1, .int .i64 3, .int .i64 1] 50 (0, 0)) := by
    rw [← hW]
    repeat (first | exact blk_new _ _ | (refine (congrArg _ ?_).trans (blk_new _ _); simp only [World.size_alloc]; done) | refine blk_alloc ?_ _)
  have e3 : W.heap[w.heap.size + 1 + 1 + 1]? = some (.cells #[.int .i64 0] 3 (0, 0)) := by
    rw [← hW]
    repeat (first | exact blk_new _ _ | (refine (congrArg _ ?_).trans (blk_new _ _); simp only [World.size_alloc]; done) | refine blk_alloc ?_ _)
  have e4 : W.heap[w.heap.size + 1 + 1 + 1 + 1]? = some (.cells #[.int .i64 0, .int .i64 1] 3 (0, 0)) := by
    rw [← hW]
    repeat (first | exact blk_new _ _ | (refine (congrArg _ ?_).trans (blk_new _ _); simp only [World.size_alloc]; done) | refine blk_alloc ?_ _)
  have e5 : W.heap[w.heap.size + 1 + 1 + 1 + 1 + 1]? = some (.cells #[.int .i64 0, .int .i64 1, .int .i64 2] 3 (0, 0)) := by
    rw [← hW]
    repeat (first | exact blk_new _ _ | (refine (congrArg _ ?_).trans (blk_new _ _); simp only [World.size_alloc]; done) | refine blk_alloc ?_ _)
  have e6 : W.heap[w.heap.size + 1 + 1 + 1 + 1 + 1 + 1]? = some (.cells #[.slice (some ⟨w.heap.size + 1 + 1 + 1, 0, none⟩) 1 1, .slice (some ⟨w.heap.size + 1 + 1 + 1 + 1, 0, none⟩) 2 2, .slice (some ⟨w.heap.size + 1 + 1 + 1 + 1 + 1, 0, none⟩) 3 3] 22 (0, 0)) := by
    rw [← hW]
    repeat (first | exact blk_new _ _ | (refine (congrArg _ ?_).trans (blk_new _ _); simp only [World.size_alloc]; done) | refine blk_alloc ?_ _)
  rw [hW] at hB ⊢
  refine bodyPost_ret (results_cell_row rfl _ _ w.heap.size 26 _ (0, 0) _ rfl e0 Try.underlying26 rfl (by kernel_rfl)) rfl ?_
  have r0 := rowC (l := [0]) e3 (by decide) (fun j v hv => by
    match j, hv with
    | 0, hv => have : (0 : Int) = v := by simpa using hv
               subst this; rfl)
  have r1 := rowC (l := [0, 1]) e4 (by decide) (fun j v hv => by
    match j, hv with
    | 0, hv => have : (0 : Int) = v := by simpa using hv
               subst this; rfl
    | 1, hv => have : (1 : Int) = v := by simpa using hv
               subst this; rfl)
  have r2 := rowC (l := [0, 1, 2]) e5 (by decide) (fun j v hv => by
    match j, hv with
    | 0, hv => have : (0 : Int) = v := by simpa using hv
               subst this; rfl
    | 1, hv => have : (1 : Int) = v := by simpa using hv
               subst this; rfl
    | 2, hv => have : (2 : Int) = v := by simpa using hv
               subst this; rfl)
  refine ⟨_, _, _, _, _, _, rfl, by decide, by simp [bdS], by decide, rowC (l := bdF) e1 (by decide) (fun j v hv => ?_), slotsC e2 (by simp [bdS]) (fun j v hv => ?_), rowsC e6 (by decide) (fun j v hv => ?_), hB⟩
  · match j, hv with
    | 0, hv => have : (10 : Int) = v := by simpa [bdF] using hv
               subst this; rfl
    | 1, hv => have : (20 : Int) = v := by simpa [bdF] using hv
               subst this; rfl
    | 2, hv => have : (30 : Int) = v := by simpa [bdF] using hv
               subst this; rfl
    | n + 3, hv => simp [bdF] at hv
  · match j, hv with
    | 0, hv => have : (⟨1, 1, p⟩ : S50) = v := by simpa [bdS] using hv
               subst this; exact ⟨rfl, rfl, rfl⟩
    | 1, hv => have : (⟨1, 2, 1⟩ : S50) = v := by simpa [bdS] using hv
               subst this; exact ⟨rfl, rfl, rfl⟩
    | 2, hv => have : (⟨1, 3, 1⟩ : S50) = v := by simpa [bdS] using hv
               subst this; exact ⟨rfl, rfl, rfl⟩
    | n + 3, hv => simp [bdS] at hv
  · match j, hv with
    | 0, hv => have : ([0] : List Int) = v := by simpa [bdT] using hv
               subst this; exact ⟨_, _, rfl, by decide, r0⟩
    | 1, hv => have : ([0, 1] : List Int) = v := by simpa [bdT] using hv
               subst this; exact ⟨_, _, rfl, by decide, r1⟩
    | 2, hv => have : ([0, 1, 2] : List Int) = v := by simpa [bdT] using hv
               subst this; exact ⟨_, _, rfl, by decide, r2⟩
    | n + 3, hv => simp [bdT] at hv
end Go.Proofs.Ytkmmihadcbfkoaa
end

section
namespace Go.Proofs.Ytkmmihadcbfkoaa
open Go.RowKit Go.Proofs.YtkmmihadcbfkoaaW.PrintWords PM
set_option linter.unusedVariables false
set_option linter.unusedSimpArgs false
/-- The slots of one find are tried one after another. -/
def tryRow (F : List Int) (S : List S50) (f : Nat) : List Int → List (List Int) → List Int → List (List Int) × List Int
  | [], T, out => (T, out)
  | s :: ss, T, out => if isF F S (T.set f [s]) = true then (T.set f [s], out.set f s) else tryRow F S f ss (T.set f [s]) out
def nextF (F : List Int) (S : List S50) (T0 : List (List Int)) : Nat → Nat → List (List Int) → List Int → List Int
  | 0, _, _, out => out
  | n + 1, f, T, out => nextF F S T0 n (f + 1) (tryRow F S f (T0.getD f []) T out).1 (tryRow F S f (T0.getD f []) T out).2
/-- Apart from the rows of the fits and of the slots found, what lay lies as it lay. -/
structure AG (Cf Bo : Nat) (w w' : World) : Prop where
  os : w'.os = w.os
  tape : w'.tape = w.tape
  output : w'.output = w.output
  size : w.heap.size ≤ w'.heap.size
  block : ∀ k, k < w.heap.size → k ≠ Cf → k ≠ Bo → w'.heap[k]? = w.heap[k]?
  cells : szOf (w'.heap[Bo]?) = szOf (w.heap[Bo]?)
theorem AG.refl (Cf Bo : Nat) (w : World) : AG Cf Bo w w := ⟨rfl, rfl, rfl, Nat.le_refl _, fun _ _ _ _ => rfl, rfl⟩
theorem AG.trans {Cf Bo : Nat} {a b c : World} (h : AG Cf Bo a b) (k : AG Cf Bo b c) : AG Cf Bo a c :=
  ⟨k.os.trans h.os, k.tape.trans h.tape, k.output.trans h.output, Nat.le_trans h.size k.size, fun i hi h1 h2 => (k.block i (Nat.lt_of_lt_of_le hi h.size) h1 h2).trans (h.block i hi h1 h2), k.cells.trans h.cells⟩
theorem AG.of_below {Cf Bo : Nat} {w w' : World} (h : Below w.heap.size w w') (hB : Bo < w.heap.size) : AG Cf Bo w w' := ⟨h.os, h.tape, h.output, h.size, fun k hk _ _ => h.block k hk, by rw [h.block Bo hB]⟩
theorem AG.of_grown {Cf Bo : Nat} {w w' : World} (h : w.grownBy w' (some Cf)) (hB : Bo < w.heap.size) (hne : Bo ≠ Cf) : AG Cf Bo w w' := ⟨h.os, h.tape, h.output, h.size, fun k hk h1 _ => h.block k hk (by simpa using h1), by rw [h.block Bo hB (by simpa using hne)]⟩
theorem AG.put {Cf Bo : Nat} (w : World) (o : Nat) (v : Value) : AG Cf Bo w (w.setCell ⟨Bo, o, none⟩ v) := ⟨rfl, rfl, rfl, by simp [World.setCell], fun k _ _ h => Below.heap_setCell _ _ _ _ h, szOf_setCell _ _ _ _⟩
structure AL where
  A0 : Option Addr
  c0 : Nat
  A1 : Option Addr
  c1 : Nat
  A2 : Option Addr
  c2 : Nat
  Bc : Nat
  Bb : Nat
  Bq : Nat
  Bn : Nat
  Cf : Nat
  cf : Nat
  Bo : Nat
  base : Nat
  ra : Nat → Option Addr
  rc : Nat → Nat
structure AStill (L : AL) (F : List Int) (S : List S50) (T : List (List Int)) (w : World) : Prop where
  cb : w.heap[L.Bb]? = some (.cells #[.slice L.A0 F.length L.c0, .slice L.A1 S.length L.c1, .slice L.A2 T.length L.c2] 26 (0, 0))
  cc : w.heap[L.Bc]? = some (.cells #[.slice L.A0 F.length L.c0, .slice L.A1 S.length L.c1, .slice (some ⟨L.Cf, 0, none⟩) T.length L.cf] 26 (0, 0))
  cq : w.heap[L.Bq]? = some (.cells #[.slice (some ⟨L.Bo, 0, none⟩) F.length F.length] 22 (0, 0))
  cn : w.heap[L.Bn]? = some (.cells #[.func (.func 55) #[] #[.pointer (some ⟨L.Bc, 0, none⟩), .pointer (some ⟨L.Bb, 0, none⟩), .pointer (some ⟨L.Bq, 0, none⟩), .pointer (some ⟨L.Bn, 0, none⟩)]] 73 (0, 0))
  slots : Kd.C k50 w L.A1 S.length S
  fits : RowsAt w L.A2 L.ra L.rc T
def AStands (L : AL) (F : List Int) (S : List S50) (T : List (List Int)) (w : World) : Prop := ∀ w', AG L.Cf L.Bo w w' → AStill L F S T w'
theorem AStands.still {L : AL} {F : List Int} {S : List S50} {T : List (List Int)} {w : World} (h : AStands L F S T w) : AStill L F S T w := h w (AG.refl _ _ _)
theorem AStands.later {L : AL} {F : List Int} {S : List S50} {T : List (List Int)} {w w' : World} (h : AStands L F S T w) (a : AG L.Cf L.Bo w w') : AStands L F S T w' := fun w2 k => h w2 (a.trans k)
/-- The fits as they stand now, and the slots found. -/
structure ATurn (L : AL) (F : List Int) (S : List S50) (T0 T : List (List Int)) (out : List Int) (w : World) : Prop where
  fits : Kd.N (Kd.slice 3 (Kd.int .i64)) 22 w L.base (fun k => k ≠ L.Bo) (.slice (some ⟨L.Cf, 0, none⟩) T0.length L.cf) T
  row : RowAt w L.Bo 3 (Value.int .i64) out
  lt : T.length = T0.length
  lo : out.length = F.length
  ok : BOK F S T
theorem BOK.set {F : List Int} {S : List S50} {T : List (List Int)} (h : BOK F S T) (f : Nat) (s : Int) (h0 : 0 ≤ s) (h1 : s < S.length) : BOK F S (T.set f [s]) := by
  have hg : ∀ i : Nat, i < T.length → (T.set f [s]).getD i [] = if f = i then [s] else T.getD i [] := fun i hi => by
    rw [List.getD_eq_getElem?_getD, List.getElem?_set]
    by_cases e : f = i
    · rw [if_pos e, if_pos e, if_pos (by omega)]; rfl
    · rw [if_neg e, if_neg e, List.getD_eq_getElem?_getD]
  refine ⟨h.nf, h.ns, by rw [List.length_set]; exact h.nt, fun i hi => ?_, fun i hi j hj => ?_⟩
  · rw [List.length_set] at hi
    rw [hg i hi]
    split
    · simp
    · exact h.row i hi
  · rw [List.length_set] at hi
    rw [hg i hi] at hj ⊢
    split at hj
    · rename_i e
      rw [if_pos e]
      have : j = 0 := by simpa using hj
      subst this
      exact ⟨h0, h1⟩
    · rename_i e
      rw [if_neg e]
      exact h.slot i hi j hj
theorem C_of_row' {w : World} {b n : Nat} {xs : List Int} (h : RowAt w b 3 (Value.int .i64) xs) (hl : xs.length = n) (hn : n ≤ 9223372036854775807) : Kd.C (Kd.int .i64) w (some ⟨b, 0, none⟩) n xs :=
  Kd.C_of_reads (enc := Value.int .i64) (d := (0 : Int)) (h1 := fun _ => rfl) ⟨hl, hn, fun _ => ⟨⟨b, 0, none⟩, rfl, fun j hj => by
    rw [add_plain, h.cell j (by omega)]
    simp [List.getD_eq_getElem?_getD, List.getElem?_eq_getElem (show j < xs.length by omega)]⟩⟩
theorem ATurn.below {L : AL} {F : List Int} {S : List S50} {T0 T : List (List Int)} {out : List Int} {w w' : World} (h : ATurn L F S T0 T out w) (hb : Below w.heap.size w w') : ATurn L F S T0 T out w' :=
  ⟨Kd.N_below h.fits hb, h.row.below hb, h.lt, h.lo, h.ok⟩
theorem ATurn.put {L : AL} {F : List Int} {S : List S50} {T0 T : List (List Int)} {out : List Int} {w : World} (h : ATurn L F S T0 T out w) (f : Nat) (s : Int) : ATurn L F S T0 T (out.set f s) (w.setCell ⟨L.Bo, f, none⟩ (.int .i64 s)) :=
  ⟨Kd.N_far (p := ⟨L.Bo, f, none⟩) h.fits (fun k hk => hk) _, h.row.set f s, h.lt, by rw [List.length_set]; exact h.lo, h.ok⟩
def NextPost (L : AL) (F : List Int) (S : List S50) (r : List Int) (w : World) (e : Ending) (w' : World) : Prop := e = .returned (.tuple #[]) ∧ AG L.Cf L.Bo w w' ∧ RowAt w' L.Bo 3 (Value.int .i64) r
set_option maxRecDepth 100000 in
set_option maxHeartbeats 8000000 in
theorem next_calls (L : AL) (F : List Int) (S : List S50) (T0 : List (List Int)) (hne : L.Bo ≠ L.Cf) (hk0 : BOK F S T0) (n : Nat) : ∀ (f : Nat) (T : List (List Int)) (out : List Int) (w : World), f + n = T0.length → AStands L F S T0 w → ATurn L F S T0 T out w →
    Calls Try.prog 55 #[.int .i64 f, .pointer (some ⟨L.Bc, 0, none⟩), .pointer (some ⟨L.Bb, 0, none⟩), .pointer (some ⟨L.Bq, 0, none⟩), .pointer (some ⟨L.Bn, 0, none⟩)] w (NextPost L F S (nextF F S T0 n f T out) w) := by
  induction n with
  | zero =>
    intro f T out w hfn hS hT
    have hst := hS.still
    have d2 := cell_of_heap hst.cc (j := 2) rfl
    obtain rfl : f = T0.length := by omega
    have HT := Go.Lib.hid hT
    clear hst hS hT hfn
    unfold nextF
    go_enter Try.func55, Try.ntmps55
    go_wp2_with fail
    go_step3
    go_wp2_with fail
    rw [Exit.noGoto_ret]
    go_end0
    exact ⟨rfl, AG.refl _ _ _, HT.out.row⟩
  | succ n ih =>
    intro f T out w hfn hS hT
    have hst := hS.still
    have d2 := cell_of_heap hst.cc (j := 2) rfl
    have b2 := cell_of_heap hst.cb (j := 2) rfl
    have hft : f < T0.length := by omega
    have g1 : ((f : Int) == (T0.length : Int)) = false := by
      rw [beq_eq_false_iff_ne]; omega
    obtain ⟨a8, e8, hx8, hC⟩ := hst.fits f hft
    obtain ⟨res, hres⟩ : ∃ res, nextF F S T0 (n + 1) f T out = res := ⟨_, rfl⟩
    rw [hres]
    unfold nextF at hres
    have hslot := hk0.slot f hft
    have hrl := hk0.row f hft
    have hno := hk0.nt
    have lT0 : T0.length ≤ 60 := by rw [hno]; exact hk0.nf
    obtain ⟨row, hrw⟩ : ∃ row, T0.getD f [] = row := ⟨_, rfl⟩
    rw [hrw] at hx8 hC hslot hres hrl
    rw [e8] at b2
    have hSt : ∀ w', AG L.Cf L.Bo w w' → Kd.C (Kd.int .i64) w' (L.ra f) row.length row := by
      intro w' a
      obtain ⟨_, _, _, hC'⟩ := (hS w' a).fits f hft
      rwa [hrw] at hC'
    have HT := Go.Lib.hid hT
    have HS := Go.Lib.hid hS
    have HRES := Go.Lib.hid hres
    have HSL := Go.Lib.hid hslot
    have HST := Go.Lib.hid hSt
    have IH := Go.Lib.hid ih
    have HK0 := Go.Lib.hid hk0
    have HFN := Go.Lib.hid hfn
    have HNO := Go.Lib.hid hno
    have hfn1 : f + 1 ≤ T0.length := by omega
    clear hst hS hT hfn hres hslot ih hk0 hC hrw e8 hno hSt
    go_enter Try.func55, Try.ntmps55
    go_wp2_with fail
    go_step3
    go_wp2_with fail
    go_step3
    go_wp2_with fail
    go_loopw [21] (fun i wr => ∃ k : Nat, k ≤ row.length ∧ i = .int .i64 k ∧ Hid (∃ T' out', nextF F S T0 n (f + 1) (tryRow F S f (row.drop k) T' out').1 (tryRow F S f (row.drop k) T' out').2 = res ∧ ATurn L F S T0 T' out' wr ∧ AG L.Cf L.Bo w wr)) (fun i _ => row.length - (intOf i).toNat)
    case atStart => exact ⟨0, Nat.zero_le _, rfl, T, out, HRES.out, HT.out, AG.refl _ _ _⟩
    case round =>
      obtain ⟨k, hk, rfl, HID⟩ := hrel
      obtain ⟨T', out', hre, hT, hag⟩ := HID.out
      by_cases hlt : k < row.length
      · obtain ⟨a9, e9, x9⟩ := Kd.at_int (HST.out wr hag) (k : Int) (by omega) (by omega)
        rw [Int.toNat_natCast, show rd row (k : Int) = row.getD k 0 from by simp [rd]] at x9
        rw [show row.drop k = row.getD k 0 :: row.drop (k + 1) from by rw [List.drop_eq_getElem_cons hlt]; simp [List.getD_eq_getElem?_getD, List.getElem?_eq_getElem hlt]] at hre
        have hsb := HSL.out k hlt
        obtain ⟨s9, hs9⟩ : ∃ s9, row.getD k 0 = s9 := ⟨_, rfl⟩
        rw [hs9] at x9 hre hsb
        obtain ⟨hs0, hs1⟩ := hsb
        unfold tryRow at hre
        have hst := (HS.out.later hag).still
        have d2 := cell_of_heap hst.cc (j := 2) rfl
        have hBl := hT.row.lt
        have hal := (Below.refl wr.heap.size wr).alloc (Nat.le_refl _) (.cells #[.int .i64 s9] 3)
        have dd2 := pw_cell_below hal d2
        have hN1 := Kd.N_alloc hT.fits (.cells #[.int .i64 s9] 3)
        have hbase : L.base ≤ wr.heap.size := Nat.le_trans (Kd.N_base hT.fits L.Cf rfl) (Nat.le_of_lt (Kd.N_lt hT.fits L.Cf rfl))
        obtain ⟨c, hcl, _, hcc⟩ := Kd.N_get hN1 ([] : List Int) (f : Int) (by omega) (by omega)
        have hcl : c.length = 1 := hcl
        obtain ⟨c0, rfl⟩ : ∃ c0, c = [c0] := List.length_eq_one_iff.1 hcl
        have hcc : ∀ j u, [c0][j]? = some u → (wr.alloc (.cells #[.int .i64 s9] 3)).cell? ⟨L.Cf, (f : Int).toNat * (Kd.slice 3 (Kd.int .i64)).sz + j, none⟩ = some u := fun j u hu => by
          have := hcc j u hu
          rwa [add_plain] at this
        have hrow1 : RowAt (wr.alloc (.cells #[.int .i64 s9] 3)) wr.heap.size 3 (Value.int .i64) [s9] := ⟨_, World.alloc_heap_new _ _, fun j hj => by
          have : j = 0 := by simpa using hj
          subst this; rfl⟩
        have hM : Kd.FK (Kd.slice 3 (Kd.int .i64)) (wr.alloc (.cells #[.int .i64 s9] 3)) (fun q => q = wr.heap.size) [s9] [.slice (some ⟨wr.heap.size, 0, none⟩) 1 1] :=
          Kd.FK_slice_mk (c := 1) (by simp) (fun W' hW => C_of_row' (hrow1.same (hW wr.heap.size rfl (by simp))) rfl (by simp))
        have HP := Go.Lib.hid (And.intro hN1 (And.intro hM (And.intro hcc hbase)))
        have HRE := Go.Lib.hid hre
        have HT' := Go.Lib.hid hT
        have HAG := Go.Lib.hid hag
        have HAL := Go.Lib.hid hal
        have hclf : L.Cf < wr.heap.size := Kd.N_lt hT.fits L.Cf rfl
        have PREP : ∀ w2, Kd.N (Kd.slice 3 (Kd.int .i64)) 22 w2 L.base (fun k => k ≠ L.Bo) (.slice (some ⟨L.Cf, 0, none⟩) T0.length L.cf) (T'.set f [s9]) → (wr.alloc (.cells #[.int .i64 s9] 3)).grownBy w2 (some L.Cf) →
            w2.cell? ⟨L.Bc, 0, none⟩ = some (.slice L.A0 F.length L.c0) ∧ w2.cell? ⟨L.Bc, 1, none⟩ = some (.slice L.A1 S.length L.c1) ∧ w2.cell? ⟨L.Bc, 2, none⟩ = some (.slice (some ⟨L.Cf, 0, none⟩) T0.length L.cf) ∧
            Calls Try.prog 52 #[.agg #[.slice L.A0 F.length L.c0, .slice L.A1 S.length L.c1, .slice (some ⟨L.Cf, 0, none⟩) T0.length L.cf]] w2 (SomePost F S (T'.set f [s9]) (.slice L.A0 F.length L.c0) w2) ∧
            Hid (ATurn L F S T0 (T'.set f [s9]) out' w2 ∧ AG L.Cf L.Bo wr w2) := by
          intro w2 hN2 hg2
          have hag2 : AG L.Cf L.Bo wr w2 := (AG.of_below hal hBl).trans (AG.of_grown hg2 (by simp; omega) hne)
          have hst2 := (HS.out.later (hag.trans hag2)).still
          have hbok := BOK.set hT.ok f s9 hs0 hs1
          have hlen2 : (T'.set f [s9]).length = T0.length := by rw [List.length_set, hT.lt]
          have hC2 := (Kd.N_reads' hN2).2.2
          have SC := some_calls L.A0 L.c0 F L.A1 L.c1 S (some ⟨L.Cf, 0, none⟩) L.cf (T'.set f [s9]) w2 hbok hst2.slots hC2
          rw [hlen2] at SC
          exact ⟨cell_of_heap hst2.cc rfl, cell_of_heap hst2.cc rfl, cell_of_heap hst2.cc rfl, SC, ⟨hN2, hT.row.same ((hg2.block L.Bo (by simp; omega) (by simpa using hne)).trans (hal.block L.Bo hBl)), hlen2, hT.lo, hbok⟩, hag2⟩
        clear hre hT hag hst hal hN1 hM hcc hrow1 hs9 hbase HID hcl
        rw [e9] at *
        go_wp2_with (first | (refine Kd.N_store (Kd.slice 3 (Kd.int .i64)) (w0 := wr) L.base rfl rfl 22 (.tmp 30) (.tmp 29) rfl 22 (g := L.Cf) (n := T0.length) (cap := L.cf) (o' := f) (f : Int) 0 T' [s9] (.slice (some ⟨wr.heap.size, 0, none⟩) 1 1) [.slice (some ⟨wr.heap.size, 0, none⟩) 1 1] [c0] (fun q => q ≠ L.Bo) (fun q => q = wr.heap.size) rfl (by show f = (f : Int).toNat * 1 + 0; omega) rfl rfl rfl (by intro q hq; rw [List.mem_singleton.1 hq]; rfl) HP.out.1 (by omega) (by omega) rfl HP.out.2.2.1 (by show 0 + 1 ≤ 1; omega) HP.out.2.1 (fun q hq => ⟨by omega, by omega⟩) (HAL.out.mono HP.out.2.2.2) ?_; intro w2 hN2 hb2 hg2; obtain ⟨p0, p1, p2, SC, HX2⟩ := PREP w2 hN2 hg2; clear hN2 hb2 hg2))
        refine SC.mono ?_
        clear SC
        rintro e w3 ⟨t, rfl, _, _, _, _, hb3⟩
        have hT3 := HX2.out.1.below hb3
        have hbo2 : L.Bo < w2.heap.size := HX2.out.1.row.lt
        have hag3 := HAG.out.trans (HX2.out.2.trans (AG.of_below hb3 hbo2))
        have hst3 := (HS.out.later hag3).still
        have q0 := cell_of_heap hst3.cq (j := 0) rfl
        have q1 := cell_of_heap hst3.cn (j := 0) rfl
        obtain ⟨ok, hok⟩ : ∃ ok, (fillF (T'.set f [s9]) (rooms S) S.length (-1) (List.replicate F.length (-1))).ok = ok := ⟨_, rfl⟩
        rw [hok]
        have hre := HRE.out
        rw [show isF F S (T'.set f [s9]) = ok from hok] at hre
        have HAG3 := Go.Lib.hid hag3
        have HT3 := Go.Lib.hid hT3
        clear hok hT3 hag3 hst3 hb3 p0 p1 p2 PREP HX2 HRE
        cases ok with
        | false =>
          rw [if_neg (by simp)] at hre
          have HRE2 := Go.Lib.hid hre
          clear hre
          go_wp2_with fail
          go_roundw
          case rel => exact ⟨k + 1, by omega, by simp, _, _, HRE2.out, HT3.out, HAG3.out⟩
          case measure => simp [intOf]; omega
        | true =>
          rw [if_pos rfl] at hre
          have HRE2 := Go.Lib.hid hre
          clear hre
          have hfF : (f : Int) < (F.length : Int) := by have := HNO.out; omega
          have fz := HT3.out.row.frozen f
          have cf := HT3.out.row.cellD 0 (f : Int) (by omega) (by rw [HT3.out.lo]; exact hfF)
          rw [Int.toNat_natCast] at cf
          have hT4 := HT3.out.put f s9
          have hag4 : AG L.Cf L.Bo w3 (w3.setCell ⟨L.Bo, f, none⟩ (.int .i64 s9)) := AG.put _ _ _
          have hst4 := (HS.out.later (HAG3.out.trans hag4)).still
          have q4 := cell_of_heap hst4.cn (j := 0) rfl
          have NC := IH.out (f + 1) _ _ _ (by have := HFN.out; omega) (HS.out.later (HAG3.out.trans hag4)) hT4
          rw [HRE2.out, show ((f + 1 : Nat) : Int) = (f : Int) + 1 from by omega] at NC
          have HAG4 := Go.Lib.hid (HAG3.out.trans hag4)
          clear hT4 hag4 hst4
          go_wp2_with fail
          refine NC.mono ?_
          clear NC
          rintro e w5 ⟨rfl, hag5, hrow5⟩
          have HX5 := Go.Lib.hid (And.intro hag5 hrow5)
          clear hag5 hrow5
          go_wp2_with fail
          change bodyPost Try.prog Try.f55 (NextPost L F S res w) Exit.normal _ _
          go_end0
          exact ⟨rfl, HAG4.out.trans HX5.out.1, HX5.out.2⟩
      · obtain rfl : k = row.length := by omega
        rw [List.drop_length] at hre
        have hst := (HS.out.later hag).still
        have q4 := cell_of_heap hst.cn (j := 0) rfl
        have NC := IH.out (f + 1) T' out' wr (by have := HFN.out; omega) (HS.out.later hag) hT
        rw [show nextF F S T0 n (f + 1) T' out' = res from hre, show ((f + 1 : Nat) : Int) = (f : Int) + 1 from by omega] at NC
        have HAG := Go.Lib.hid hag
        clear hre hT hag hst HID
        go_wp2_with fail
        refine NC.mono ?_
        clear NC
        rintro e w5 ⟨rfl, hag5, hrow5⟩
        have HX5 := Go.Lib.hid (And.intro hag5 hrow5)
        clear hag5 hrow5
        go_wp2_with fail
        change bodyPost Try.prog Try.f55 (NextPost L F S res w) Exit.normal _ _
        go_end0
        exact ⟨rfl, HAG.out.trans HX5.out.1, HX5.out.2⟩
end Go.Proofs.Ytkmmihadcbfkoaa
end

section
namespace Go.Proofs.Ytkmmihadcbfkoaa
open Go.RowKit Go.Proofs.YtkmmihadcbfkoaaW.PrintWords PM
set_option linter.unusedVariables false
set_option linter.unusedSimpArgs false
/-- A row of ints of the call's own, as cells of a block, and back. -/
theorem row_of_own {w : World} {b n c g : Nat} {xs : List Int} (h : w.ownsRow b 3 1 (.slice (some ⟨g, 0, none⟩) n c) n (xs.map (Value.int .i64))) :
    RowAt w g 3 (Value.int .i64) xs ∧ szOf (w.heap[g]?) = c ∧ xs.length = n ∧ n ≤ c ∧ c ≤ maxLen ∧ b ≤ g := by
  have hl : xs.length = n := by have := h.1; simpa using this
  rcases h.2 with ⟨e, _⟩ | ⟨g', cap, cur, e, hb, hh, hle, hmx, hsz, htk⟩
  · cases e
  injection e with e1 e2 e3
  injection e1 with e1
  injection e1 with e1
  subst e1; subst e3
  refine ⟨⟨cur, hh, fun j hj => ?_⟩, by rw [hh]; simpa [szOf] using hsz, hl, hle, hmx, hb⟩
  have h2 : (cur.toList.take (n * 1))[j]? = (xs.map (Value.int .i64))[j]? := by rw [htk]
  rw [List.getElem?_take_of_lt (by omega), List.getElem?_map, List.getElem?_eq_getElem hj] at h2
  rw [← Array.getElem?_toList, h2]
  rfl
theorem own_of_row {w : World} {b n c g : Nat} {xs : List Int} (h : RowAt w g 3 (Value.int .i64) xs) (hsz : szOf (w.heap[g]?) = c) (hl : xs.length = n) (hle : n ≤ c) (hmx : c ≤ maxLen) (hb : b ≤ g) :
    w.ownsRow b 3 1 (.slice (some ⟨g, 0, none⟩) n c) n (xs.map (Value.int .i64)) := by
  obtain ⟨cs, hh, hc⟩ := h
  rw [hh] at hsz
  have hsz : cs.size = c := hsz
  refine ⟨by simpa using hl, Or.inr ⟨g, c, cs, rfl, hb, hh, hle, hmx, by omega, ?_⟩⟩
  apply List.ext_getElem?
  intro j
  by_cases hj : j < n
  · rw [List.getElem?_take_of_lt (by omega), List.getElem?_map, List.getElem?_eq_getElem (show j < xs.length by omega), Array.getElem?_toList]
    exact hc j (by omega)
  · rw [List.getElem?_eq_none (by simp; omega), List.getElem?_eq_none (by simp; omega)]
theorem C_of_row {w : World} {b n : Nat} {xs : List Int} (h : RowAt w b 3 (Value.int .i64) xs) (hl : xs.length = n) (hn : n ≤ 9223372036854775807) : Kd.C (Kd.int .i64) w (some ⟨b, 0, none⟩) n xs :=
  Kd.C_of_reads (enc := Value.int .i64) (d := (0 : Int)) (h1 := fun _ => rfl) ⟨hl, hn, fun _ => ⟨⟨b, 0, none⟩, rfl, fun j hj => by
    rw [add_plain, h.cell j (by omega)]
    simp [List.getD_eq_getElem?_getD, List.getElem?_eq_getElem (show j < xs.length by omega)]⟩⟩
structure WR where
  ok : Bool
  has : List Int
/-- What 'with' comes to: is there an assignment that gives the find the slot, and which. -/
def withF (fits : List (List Int)) (room : List Int) (ns : Nat) (has : List Int) (find : Nat) (slot : Int) : WR :=
  if slot ∉ fits.getD find [] then ⟨false, []⟩
  else if has.getD find 0 = slot then ⟨true, has⟩
  else if (room.set slot.toNat (room.getD slot.toNat 0 - 1)).getD slot.toNat 0 < ld (has.set find (-1)) slot then
    if (giveR fits (room.set slot.toNat (room.getD slot.toNat 0 - 1)) ns ((atOf (has.set find (-1)) slot).getD 0 0) ((has.set find (-1)).set ((atOf (has.set find (-1)) slot).getD 0 0).toNat (-1))).ok then
      ⟨true, (giveR fits (room.set slot.toNat (room.getD slot.toNat 0 - 1)) ns ((atOf (has.set find (-1)) slot).getD 0 0) ((has.set find (-1)).set ((atOf (has.set find (-1)) slot).getD 0 0).toNat (-1))).has.set find slot⟩
    else ⟨false, []⟩
  else ⟨true, (has.set find (-1)).set find slot⟩
def WithPost (r : WR) (w : World) (e : Ending) (w' : World) : Prop :=
  ∃ v, e = .returned (.tuple #[v, .bool r.ok]) ∧ Kd.R (Kd.int .i64) 3 w' w.heap.size (fun _ => True) v r.has ∧ Below w.heap.size w w'
theorem copied_calls (A : Option Addr) (c : Nat) (l : List Int) (w : World) (hr : Kd.C (Kd.int .i64) w A l.length l) (hc : l.length ≤ c) (hl : l.length ≤ 1000) :
    Calls Try.prog 88 #[.slice A l.length c] w fun e w' => ∃ v, e = .returned v ∧ Kd.R (Kd.int .i64) 3 w' w.heap.size (fun _ => True) v l ∧ Below w.heap.size w w' :=
  match_copied_int_88.calls A c l l w hr hc (by
    unfold match_copied_int_88.f
    rw [Option.bind_some, if_pos (by simp; omega)]
    rfl)
/-- What the walk of 'with' is told of the trial: its row of slots is whole, its rooms have their lengths. -/
structure TGood (t : TL) (fits : List (List Int)) (room has : List Int) (w : World) : Prop where
  fit : TFit t fits room
  st : TStands t fits room w
  row : RowAt w t.bh 3 (Value.int .i64) has
  len : has.length = t.nh
  capr : room.length ≤ t.cr
  caph : t.nh ≤ t.ch
  rooms : ∀ i : Nat, i < t.n1 → 1 ≤ room.getD i 0 ∧ room.getD i 0 ≤ 20
  s0 : ∃ A n c, t.s0 = .slice A n c
  caps : ∀ i : Nat, i < fits.length → (fits.getD i []).length ≤ t.rc i
theorem copied_new {t : TL} {fits : List (List Int)} {room has : List Int} {w w2 w3 : World} {a2 : Addr} {As : Option Addr} {ns cs find b2 cv ch : Nat} {Av Ah : Option Addr} (fit : TFit t fits room) (rows : RowsAt w (some a2) t.ra t.rc fits) (len : has.length = t.nh) (hfd : find < t.nh)
    (hb2 : Below w.heap.size w w2) (hb2s : w.heap.size ≤ b2) (hRr : Kd.R (Kd.int .i64) 3 w2 b2 (fun _ => True) (.slice Av room.length cv) room) (hbh : Below w2.heap.size w2 w3) (hRh : Kd.R (Kd.int .i64) 3 w3 w2.heap.size (fun _ => True) (.slice Ah has.length ch) has) :
    ∃ Bh, Ah = some ⟨Bh, 0, none⟩ ∧ has.length ≤ ch ∧ ch ≤ maxLen ∧ szOf ((w3.alloc (.cells #[.slice As ns cs, .slice t.A1 t.n1 t.c1, .slice (some a2) fits.length t.c2, .slice Av room.length cv, .slice (some ⟨Bh, 0, none⟩) t.nh ch] 80)).heap[Bh]?) = ch ∧
      TNew w { g := w3.heap.size, bh := Bh, s0 := .slice As ns cs, A1 := t.A1, n1 := t.n1, c1 := t.c1, A2 := some a2, c2 := t.c2, ra := t.ra, rc := t.rc, Ar := Av, cr := cv, nh := t.nh, ch := ch } fits room has
        (w3.alloc (.cells #[.slice As ns cs, .slice t.A1 t.n1 t.c1, .slice (some a2) fits.length t.c2, .slice Av room.length cv, .slice (some ⟨Bh, 0, none⟩) t.nh ch] 80)) := by
  have hoh := Kd.own_of_R hRh
  have hor := Kd.own_of_R hRr
  obtain ⟨Bh, rfl⟩ : ∃ Bh, Ah = some ⟨Bh, 0, none⟩ := by
    rcases hoh.2 with ⟨_, hz⟩ | ⟨g, _, _, e, _⟩
    · omega
    · injection e with e1
      exact ⟨g, e1⟩
  obtain ⟨hrow, hsz, _, hle, hmx, hbl⟩ := row_of_own hoh
  have hal := (Below.refl w3.heap.size w3).alloc (Nat.le_refl _) (.cells #[.slice As ns cs, .slice t.A1 t.n1 t.c1, .slice (some a2) fits.length t.c2, .slice Av room.length cv, .slice (some ⟨Bh, 0, none⟩) t.nh ch] 80)
  refine ⟨Bh, rfl, hle, hmx, ?_, World.alloc_heap_new _ _, hrow.below hal, ?_, ?_, ?_, rows, ?_, ?_, ⟨fit.slot, fit.room, fit.row, fit.finds, fit.ns, fit.nh⟩, len⟩
  · rw [hal.block Bh hrow.lt]; exact hsz
  · exact pw_own_below (pw_own_below (own_weaken hor hb2s) hbh) hal
  · intro e
    have := own_lt hor Bh e
    omega
  · exact (hb2.trans (hbh.mono hb2.size)).trans (hal.mono (Nat.le_trans hb2.size hbh.size))
  · exact Nat.le_trans hb2.size hbh.size
  · exact Nat.le_trans hb2.size hbl
theorem TNew.later {w0 w w' : World} {t : TL} {T : List (List Int)} {room has : List Int} (h : TNew w0 t T room has w) (hb : Below w.heap.size w w') : TNew w0 t T room has w' :=
  ⟨(hb.block t.g (Array.getElem?_eq_some_iff.1 h.gb).1).trans h.gb, h.row.below hb, pw_own_below h.own hb, h.ne, h.B.trans (hb.mono h.B.size), h.rows, h.gl, h.hl, h.fit, h.len⟩
/-- A find's slot is written. -/
theorem TNew.put {w0 w : World} {t : TL} {T : List (List Int)} {room has : List Int} (h : TNew w0 t T room has w) (i : Nat) (x : Int) :
    TNew w0 t T room (has.set i x) (w.setCell ⟨t.bh, i, none⟩ (.int .i64 x)) ∧ szOf ((w.setCell ⟨t.bh, i, none⟩ (.int .i64 x)).heap[t.bh]?) = szOf (w.heap[t.bh]?) := by
  have hgb : t.g ≠ t.bh := by
    intro e
    obtain ⟨cs, hc, _⟩ := h.row
    rw [← e, h.gb] at hc
    injection hc with hc
    injection hc with _ hc
    exact absurd hc (by decide)
  refine ⟨⟨(Below.heap_setCell _ _ _ _ hgb).trans h.gb, h.row.set i x, own_move h.own (fun k hk => Below.heap_setCell _ _ _ _ (fun e => h.ne (by rw [hk, e]))), h.ne, setCell_below h.B h.hl _, h.rows, h.gl, h.hl, h.fit, by rw [List.length_set]; exact h.len⟩, szOf_setCell _ _ _ _⟩
/-- The row of the finds' slots, as what is returned. -/
theorem row_result {w0 w : World} {bh nh ch : Nat} {has : List Int} (hrow : RowAt w bh 3 (Value.int .i64) has) (hsz : szOf (w.heap[bh]?) = ch) (hl : has.length = nh) (hle : nh ≤ ch) (hmx : ch ≤ maxLen) (hb : w0.heap.size ≤ bh) :
    Kd.R (Kd.int .i64) 3 w w0.heap.size (fun _ => True) (.slice (some ⟨bh, 0, none⟩) nh ch) has := by
  have := own_of_row hrow hsz hl hle hmx hb
  subst hl
  exact Kd.R_of_own (enc := Value.int .i64) (h1 := fun _ => rfl) (ok := fun _ => True) this (fun _ _ => trivial)
set_option maxRecDepth 100000 in
set_option maxHeartbeats 8000000 in
theorem with_calls (t : TL) (fits : List (List Int)) (room has : List Int) (find : Nat) (slot : Int) (w : World) (hfd : find < t.nh) (hG : TGood t fits room has w) :
    Calls Try.prog 67 #[.pointer (some ⟨t.g, 0, none⟩), .int .i64 find, .int .i64 slot] w (WithPost (withF fits room t.n1 has find slot) w) := by
  have hst := hG.st.still
  have f0 := hst.f0
  have f1 := hst.f1
  have f2 := hst.f2
  have f3 := hst.f3
  have f4 := hst.f4
  have hft : find < fits.length := by rw [hG.fit.finds]; exact hfd
  obtain ⟨a2, e2, hx, hC⟩ := hst.fits find hft
  have hcap := hG.caps find hft
  obtain ⟨rr, hrr⟩ : ∃ rr, withF fits room t.n1 has find slot = rr := ⟨_, rfl⟩
  rw [hrr]
  unfold withF at hrr
  obtain ⟨row, hrw⟩ : ∃ row, fits.getD find [] = row := ⟨_, rfl⟩
  have hslot := hG.fit.slot find hft
  rw [hrw] at hx hC hcap hrr hslot
  have CC := contains_calls (t.ra find) (t.rc find) row slot w hC hcap
  have HRR := Go.Lib.hid hrr
  have HG := Go.Lib.hid hG
  have HSL := Go.Lib.hid hslot
  rw [e2] at f2
  have HE2 := Go.Lib.hid e2
  have HF := Go.Lib.hid (And.intro f0 (And.intro f1 (And.intro f2 (And.intro f3 f4))))
  have hlf : (find : Int) < (fits.length : Int) := by omega
  have lFi : fits.length ≤ 1000 := by rw [hG.fit.finds]; exact hG.fit.nh
  clear hrr hG hC hst hrw hslot e2
  go_enter Try.func67, Try.ntmps67
  go_wp2_with fail
  refine CC.mono ?_
  clear CC
  rintro e w1 ⟨rfl, hd1⟩
  by_cases hin : slot ∈ row
  · rw [decide_eq_true hin]
    have hrr := HRR.out
    rw [if_neg (by simpa using hin)] at hrr
    have hb1 := hd1.below
    have g0 := pw_cell_below hb1 HF.out.1
    have g1 := pw_cell_below hb1 HF.out.2.1
    have g2 := pw_cell_below hb1 HF.out.2.2.1
    have g3 := pw_cell_below hb1 HF.out.2.2.2.1
    have g4 := pw_cell_below hb1 HF.out.2.2.2.2
    have hG := HG.out
    have hlr : room.length ≤ 1000 := by rw [hG.fit.room]; exact hG.fit.ns
    have hlh : t.nh ≤ 1000 := hG.fit.nh
    obtain ⟨As, ns, cs, es0⟩ := hG.s0
    rw [es0] at g0
    have HF0 := HF.out.1
    rw [es0] at HF0
    have HF0 := Go.Lib.hid HF0
    have HS0 := Go.Lib.hid es0
    clear es0
    have CR : ∀ W, Below w.heap.size w W → Calls Try.prog 88 #[.slice t.Ar room.length t.cr] W fun e w' => ∃ v, e = .returned v ∧ Kd.R (Kd.int .i64) 3 w' W.heap.size (fun _ => True) v room ∧ Below W.heap.size W w' := fun W hb =>
      copied_calls t.Ar t.cr room W (Kd.C_below hG.st.still.room hb) hG.capr hlr
    have CH : ∀ W, Below w.heap.size w W → Calls Try.prog 88 #[.slice (some ⟨t.bh, 0, none⟩) t.nh t.ch] W fun e w' => ∃ v, e = .returned v ∧ Kd.R (Kd.int .i64) 3 w' W.heap.size (fun _ => True) v has ∧ Below W.heap.size W w' := fun W hb => by
      have hC := C_of_row (hG.row.below hb) rfl (by rw [hG.len]; omega)
      have := copied_calls (some ⟨t.bh, 0, none⟩) t.ch has W hC (by rw [hG.len]; exact hG.caph) (by rw [hG.len]; exact hlh)
      rw [hG.len] at this
      exact this
    have hb0 : Below w.heap.size w w1.drew := hb1.drew
    have HRR := Go.Lib.hid hrr
    have HIN := Go.Lib.hid hin
    clear hrr hin hd1 hb1 hG f0 f1 f2 f3 f4 hx
    go_wp2_with fail
    go_region_held3 (fun w' => w'.cell? ⟨t.g, 0, none⟩ = some (.slice As ns cs) ∧ w'.cell? ⟨t.g, 1, none⟩ = some (.slice t.A1 t.n1 t.c1) ∧ w'.cell? ⟨t.g, 2, none⟩ = some (.slice (some a2) fits.length t.c2) ∧ w'.cell? ⟨t.g, 3, none⟩ = some (.slice t.Ar room.length t.cr) ∧ w'.cell? ⟨t.g, 4, none⟩ = some (.slice (some ⟨t.bh, 0, none⟩) t.nh t.ch) ∧ Below w.heap.size w w')
      (go_keep)
      (first
        | (go_at_call 88; refine (CR _ (by assumption)).mono ?_; rintro e w' ⟨vr, rfl, hRr, hbr⟩; obtain ⟨Av, cv, rfl, lv, _⟩ := Kd.R_reads hRr; have hb := Below.trans (‹Below w.heap.size w _›) (hbr.mono (Below.size ‹Below w.heap.size w _›)); have q0 := pw_cell_below hb HF0.out; have q1 := pw_cell_below hb HF.out.2.1; have q2 := pw_cell_below hb HF.out.2.2.1; have q3 := pw_cell_below hb HF.out.2.2.2.1; have q4 := pw_cell_below hb HF.out.2.2.2.2)
        | (go_at_call 88; refine (CH _ (by assumption)).mono ?_; rintro e w' ⟨vh, rfl, hRh, hbh⟩; obtain ⟨Ah, ch, rfl, lh, _⟩ := Kd.R_reads hRh; have hb := Below.trans (‹Below w.heap.size w _›) (hbh.mono (Below.size ‹Below w.heap.size w _›)); have hba : ∀ o, Below w.heap.size w (w'.alloc o) := fun o => hb.alloc hb.size o; have q0 := pw_cell_below hb HF0.out; have q1 := pw_cell_below hb HF.out.2.1; have q2 := pw_cell_below hb HF.out.2.2.1; have q3 := pw_cell_below hb HF.out.2.2.2.1; have q4 := pw_cell_below hb HF.out.2.2.2.2))
    obtain ⟨Bh, rfl, hle, hmx, hsz5, hN⟩ := copied_new (As := As) (ns := ns) (cs := cs) HG.out.fit (by rw [← HE2.out]; exact HG.out.st.still.fits) HG.out.len hfd (Below.trans (Below.drew (Below.refl _ _)) hbr |> fun h => hb0.trans (hbr.mono hb0.size)) hb0.size hRr hbh hRh
    have hlen := HG.out.len
    rw [hlen]
    have hlf1 : (find : Int) < (t.nh : Int) := by omega
    obtain ⟨W5, hW5⟩ : ∃ W5, w'.alloc (.cells #[.slice As ns cs, .slice t.A1 t.n1 t.c1, .slice (some a2) fits.length t.c2, .slice Av room.length cv, .slice (some ⟨Bh, 0, none⟩) t.nh ch] 80) = W5 := ⟨_, rfl⟩
    rw [hW5] at hN hsz5 ⊢
    obtain ⟨u, hug, hubh, hun1, hunh, huch, huAr, hucr, hNu⟩ : ∃ u : TL, u.g = w'.heap.size ∧ u.bh = Bh ∧ u.n1 = t.n1 ∧ u.nh = t.nh ∧ u.ch = ch ∧ u.Ar = Av ∧ u.cr = cv ∧ TNew w u fits room has W5 :=
      ⟨{ g := w'.heap.size, bh := Bh, s0 := .slice As ns cs, A1 := t.A1, n1 := t.n1, c1 := t.c1, A2 := some a2, c2 := t.c2, ra := t.ra, rc := t.rc, Ar := Av, cr := cv, nh := t.nh, ch := ch }, rfl, rfl, rfl, rfl, rfl, rfl, rfl, hN⟩
    obtain ⟨wg, hwg⟩ : ∃ wg, w'.heap.size = wg := ⟨_, rfl⟩
    rw [hwg] at hug ⊢
    clear hN
    have hN := hNu
    clear hNu
    subst hug hubh huch huAr hucr
    have c4 := cell_of_heap hN.gb (j := 4) rfl
    rw [hunh] at c4
    have cf := hN.row.cellD 0 (find : Int) (by omega) (by omega)
    rw [Int.toNat_natCast] at cf
    rw [hlen] at hle
    have hrm := HG.out.rooms slot.toNat
    have hrr := HRR.out
    obtain ⟨z, hz⟩ : ∃ z, has.getD find 0 = z := ⟨_, rfl⟩
    rw [hz] at hrr cf
    obtain ⟨jj, hjj, hje⟩ := List.getElem_of_mem HIN.out
    have hsb := HSL.out jj hjj
    rw [show row.getD jj 0 = slot from by rw [List.getD_eq_getElem?_getD, List.getElem?_eq_getElem hjj]; exact hje] at hsb
    obtain ⟨hs0, hs1⟩ := hsb
    have hrm := hrm (by omega)
    have hlr2 : (room.length : Int) = (t.n1 : Int) := by rw [HG.out.fit.room]
    have HN := Go.Lib.hid hN
    have HRR2 := Go.Lib.hid hrr
    have HSZ := Go.Lib.hid (And.intro hsz5 (And.intro hle (And.intro hmx (And.intro hun1 (And.intro hunh hlen)))))
    clear HRR hrr hN hsz5 hle hmx hun1 hunh hlen hz hwg hW5 hbr hbh hRr hRh lv lh hba hje hjj hb CR CH hb0
    clear q0 q1 q2 q3 q4 g0 g1 g2 g3 g4
    by_cases heq : z = slot
    · have hrr := HRR2.out
      rw [if_pos heq] at hrr
      have HR0 := Go.Lib.hid hrr
      subst heq
      clear hrr hrm
      go_wp2_with fail
      go_ret2
      rw [← HR0.out]
      exact ⟨_, rfl, row_result HN.out.row HSZ.out.1 HSZ.out.2.2.2.2.2 HSZ.out.2.1 HSZ.out.2.2.1 HN.out.hl, HN.out.B⟩
    · have g5 : (z == slot) = false := by simpa using heq
      have hrr := HRR2.out
      rw [if_neg heq] at hrr
      have fz := HN.out.row.frozen find
      obtain ⟨hN6, hsz6⟩ := HN.out.put find (-1)
      obtain ⟨Ab, eA, hc, hfz, hN7⟩ := hN6.set slot hs0 (by rw [hlr2]; exact hs1) (room.getD slot.toNat 0 - 1)
      have c3 := cell_of_heap hN6.gb (j := 3) rfl
      rw [eA] at c3
      have c46 := cell_of_heap hN6.gb (j := 4) rfl
      obtain ⟨v, hv⟩ : ∃ v, room.getD slot.toNat 0 = v := ⟨_, rfl⟩
      rw [hv] at hrm hc hN7 hrr
      obtain ⟨hv1, hv2⟩ := hrm
      have HRR3 := Go.Lib.hid hrr
      have HEA := Go.Lib.hid eA
      have hs2 : slot < (room.length : Int) := by rw [hlr2]; exact hs1
      have HN7 := Go.Lib.hid hN7
      have HSZ6 := Go.Lib.hid (hsz6.trans HSZ.out.1)
      clear heq hrr hN6 hN7 hsz6 eA hv hlr2
      go_wp2_with fail
      obtain ⟨W7, hW7⟩ : ∃ W7, (W5.setCell ⟨u.bh, find, none⟩ (.int .i64 (-1))).setCell ⟨Ab, slot.toNat, none⟩ (.int .i64 (v - 1)) = W7 := ⟨_, rfl⟩
      have hsz7 : szOf (W7.heap[u.bh]?) = u.ch := by rw [← hW7, szOf_setCell]; exact HSZ6.out
      have hN7 := HN7.out
      rw [hW7] at hN7 ⊢
      obtain ⟨h1, hh1⟩ : ∃ h1, has.set find (-1) = h1 := ⟨_, rfl⟩
      obtain ⟨room1, hro1⟩ : ∃ room1, room.set slot.toNat (v - 1) = room1 := ⟨_, rfl⟩
      have hlr1 : room1.length = room.length := by rw [← hro1]; simp
      have hrv : room1.getD slot.toNat 0 = v - 1 := by rw [← hro1]; simp [List.getD_eq_getElem?_getD, show slot.toNat < room.length by omega]
      have hrr := HRR3.out
      rw [hh1, hro1] at hN7
      rw [hh1, hro1, hrv] at hrr
      have hh1l : h1.length = t.nh := by rw [← hh1, List.length_set]; exact HSZ.out.2.2.2.2.2
      obtain ⟨Ab2, eA2, hc2, _, _⟩ := hN7.set slot hs0 (by rw [hlr1]; exact hs2) 0
      rw [HEA.out] at eA2
      injection eA2 with eA2
      injection eA2 with eA2
      subst eA2
      rw [hrv] at hc2
      have c3 := cell_of_heap hN7.gb (j := 3) rfl
      rw [HEA.out, hlr1] at c3
      have c4 := cell_of_heap hN7.gb (j := 4) rfl
      rw [HSZ.out.2.2.2.2.1] at c4
      have hz := hN7.row.ints
      have LC : ∀ W, Below W7.heap.size W7 W → Calls Try.prog 74 #[.pointer (some ⟨u.g, 0, none⟩), .int .i64 slot] W fun e w' => e = .returned (.int .i64 ((atOf h1 slot).length : Int)) ∧ Below W7.heap.size W7 w' := fun W hb => by
        refine (load_calls u.g (some ⟨u.bh, 0, none⟩) u.ch slot h1 (by rw [hh1l]; have := HG.out.fit.nh; omega) W (by rw [hh1l]; exact pw_cell_below hb c4) (hz.below hb)).mono ?_
        rintro e w' ⟨rfl, hb2⟩
        exact ⟨rfl, hb.trans (hb2.mono hb.size)⟩
      have hb0 : Below W7.heap.size W7 W7.drew := (Below.refl _ _).drew
      have HC7 := Go.Lib.hid (And.intro c3 hc2)
      have HN7' := Go.Lib.hid hN7
      have HSZ7 := Go.Lib.hid hsz7
      have HRO1 := Go.Lib.hid (And.intro hro1 (And.intro hh1l hlr1))
      have HZ := Go.Lib.hid hz
      rw [show ld h1 slot = ((atOf h1 slot).length : Int) from rfl] at hrr
      have HRR4 := Go.Lib.hid hrr
      clear hrr hh1 hro1 hlr1 hrv hh1l hN7 hsz7 hW7 c4 hz HN7 HSZ6 HRR3 HRR2 hc fz hfz c46
      by_cases hgt : v - 1 < ((atOf h1 slot).length : Int)
      · have g8 : decide (v - 1 < ((atOf h1 slot).length : Int)) = true := by simpa using hgt
        have hrr := HRR4.out
        rw [if_pos hgt] at hrr
        have HRR5 := Go.Lib.hid hrr
        have HGT := Go.Lib.hid hgt
        clear hrr hgt HRR4
        go_region_held3 (fun w' => w'.cell? ⟨u.g, 3, none⟩ = some (.slice (some ⟨Ab, 0, none⟩) room.length u.cr) ∧ w'.cell? ⟨Ab, slot.toNat, none⟩ = some (.int .i64 (v - 1)) ∧ Below W7.heap.size W7 w')
          (go_keep)
          (first
            | (go_at_call 74; refine (LC _ (by assumption)).mono ?_; rintro e w8 ⟨rfl, hb8⟩; have f3 := pw_cell_below hb8 HC7.out.1; have f4 := pw_cell_below hb8 HC7.out.2))
        have hN8 := HN7'.out.later hb8
        have c4 := cell_of_heap hN8.gb (j := 4) rfl
        rw [HSZ.out.2.2.2.2.1] at c4
        have hsz8 : szOf (w8.heap[u.bh]?) = u.ch := by rw [hb8.block u.bh HN7'.out.row.lt]; exact HSZ7.out
        have AC := at_calls (some ⟨u.g, 0, none⟩) slot w8
        have hB9 : Below w8.heap.size w8 ((w8.alloc (.cells #[.pointer (some ⟨u.g, 0, none⟩)] 68)).alloc (.cells #[.int .i64 slot] 3)) := ((Below.refl _ w8).alloc (Nat.le_refl _) _).alloc (by simp) _
        have bT := ((Boxed.new w8 68 (.pointer (some ⟨u.g, 0, none⟩))).alloc (.cells #[.int .i64 slot] 3)).cell
        have bS := (Boxed.new (w8.alloc (.cells #[.pointer (some ⟨u.g, 0, none⟩)] 68)) 3 (.int .i64 slot)).cell
        simp only [World.size_alloc] at bS
        have CO := collect_in w8.heap.size (w8.heap.size + 1) u.g (some ⟨u.bh, 0, none⟩) u.ch slot h1 (by rw [HRO1.out.2.1]; have := HG.out.fit.nh; omega) _ bT bS (by rw [HRO1.out.2.1]; exact pw_cell_below hB9 c4) (hN8.row.below hB9).ints
        have HN8 := Go.Lib.hid hN8
        have HB9 := Go.Lib.hid hB9
        have HSZ8 := Go.Lib.hid hsz8
        clear hN8 c4 hsz8 hB9 bT bS hb8 f3 f4 LC hb0
        go_wp2_with fail
        refine AC.mono ?_
        clear AC
        rintro e w9 ⟨rfl, rfl⟩
        go_wp2_with fail
        refine CO.mono ?_
        clear CO
        rintro e w10 ⟨vl, rfl, ho, hb10⟩
        generalize (w8.alloc (.cells #[.pointer (some ⟨u.g, 0, none⟩)] 68)).alloc (.cells #[.int .i64 slot] 3) = w9 at *
        have hN10 := (HN8.out.later HB9.out).later hb10
        have hsz10 : szOf (w10.heap[u.bh]?) = u.ch := by
          rw [hb10.block u.bh (HN8.out.later HB9.out).row.lt, HB9.out.block u.bh HN8.out.row.lt]
          exact HSZ8.out
        obtain ⟨gs, hgs⟩ : ∃ gs, atOf h1 slot = gs := ⟨_, rfl⟩
        rw [hgs] at ho
        have hgt := HGT.out
        rw [hgs] at hgt
        have hrr := HRR5.out
        rw [hgs] at hrr
        obtain ⟨gn, rest, hgr, hgl⟩ : ∃ (gn : Nat) (rest : List Int), gs = (gn : Int) :: rest ∧ gn < h1.length := by
          cases hgc : gs with
          | nil => rw [hgc] at hgt; simp at hgt; omega
          | cons a rest =>
            have hm : a ∈ atOf h1 slot := by rw [hgs, hgc]; simp
            have := mem_atOf.1 hm
            exact ⟨a.toNat, rest, by rw [show ((a.toNat : Nat) : Int) = a by omega], by omega⟩
        rw [hgr] at ho hrr
        have hrr : (if (giveR fits room1 t.n1 (gn : Int) (h1.set gn (-1))).ok = true then (⟨true, (giveR fits room1 t.n1 (gn : Int) (h1.set gn (-1))).has.set find slot⟩ : WR) else ⟨false, []⟩) = rr := by
          simpa using hrr
        obtain ⟨Al, cl, rfl, _, hCl⟩ := Kd.R_reads (Kd.R_of_own (enc := Value.int .i64) (h1 := fun _ => rfl) (ok := fun _ => True) ho (fun _ _ => trivial))
        obtain ⟨al, eal, xl⟩ := Kd.at_int hCl (0 : Int) (by omega) (by simp)
        have xl : w10.cell? al = some (.int .i64 (gn : Int)) := by
          have : w10.cell? (al.add (0 : Int).toNat) = some (.int .i64 (gn : Int)) := xl
          simpa [Addr.add] using this
        have hlen0 : (0 : Int) < (((gn : Int) :: rest).length : Int) := by simp
        have c4 := cell_of_heap hN10.gb (j := 4) rfl
        rw [HSZ.out.2.2.2.2.1] at c4
        have fzg := hN10.row.frozen gn
        have cfg := hN10.row.cellD 0 (gn : Int) (by omega) (by omega)
        rw [Int.toNat_natCast] at cfg
        have hgl2 : (gn : Int) < (t.nh : Int) := by rw [HRO1.out.2.1] at hgl; omega
        obtain ⟨hN11, hsz11⟩ := hN10.put gn (-1)
        have GC := give_calls u fits room1 hN11.fit gn (by rw [HSZ.out.2.2.2.2.1]; omega) (h1.set gn (-1)) hN11.len _ hN11.stands hN11.row
        rw [HSZ.out.2.2.2.1] at GC
        obtain ⟨r, hr⟩ : ∃ r, giveR fits room1 t.n1 (gn : Int) (h1.set gn (-1)) = r := ⟨_, rfl⟩
        rw [hr] at GC hrr
        have hrl : r.has.length = t.nh := by rw [← hr, giveR_len, List.length_set]; exact HRO1.out.2.1
        have HRL := Go.Lib.hid hrl
        have HRR6 := Go.Lib.hid hrr
        have HN11 := Go.Lib.hid hN11
        have HSZ11 := Go.Lib.hid (hsz11.trans hsz10)
        subst eal
        clear hrr HRR5 hgt HGT hgs hgr ho hCl hN10 hsz10 hN11 hsz11 hr hrl hb10 HB9 HN8 HSZ8
        go_wp2_with fail
        unfold GivePost at GC
        obtain ⟨ok, hok⟩ : ∃ ok, r.ok = ok := ⟨_, rfl⟩
        rw [hok] at GC
        have hrr := HRR6.out
        rw [hok] at hrr
        clear hok
        cases ok with
        | false =>
          rw [if_neg (by simp)] at hrr
          subst hrr
          refine GC.mono ?_
          clear GC
          rintro e w12 ⟨vh, rfl, hag, _, _⟩
          have hB12 := hag.below HN11.out.B HN11.out.B.size HN11.out.hl HN11.out.hl
          have HB12 := Go.Lib.hid hB12
          clear hag hB12
          go_wp2_with fail
          go_ret2
          exact ⟨_, rfl, Kd.R_nil _ _ _ _ _, HB12.out⟩
        | true =>
          rw [if_pos rfl] at hrr
          have HRR7 := Go.Lib.hid hrr
          clear hrr
          refine GC.mono ?_
          clear GC
          rintro e w12 ⟨vh, rfl, hag, hrow12, _⟩
          have hB12 := hag.below HN11.out.B HN11.out.B.size HN11.out.hl HN11.out.hl
          have hst12 := (HN11.out.stands.later hag).still
          have c4 := hst12.f4
          rw [HSZ.out.2.2.2.2.1] at c4
          have fz := hrow12.frozen find
          have cf12 := hrow12.cellD 0 (find : Int) (by omega) (by rw [HRL.out]; exact hlf1)
          rw [Int.toNat_natCast] at cf12
          have hag13 : Agree u.bh u.bh w12 (w12.setCell ⟨u.bh, find, none⟩ (.int .i64 slot)) := Agree.set1 _ _ _
          have c413 := ((HN11.out.stands.later hag).later hag13).still.f4
          rw [HSZ.out.2.2.2.2.1] at c413
          have hrow13 := hrow12.set find slot
          have hsz13 : szOf ((w12.setCell ⟨u.bh, find, none⟩ (.int .i64 slot)).heap[u.bh]?) = u.ch := by
            rw [szOf_setCell, hag.cells u.bh HN11.out.row.lt]
            exact HSZ11.out
          have hB13 := setCell_below hB12 HN11.out.hl (p := ⟨u.bh, find, none⟩) (.int .i64 slot)
          have HROW13 := Go.Lib.hid hrow13
          have HSZ13 := Go.Lib.hid hsz13
          have HB13 := Go.Lib.hid hB13
          clear hag hB12 hst12 hag13 hrow13 hsz13 hB13 hrow12
          go_wp2_with fail
          go_ret2
          rw [← HRR7.out]
          exact ⟨_, rfl, row_result HROW13.out HSZ13.out (by rw [List.length_set]; exact HRL.out) HSZ.out.2.1 HSZ.out.2.2.1 HN11.out.hl, HB13.out⟩
      · have g8 : decide (v - 1 < ((atOf h1 slot).length : Int)) = false := by simpa using hgt
        have hrr := HRR4.out
        rw [if_neg hgt] at hrr
        have HRR5 := Go.Lib.hid hrr
        clear hrr hgt HRR4
        go_region_held3 (fun w' => w'.cell? ⟨u.g, 3, none⟩ = some (.slice (some ⟨Ab, 0, none⟩) room.length u.cr) ∧ w'.cell? ⟨Ab, slot.toNat, none⟩ = some (.int .i64 (v - 1)) ∧ Below W7.heap.size W7 w')
          (go_keep)
          (first
            | (go_at_call 74; refine (LC _ (by assumption)).mono ?_; rintro e w8 ⟨rfl, hb8⟩; have f3 := pw_cell_below hb8 HC7.out.1; have f4 := pw_cell_below hb8 HC7.out.2))
        have hN8 := HN7'.out.later hb8
        have c4 := cell_of_heap hN8.gb (j := 4) rfl
        rw [HSZ.out.2.2.2.2.1] at c4
        have fz := hN8.row.frozen find
        have hlh1 : (find : Int) < (h1.length : Int) := by rw [HRO1.out.2.1]; exact hlf1
        obtain ⟨hN9, hsz9⟩ := hN8.put find slot
        have c49 := cell_of_heap hN9.gb (j := 4) rfl
        rw [HSZ.out.2.2.2.2.1] at c49
        have cf8 := hN8.row.cellD 0 (find : Int) (by omega) hlh1
        rw [Int.toNat_natCast] at cf8
        have hsz10 := hsz9.trans ((by rw [hb8.block u.bh HN7'.out.row.lt]; exact HSZ7.out : szOf (w8.heap[u.bh]?) = u.ch))
        have HN9 := Go.Lib.hid hN9
        have HSZ10 := Go.Lib.hid hsz10
        clear hN8 hN9 hsz9 hsz10 hb8 f3 f4
        go_wp2_with fail
        go_ret2
        rw [← HRR5.out]
        exact ⟨_, rfl, row_result HN9.out.row HSZ10.out (by rw [List.length_set]; exact HRO1.out.2.1) HSZ.out.2.1 HSZ.out.2.2.1 HN9.out.hl, HN9.out.B⟩
  · rw [decide_eq_false hin]
    have hrr := HRR.out
    rw [if_pos hin] at hrr
    subst hrr
    have HB := Go.Lib.hid hd1.below
    clear hin hd1 HRR
    go_wp2_with fail
    go_ret2
    exact ⟨_, rfl, Kd.R_nil _ _ _ _ _, HB.out⟩
end Go.Proofs.Ytkmmihadcbfkoaa
end

section
namespace Go.Proofs.Ytkmmihadcbfkoaa
open Go.RowKit Go.Proofs.YtkmmihadcbfkoaaW.PrintWords PM
set_option linter.unusedVariables false
set_option linter.unusedSimpArgs false
/-- What filling from nothing comes to, the board being as said. -/
def hallR (F : List Int) (S : List S50) (T : List (List Int)) (out : Int) (room : List Int) : FR := fillF T room S.length out (List.replicate F.length (-1))
def PM.match_Hall.f (F : List Int) (S : List S50) (T : List (List Int)) : Option (List Int × Bool × Int) :=
  if checkB F S T ≠ 0 then some ([], false, checkB F S T) else some ((hallR F S T (-1) (rooms S)).hall, !(hallR F S T (-1) (rooms S)).ok, 0)
theorem R_nil (w : World) (b : Nat) : Kd.R (Kd.int .i64) 3 w b (fun _ => True) (.slice none 0 0) [] :=
  Kd.R_of_own (enc := Value.int .i64) (h1 := fun _ => rfl) (ok := fun _ => True) (World.ownsRow_nil w b 3 1) (fun _ _ => trivial)
/-- What is new memory of list, bool and error, of world w. -/
def LBE (l : List Int) (b : Bool) (e : Int) (w : World) (en : Ending) (w' : World) : Prop :=
  ∃ v0_ : Value, en = .returned (.tuple #[v0_, .bool b, .int .i64 e]) ∧ Kd.R (Kd.int .i64) 3 w' w.heap.size (fun _ => True) v0_ l ∧ Below w.heap.size w w'
set_option maxRecDepth 100000 in
set_option maxHeartbeats 8000000 in
theorem hall_walk (A0 : Option Addr) (c0 : Nat) (F : List Int) (A1 : Option Addr) (c1 : Nat) (S : List S50) (A2 : Option Addr) (c2 : Nat) (T : List (List Int)) (r1 : List Int) (r2 : Bool) (r3 : Int) (w : World)
    (hr0 : Kd.C (Kd.int .i64) w A0 F.length F) (hc0 : F.length ≤ c0) (hr1 : Kd.C k50 w A1 S.length S) (hr2 : Kd.C (Kd.slice 3 (Kd.int .i64)) w A2 T.length T) (h : match_Hall.f F S T = some (r1, r2, r3)) :
    Calls Try.prog 38 #[.agg #[.slice A0 F.length c0, .slice A1 S.length c1, .slice A2 T.length c2]] w (LBE r1 r2 r3 w) := by
  have hB0 := (Below.refl w.heap.size w).alloc (Nat.le_refl _) (.cells #[.slice A0 F.length c0, .slice A1 S.length c1, .slice A2 T.length c2] 26)
  have CB := checkboard_calls A0 c0 F A1 c1 S A2 c2 T _ (Kd.C_below hr0 hB0) hc0 (Kd.C_below hr1 hB0) (Kd.C_below hr2 hB0)
  unfold match_Hall.f at h
  obtain ⟨q, hq⟩ : ∃ q, checkB F S T = q := ⟨_, rfl⟩
  rw [hq] at h CB
  have HB0 := Go.Lib.hid hB0
  have HR := Go.Lib.hid (And.intro hr1 hr2)
  have HQ := Go.Lib.hid hq
  have HH := Go.Lib.hid h
  clear hr0 hr1 hr2 hB0 hq h
  go_enter Try.func38, Try.ntmps38
  go_wp2_with fail
  refine CB.mono ?_
  clear CB
  rintro e w1 ⟨rfl, hB1⟩
  have b1 : w1.heap[w.heap.size]? = some (.cells #[.slice A0 F.length c0, .slice A1 S.length c1, .slice A2 T.length c2] 26 (0, 0)) := by
    rw [hB1.block w.heap.size (by simp)]
    exact World.alloc_heap_new w _
  have hW1 : Below w.heap.size w w1 := HB0.out.trans (hB1.mono HB0.out.size)
  have k0 := cell_of_heap b1 (j := 0) rfl
  have k1 := cell_of_heap b1 (j := 1) rfl
  have k2 := cell_of_heap b1 (j := 2) rfl
  have HW1 := Go.Lib.hid hW1
  clear hB1 b1 hW1
  by_cases hq0 : q = 0
  · subst hq0
    have hk := bok_of_check HQ.out
    have TC := tried_calls2 A0 c0 F A1 c1 S A2 c2 T w1 hk (Kd.C_below HR.out.1 HW1.out) (Kd.C_below HR.out.2 HW1.out)
    have hf := HH.out
    rw [if_neg (by simp)] at hf
    injection hf with hf
    obtain ⟨rr, hrr⟩ : ∃ rr, hallR F S T (-1) (rooms S) = rr := ⟨_, rfl⟩
    rw [hrr] at hf
    injection hf with hf1 hf
    injection hf with hf2 hf3
    subst hf2 hf3
    have HRR := Go.Lib.hid hrr
    have HF1 := Go.Lib.hid hf1
    clear hk hrr hf1 HH HQ
    go_wp2_with fail
    refine TC.mono ?_
    clear TC
    rintro e w2 ⟨t, rfl, e1, e2, e3, hT, hB, _⟩
    have FC := fill_calls t T (rooms S) hT.fit (-1) _ hT.len w2 hT.st hT.row
    rw [e1, show fillF T (rooms S) S.length (-1) (List.replicate F.length (-1)) = rr from HRR.out] at FC
    have HT := Go.Lib.hid hT
    have HB := Go.Lib.hid hB
    clear hT hB e1 e2 e3
    go_wp2_with fail
    refine FC.mono ?_
    clear FC
    rintro e w3 ⟨v, rfl, hag, _, how⟩
    have HAG := Go.Lib.hid hag
    have HOW := Go.Lib.hid how
    clear hag how
    go_wp2_with fail
    go_ret3
    have hb2 : Below w.heap.size w w2 := HW1.out.trans (HB.out.mono HW1.out.size)
    have hbl : w.heap.size ≤ t.bh := Nat.le_trans HW1.out.size HT.out.bl
    refine ⟨v, rfl, ?_, HAG.out.below hb2 hb2.size hbl hbl⟩
    rw [← HF1.out]
    exact Kd.R_of_own (enc := Value.int .i64) (h1 := fun _ => rfl) (ok := fun _ => True) (own_weaken HOW.out hb2.size) (fun _ _ => trivial)
  · have g9 : decide (q = 0) = false := by simpa using hq0
    have hf := HH.out
    rw [if_pos hq0] at hf
    injection hf with hf
    injection hf with hf1 hf
    injection hf with hf2 hf3
    subst hf1 hf2 hf3
    go_wp2_with fail
    go_ret3
    exact ⟨_, rfl, R_nil _ _, HW1.out⟩
theorem PM.match_Hall.calls (A0 : Option Addr) (c0 : Nat) (F : List Int) (A1 : Option Addr) (c1 : Nat) (S : List S50) (A2 : Option Addr) (c2 : Nat) (T : List (List Int)) (r1 : List Int) (r2 : Bool) (r3 : Int) (w : World)
    (hr0 : Kd.C (Kd.int .i64) w A0 F.length F) (hc0 : F.length ≤ c0) (hr1 : Kd.C k50 w A1 S.length S) (hc1 : S.length ≤ c1) (hr2 : Kd.C (Kd.slice 3 (Kd.int .i64)) w A2 T.length T) (hc2 : T.length ≤ c2) (h : match_Hall.f F S T = some (r1, r2, r3)) :
    Calls Try.prog 38 #[.agg #[.slice A0 F.length c0, .slice A1 S.length c1, .slice A2 T.length c2]] w (LBE r1 r2 r3 w) := hall_walk A0 c0 F A1 c1 S A2 c2 T r1 r2 r3 w hr0 hc0 hr1 hr2 h
end Go.Proofs.Ytkmmihadcbfkoaa
end
