/-
  MatchLoads holds: for every board, list and slot, the law returns true and what it is given reads as it did. (part 5 of 6 of the texts that it stands on)
-/
import Derived.Laws.EntriesVeiled
import Derived.WalkMore
import Derived.Deep.RegionHeld3
import Derived.Test.YtkmmihadcbfkoaaZLoadsd
section
namespace Go.Proofs.Ytkmmihadcbfkoaa.PM
open Go.RowKit Go.Proofs.YtkmmihadcbfkoaaW.PrintWords Go.Proofs.YtkmmihadcbfkoaaW.PrintLast Go.Proofs.YtkmmihadcbfkoaaW.PrintMore
set_option linter.unusedVariables false
set_option linter.unusedSimpArgs false
mutual
def laganref04_short.l0 : Nat → List Int → Int → List Bool → Int → List Int → List (S50) → List (List Int) → Option (Bool)
 | 0, _, _, _, _, _, _, _ => none
 | k + 1, x1, x2, x7, x8, x427000, x427001, x427002 => if x8 < (x1.length : Int) then (if 0 ≤ x8 then (if 0 ≤ (rd x1 x8) then (if (rd x1 x8) < (x427002.length : Int) then (if ((rd_L1 x427002 (rd x1 x8)).length : Int) = 0 then (some false) else (laganref04_short.l1 k x1 x2 x7 x8 0 x427000 x427001 x427002)) else (none)) else (none)) else (none)) else (laganref04_short.l2 k x1 x2 x7 0 0 x427000 x427001 x427002)
def laganref04_short.l1 : Nat → List Int → Int → List Bool → Int → Int → List Int → List (S50) → List (List Int) → Option (Bool)
 | 0, _, _, _, _, _, _, _, _ => none
 | k + 1, x1, x2, x7, x8, x9, x427000, x427001, x427002 => if 0 ≤ x8 then (if x8 < (x1.length : Int) then (if 0 ≤ (rd x1 x8) then (if (rd x1 x8) < (x427002.length : Int) then (if x9 < ((rd_L1 x427002 (rd x1 x8)).length : Int) then (if 0 ≤ x9 then (if 0 ≤ (rd (rd_L1 x427002 (rd x1 x8)) x9) then (if (rd (rd_L1 x427002 (rd x1 x8)) x9) < (x7.length : Int) then (laganref04_short.l1 k x1 x2 (x7.set ((rd (rd_L1 x427002 (rd x1 x8)) x9) : Int).toNat true) x8 (wrap64 (x9 + 1)) x427000 x427001 x427002) else (none)) else (none)) else (none)) else (laganref04_short.l0 k x1 x2 x7 (wrap64 (x8 + 1)) x427000 x427001 x427002)) else (none)) else (none)) else (none)) else (none)
def laganref04_short.l2 : Nat → List Int → Int → List Bool → Int → Int → List Int → List (S50) → List (List Int) → Option (Bool)
 | 0, _, _, _, _, _, _, _, _ => none
 | k + 1, x1, x2, x7, x10, x11, x427000, x427001, x427002 => if x11 < (x7.length : Int) then (if 0 ≤ x11 then (if rdOf false x7 x11 = true then (if x11 < (x427001.length : Int) then (if x11 = x2 then (laganref04_short.l2 k x1 x2 x7 (wrap64 ((wrap64 (x10 + ((rd_T50 x427001 x11).f2))) - 1)) (wrap64 (x11 + 1)) x427000 x427001 x427002) else (laganref04_short.l2 k x1 x2 x7 (wrap64 (x10 + ((rd_T50 x427001 x11).f2))) (wrap64 (x11 + 1)) x427000 x427001 x427002)) else (none)) else (laganref04_short.l2 k x1 x2 x7 x10 (wrap64 (x11 + 1)) x427000 x427001 x427002)) else (none)) else (some (decide (x10 < (x1.length : Int))))
end
def laganref04_short.f (k : Nat) (l0_0 : List Int) (l0_1 : List (S50)) (l0_2 : List (List Int)) (l1 : List Int) (a2 : Int) : Option (Bool) := (laganref04_ascending.f k l1 (l0_0.length : Int)).bind fun t427 => (if t427 = true then (if 0 ≤ (l0_1.length : Int) then (if ((l0_1.length : Int) : Int).toNat ≤ 281474976710656 then (laganref04_short.l0 k l1 a2 (List.replicate ((l0_1.length : Int) : Int).toNat false) 0 l0_0 l0_1 l0_2) else (none)) else (none)) else (some false))
theorem laganref04_short.mono_l : ∀ k, (∀ y0 y1 y2 y3 y4 y5 y6, LeO (laganref04_short.l0 k y0 y1 y2 y3 y4 y5 y6) (laganref04_short.l0 (k + 1) y0 y1 y2 y3 y4 y5 y6)) ∧ (∀ y0 y1 y2 y3 y4 y5 y6 y7, LeO (laganref04_short.l1 k y0 y1 y2 y3 y4 y5 y6 y7) (laganref04_short.l1 (k + 1) y0 y1 y2 y3 y4 y5 y6 y7)) ∧ (∀ y0 y1 y2 y3 y4 y5 y6 y7, LeO (laganref04_short.l2 k y0 y1 y2 y3 y4 y5 y6 y7) (laganref04_short.l2 (k + 1) y0 y1 y2 y3 y4 y5 y6 y7))
 | 0 => ⟨fun _ _ _ _ _ _ _ r h => by simp [laganref04_short.l0] at h, fun _ _ _ _ _ _ _ _ r h => by simp [laganref04_short.l1] at h, fun _ _ _ _ _ _ _ _ r h => by simp [laganref04_short.l2] at h⟩
 | k + 1 => by
  obtain ⟨ih0, ih1, ih2⟩ := laganref04_short.mono_l k
  refine ⟨?_, ?_, ?_⟩
  ·
   intro y0 y1 y2 y3 y4 y5 y6
   unfold laganref04_short.l0
   repeat' first
   | (with_reducible exact ih0 _ _ _ _ _ _ _)
   | (with_reducible exact ih1 _ _ _ _ _ _ _ _)
   | (with_reducible exact ih2 _ _ _ _ _ _ _ _)
   | (with_reducible exact laganref04_ascending.mono _ _ _)
   | (with_reducible exact LeO.refl _)
   | (with_reducible exact LeO.none _)
   | (with_reducible refine LeO.ite ?_ ?_)
   | (with_reducible refine LeO.bind ?_ (fun _ => ?_))
   | exact ih0 _ _ _ _ _ _ _
   | exact ih1 _ _ _ _ _ _ _ _
   | exact ih2 _ _ _ _ _ _ _ _
   | exact laganref04_ascending.mono _ _ _
   | exact LeO.none _
   | refine LeO.ite ?_ ?_
   | refine LeO.bind ?_ (fun _ => ?_)
  ·
   intro y0 y1 y2 y3 y4 y5 y6 y7
   unfold laganref04_short.l1
   repeat' first
   | (with_reducible exact ih0 _ _ _ _ _ _ _)
   | (with_reducible exact ih1 _ _ _ _ _ _ _ _)
   | (with_reducible exact ih2 _ _ _ _ _ _ _ _)
   | (with_reducible exact laganref04_ascending.mono _ _ _)
   | (with_reducible exact LeO.refl _)
   | (with_reducible exact LeO.none _)
   | (with_reducible refine LeO.ite ?_ ?_)
   | (with_reducible refine LeO.bind ?_ (fun _ => ?_))
   | exact ih0 _ _ _ _ _ _ _
   | exact ih1 _ _ _ _ _ _ _ _
   | exact ih2 _ _ _ _ _ _ _ _
   | exact laganref04_ascending.mono _ _ _
   | exact LeO.none _
   | refine LeO.ite ?_ ?_
   | refine LeO.bind ?_ (fun _ => ?_)
  ·
   intro y0 y1 y2 y3 y4 y5 y6 y7
   unfold laganref04_short.l2
   repeat' first
   | (with_reducible exact ih0 _ _ _ _ _ _ _)
   | (with_reducible exact ih1 _ _ _ _ _ _ _ _)
   | (with_reducible exact ih2 _ _ _ _ _ _ _ _)
   | (with_reducible exact laganref04_ascending.mono _ _ _)
   | (with_reducible exact LeO.refl _)
   | (with_reducible exact LeO.none _)
   | (with_reducible refine LeO.ite ?_ ?_)
   | (with_reducible refine LeO.bind ?_ (fun _ => ?_))
   | exact ih0 _ _ _ _ _ _ _
   | exact ih1 _ _ _ _ _ _ _ _
   | exact ih2 _ _ _ _ _ _ _ _
   | exact laganref04_ascending.mono _ _ _
   | exact LeO.none _
   | refine LeO.ite ?_ ?_
   | refine LeO.bind ?_ (fun _ => ?_)
theorem laganref04_short.mono : ∀ a0 a1 a2 a3 a4 k, LeO (laganref04_short.f k a0 a1 a2 a3 a4) (laganref04_short.f (k + 1) a0 a1 a2 a3 a4) := by
 intro a0 a1 a2 a3 a4 k
 obtain ⟨ih0, ih1, ih2⟩ := laganref04_short.mono_l k
 unfold laganref04_short.f
 repeat' first
   | (with_reducible exact ih0 _ _ _ _ _ _ _)
   | (with_reducible exact ih1 _ _ _ _ _ _ _ _)
   | (with_reducible exact ih2 _ _ _ _ _ _ _ _)
   | (with_reducible exact laganref04_ascending.mono _ _ _)
   | (with_reducible exact LeO.refl _)
   | (with_reducible exact LeO.none _)
   | (with_reducible refine LeO.ite ?_ ?_)
   | (with_reducible refine LeO.bind ?_ (fun _ => ?_))
   | exact ih0 _ _ _ _ _ _ _
   | exact ih1 _ _ _ _ _ _ _ _
   | exact ih2 _ _ _ _ _ _ _ _
   | exact laganref04_ascending.mono _ _ _
   | exact LeO.none _
   | refine LeO.ite ?_ ?_
   | refine LeO.bind ?_ (fun _ => ?_)
def laganref04_short.T7 : Bool × List (List Nat × List Nat) := (true, [([], []), ([0], [0]), ([], []), ([], []), ([2, 3], [2, 3]), ([4], [4]), ([1, 5], [1, 5]), ([6], [6]), ([7], [7]), ([8], [8])])
def laganref04_short.B7 : List Nat := [0, 1, 0, 0, 12, 28, 63, 127, 255, 511]
theorem laganref04_short.tab7 : rtab .any (opsOf Try.f73 7) = laganref04_short.T7 := by kernel_rfl
theorem laganref04_short.bits7 : waitsOk laganref04_short.T7.2 laganref04_short.B7 = true := by kernel_rfl
def laganref04_short.T10 : Bool × List (List Nat × List Nat) := (true, [([], []), ([], []), ([1], [1]), ([], []), ([], []), ([3, 4], [3, 4]), ([5], [5]), ([2, 6], [2, 6]), ([7], [7]), ([8], [8]), ([0, 9], [0, 9])])
def laganref04_short.B10 : List Nat := [0, 0, 2, 0, 0, 24, 56, 126, 254, 510, 1023]
theorem laganref04_short.tab10 : rtab .any (opsOf Try.f73 10) = laganref04_short.T10 := by kernel_rfl
theorem laganref04_short.bits10 : waitsOk laganref04_short.T10.2 laganref04_short.B10 = true := by kernel_rfl
def laganref04_short.T12 : Bool × List (List Nat × List Nat) := (true, [([], []), ([], []), ([1], [1]), ([], []), ([], []), ([3, 4], [3, 4]), ([5], [5]), ([2, 6], [2, 6]), ([7], [7]), ([], []), ([8, 9], [8, 9]), ([10], [10]), ([0, 11, 0, 1, 2, 3, 4, 5, 6, 7, 8, 9, 10, 11], [0, 11]), ([12, 0, 1, 2, 3, 4, 5, 6, 7, 8, 9, 10, 11], [12])])
def laganref04_short.B12 : List Nat := [0, 0, 2, 0, 0, 24, 56, 126, 254, 0, 1022, 2046, 4095, 8191]
theorem laganref04_short.tab12 : rtab .any (opsOf Try.f73 12) = laganref04_short.T12 := by kernel_rfl
theorem laganref04_short.bits12 : waitsOk laganref04_short.T12.2 laganref04_short.B12 = true := by kernel_rfl
set_option maxHeartbeats 8000000 in
set_option maxRecDepth 100000 in
theorem laganref04_short.calls (k : Nat) (A0_0 : Option Addr) (c0_0 : Nat) (l0_0 : List Int) (A0_1 : Option Addr) (c0_1 : Nat) (l0_1 : List (S50)) (A0_2 : Option Addr) (c0_2 : Nat) (l0_2 : List (List Int)) (A1 : Option Addr) (c1 : Nat) (l1 : List Int) (a2 : Int) (r : Bool) (w : World) (hr0_0 : Kd.C (Kd.int .i64) w A0_0 l0_0.length l0_0) (hc0_0 : l0_0.length ≤ c0_0) (hr0_1 : Kd.C k50 w A0_1 l0_1.length l0_1) (hc0_1 : l0_1.length ≤ c0_1) (hr0_2 : Kd.C (Kd.slice 3 (Kd.int .i64)) w A0_2 l0_2.length l0_2) (hc0_2 : l0_2.length ≤ c0_2) (hr1 : Kd.C (Kd.int .i64) w A1 l1.length l1) (hc1 : l1.length ≤ c1) (h : laganref04_short.f k l0_0 l0_1 l0_2 l1 a2 = some r) :
  Calls Try.prog 73 #[.agg #[.slice A0_0 l0_0.length c0_0, .slice A0_1 l0_1.length c0_1, .slice A0_2 l0_2.length c0_2], .slice A1 l1.length c1, .int .i64 a2] w fun e w' => e = .returned (.bool r) ∧ Below w.heap.size w w' := by
 have hu26 := Try.underlying26
 have HR0_0 := Aside0.mk hr0_0
 have HC0_0 := Aside0.mk hc0_0
 clear hr0_0 hc0_0
 have HR0_1 := Aside0.mk hr0_1
 have HC0_1 := Aside0.mk hc0_1
 clear hr0_1 hc0_1
 have HR0_2 := Aside0.mk hr0_2
 have HC0_2 := Aside0.mk hc0_2
 clear hr0_2 hc0_2
 have HR1 := Aside0.mk hr1
 have HC1 := Aside0.mk hc1
 clear hr1 hc1
 have HB := Aside0.mk (Below.refl w.heap.size w)
 have H : ((laganref04_ascending.f k l1 (l0_0.length : Int)).bind fun t427 => (if t427 = true then (if 0 ≤ (l0_1.length : Int) then (if ((l0_1.length : Int) : Int).toNat ≤ 281474976710656 then (laganref04_short.l0 k l1 a2 (List.replicate ((l0_1.length : Int) : Int).toNat false) 0 l0_0 l0_1 l0_2) else (none)) else (none)) else (some false))) = some r := h
 clear h
 replace H := Option.bind_eq_some_iff.mp H
 obtain ⟨t427, A40, H⟩ := H
 replace H : (if t427 = true then (if 0 ≤ (l0_1.length : Int) then (if ((l0_1.length : Int) : Int).toNat ≤ 281474976710656 then (laganref04_short.l0 k l1 a2 (List.replicate ((l0_1.length : Int) : Int).toNat false) 0 l0_0 l0_1 l0_2) else (none)) else (none)) else (some false)) = some r := H
 have A4 := Aside0.mk A40
 clear A40
 by_cases c5 : t427 = true
 ·
  subst c5
  have H1 : (if 0 ≤ (l0_1.length : Int) then (if ((l0_1.length : Int) : Int).toNat ≤ 281474976710656 then (laganref04_short.l0 k l1 a2 (List.replicate ((l0_1.length : Int) : Int).toNat false) 0 l0_0 l0_1 l0_2) else (none)) else (none)) = some r := by rw [if_pos rfl] at H; exact H
  clear H
  have H := H1
  clear H1
  by_cases c6 : 0 ≤ (l0_1.length : Int)
  ·
   rw [if_pos c6] at H
   have c6b0 := eq_true c6
   have c6b1 : decide (0 ≤ (l0_1.length : Int)) = true := decide_eq_true c6
   clear c6
   by_cases c7 : ((l0_1.length : Int) : Int).toNat ≤ 281474976710656
   ·
    rw [if_pos c7] at H
    have c7b0 := eq_true c7
    have c7b1 : decide (((l0_1.length : Int) : Int).toNat ≤ 281474976710656) = true := decide_eq_true c7
    clear c7
    obtain ⟨y428, hy428⟩ : ∃ y_ : List Bool, y_ = (List.replicate ((l0_1.length : Int) : Int).toNat false) := ⟨_, rfl⟩
    replace H : (laganref04_short.l0 k l1 a2 y428 0 l0_0 l0_1 l0_2) = some r := by first | (rw [hy428]; with_reducible exact H) | (have H2_ := (Option.bind_some _ _).symm.trans H; rw [hy428]; with_reducible exact H2_) | (have H2_ := (Option.bind_some _ _).symm.trans H; with_reducible exact H2_) | with_reducible exact H | (rw [hy428]; exact H) | exact H
    have Ny428 := Aside0.mk hy428
    clear hy428
    have H' := Aside0.mk H
    clear H
    go_enter Try.func73, Try.ntmps73
    go_wp2_with (first | ((with_reducible refine gate_dst (N := 3) rfl ?_); refine box_event ?hg (N := 3) ?hd (cs := #[.slice A0_0 l0_0.length c0_0, .slice A0_1 l0_1.length c0_1, .slice A0_2 l0_2.length c0_2]) (t := 26) ?hr ?_; (case hd => rfl); (case hg => rfl); (case hr => first | (go_simp; done) | (go_simp; rfl)); intro gb426 hg w8 hbox hb; have n0_ := Aside0.mk (below_step (by repeat (first | (with_reducible first | exact HB.out | apply below_alloc | apply pw_below_drewN | apply below_drew1) | exact HB.out)) hb); have n1_ := Aside0.mk (hbox); have n2_ := Aside0.mk ((by rw [hg]; exact (below_size (by repeat (first | (with_reducible first | exact HB.out | apply below_alloc | apply pw_below_drewN | apply below_drew1) | exact HB.out))) : w.heap.size ≤ gb426)); have n3_ := Aside0.mk ((by rw [hg]; exact (below_size (by repeat (first | (with_reducible first | exact HB.out | apply below_alloc | apply pw_below_drewN | apply below_drew1) | exact HB.out))) : w.heap.size ≤ gb426)); clear HB; have HB := n0_; have BK426 := n1_; have GW426 := n2_; have GE426 := n3_; clear n0_ n1_ n2_ n3_; clear hb hbox hg; have hcz9_0 : w8.cell? ⟨gb426, 0, none⟩ = some (.slice A0_0 l0_0.length c0_0) := (blk_cell BK426.out 0).trans rfl; have hcz9_1 : w8.cell? ⟨gb426, 1, none⟩ = some (.slice A0_1 l0_1.length c0_1) := (blk_cell BK426.out 1).trans rfl; have hcz9_2 : w8.cell? ⟨gb426, 2, none⟩ = some (.slice A0_2 l0_2.length c0_2) := (blk_cell BK426.out 2).trans rfl; have hfz9_0 := blk_frozen BK426.out 0; have hfz9_1 := blk_frozen BK426.out 1; have hfz9_2 := blk_frozen BK426.out 2) | ((with_reducible refine gate_callee (f := 62) rfl ?_); refine goesL_ (some 16) rfl rfl Try.func62 (by kernel_rfl) rfl #[.slice A1 l1.length c1, .int .i64 (l0_0.length : Int)] rfl (by (try simp only [List.map_toArray, List.map_cons, List.map_nil]); first | done | rfl | (simp only [List.length_drop, List.length_take]; rfl)) ?_; (with_reducible refine (laganref04_ascending.calls k _ _ l1 (l0_0.length : Int) true _ ?side1 ?side2 A4.out).mono ?_); (case side1 => repeat (first | exact (Kd.C_below HR1.out HB.out) | (with_reducible refine Kd.C_alloc ?_ _) | (with_reducible refine Kd.C_drewN ?_ _) | (with_reducible refine Kd.C_drew ?_))); (case side2 => exact HC1.out); rintro e w' ⟨rfl, ⟨nd, rfl⟩⟩; refine ⟨_, rfl, ?_⟩) | ((with_reducible refine gate_dst (N := 21) rfl ?_); refine Kd.R_make Kd.bool _ 4 rfl (N := 21) rfl 104 _ _ rfl (l0_1.length : Int) rfl rfl Try.underlying104 (.bool false) 1 info4 rfl (by decide) (by omega) false (ok := fun _ => True) (okp := fun _ => True) rfl (fun _ hk => hk) trivial (of_decide_eq_true (by first | (with_reducible assumption) | assumption)) (Nat.le_trans (Nat.mul_le_mul_right _ (of_decide_eq_true (by first | (with_reducible assumption) | assumption) : (l0_1.length : Int).toNat ≤ 281474976710656)) (by omega)) (Below.refl _ _) (Nat.le_refl _) ?_; intro v429 w10 ho11 hb hg_ hnew_; clear hg_ hnew_; (first | rw [← Ny428.out] at ho11 | (simp only [Int.reduceToNat] at ho11; rw [← Ny428.out] at ho11)); have n0_ := Aside0.mk (Kd.R_lower ho11 (below_size (by repeat (first | (with_reducible first | exact HB.out | apply below_alloc | apply pw_below_drewN | apply below_drew1 | refine below_set ?_ GE426.out) | exact HB.out)))); have n1_ := Aside0.mk (blk_below (g := gb426) (o := .cells #[.slice A0_0 l0_0.length c0_0, .slice A0_1 l0_1.length c0_1, .slice A0_2 l0_2.length c0_2] 26 (0, 0)) (by (with_reducible repeat (first | refine blk_drewN ?_ _ | refine blk_drew ?_ | refine blk_alloc ?_ _)); exact BK426.out) hb); have n2_ := Aside0.mk (below_step (by repeat (first | (with_reducible first | exact HB.out | apply below_alloc | apply pw_below_drewN | apply below_drew1 | refine below_set ?_ GE426.out) | exact HB.out)) hb); clear BK426; clear HB; have HO430 := n0_; have BK426 := n1_; have HB := n2_; clear n0_ n1_ n2_; clear hb ho11))
    go_loopg [8] k (fun kq v8 w' => ∃ (x7_1 : List Bool) (x8_1 : Int), v8 = .int .i64 x8_1 ∧ Aside0 (laganref04_short.l0 kq l1 a2 x7_1 x8_1 l0_0 l0_1 l0_2 = some r) ∧ Aside0 (kq ≤ k) ∧ Aside0 (Kd.R Kd.bool 4 w' w.heap.size (fun _ => True) v429 x7_1) ∧ Aside0 (w'.heap[gb426]? = some (.cells #[(.slice A0_0 l0_0.length c0_0), (.slice A0_1 l0_1.length c0_1), (.slice A0_2 l0_2.length c0_2)] 26 (0, 0))) ∧ Aside0 (Below w.heap.size w w'))
    case atStart => exact ⟨(y428), (0), (by first | rfl | (simp; done) | (simp [*]; done)), H', ⟨Nat.le_refl _⟩, ⟨by (with_reducible repeat (first | apply Kd.R_alloc | apply Kd.R_drewN | apply Kd.R_drew)); exact HO430.out⟩, ⟨by (with_reducible repeat (first | refine blk_drewN ?_ _ | refine blk_drew ?_ | refine blk_alloc ?_ _)); exact BK426.out⟩, ⟨by repeat (first | (with_reducible first | exact HB.out | apply below_alloc | apply pw_below_drewN | apply below_drew1 | refine below_set ?_ GE426.out) | exact HB.out)⟩⟩
    case round =>
     clear H'
     try clear c1
     try clear p2
     try clear c5
     try clear c6
     try clear c6b0
     try clear c6b1
     try clear c7
     try clear c7b0
     try clear c7b1
     try clear hcz9_0
     try clear hcz9_1
     try clear hcz9_2
     try clear hfz9_0
     try clear hfz9_1
     try clear hfz9_2
     obtain ⟨x7_1, x8_1, rfl, HA, HK1, HO_7, BK426, HB⟩ := hrel
     cases gk with
     | zero => exact absurd HA.out (by simp [laganref04_short.l0])
     | succ k1 =>
      have H := HA.out
      clear HA
      simp only [laganref04_short.l0] at H
      by_cases c12 : x8_1 < (l1.length : Int)
      ·
       rw [if_pos c12] at H
       have c12b0 : decide (x8_1 < (l1.length : Int)) = true := decide_eq_true c12
       clear c12
       by_cases c13 : 0 ≤ x8_1
       ·
        rw [if_pos c13] at H
        have c13b0 : decide (0 ≤ x8_1) = true := decide_eq_true c13
        clear c13
        by_cases c14 : 0 ≤ (rd l1 x8_1)
        ·
         rw [if_pos c14] at H
         have c14b0 : decide (0 ≤ (rd l1 x8_1)) = true := decide_eq_true c14
         clear c14
         by_cases c15 : (rd l1 x8_1) < (l0_2.length : Int)
         ·
          rw [if_pos c15] at H
          have c15b0 : decide ((rd l1 x8_1) < (l0_2.length : Int)) = true := decide_eq_true c15
          clear c15
          by_cases c16 : ((rd_L1 l0_2 (rd l1 x8_1)).length : Int) = 0
          ·
           rw [if_pos c16] at H
           have c16b0 : (((rd_L1 l0_2 (rd l1 x8_1)).length : Int) == 0) = true := beq_iff_eq.mpr c16
           have c16b1 : (((rd_L1 l0_2 (rd l1 x8_1)).length : Int) != 0) = false := bne_eq_false_iff_eq.mpr c16
           clear c16
           obtain rfl := Option.some.inj H
           try go_wp2
           have n0_ := Aside0.mk (Kd.R_drew HO_7.out)
           have n1_ := Aside0.mk (blk_drew BK426.out)
           have n2_ := Aside0.mk (below_drew1 HB.out)
           clear HO_7
           clear BK426
           clear HB
           have HO_7 := n0_
           have BK426 := n1_
           have HB := n2_
           clear n0_ n1_ n2_
           have p431 : 0 ≤ (x8_1 : Int) := of_decide_eq_true (by first | (with_reducible assumption) | assumption)
           have q431 : x8_1 < (l1.length : Int) := of_decide_eq_true (by first | (with_reducible assumption) | assumption)
           obtain ⟨ad431, e431, hx431_0⟩ := Kd.at_int HR1.out x8_1 p431 q431
           have hw431_0 := hx431_0
           cases e431
           replace hx431_0 := (HB.out.cell (World.block_lt_of_cell? w _ hx431_0)).trans hx431_0
           replace p431 := eq_true p431
           replace q431 := eq_true q431
           have p432 : 0 ≤ ((rd l1 x8_1) : Int) := of_decide_eq_true (by first | (with_reducible assumption) | assumption)
           have q432 : (rd l1 x8_1) < (l0_2.length : Int) := of_decide_eq_true (by first | (with_reducible assumption) | assumption)
           obtain ⟨ad432, A432_0, c432_0, e432, hx432_0, hl432_0, hi432_0⟩ := at_L1 HR0_2.out (rd l1 x8_1) p432 q432
           have hw432_0 := hx432_0
           cases e432
           replace hx432_0 := (HB.out.cell (World.block_lt_of_cell? w _ hx432_0)).trans hx432_0
           have HR432_0 := Aside0.mk hi432_0
           have HC432_0 := Aside0.mk hl432_0
           clear hi432_0 hl432_0
           replace p432 := eq_true p432
           replace q432 := eq_true q432
           refine start_ (n := 10) (S := fun w' => w'.cell? ⟨gb426, 0, none⟩ = some (.slice A0_0 l0_0.length c0_0) ∧ w'.cell? ⟨gb426, 1, none⟩ = some (.slice A0_1 l0_1.length c0_1) ∧ w'.cell? ⟨gb426, 2, none⟩ = some (.slice (some ad432) l0_2.length c0_2) ∧ w'.cell? (ad431.add (x8_1).toNat) = some (.int .i64 (rd l1 x8_1)) ∧ w'.cell? (ad432.add ((rd l1 x8_1)).toNat) = some (.slice A432_0 (rd_L1 l0_2 (rd l1 x8_1)).length c432_0)) (ds := []) #[false, false, false, false, false, false, false, false, false, false] (by kernel_rfl) rfl rfl ⟨(blk_cell BK426.out 0).trans rfl, (blk_cell BK426.out 1).trans rfl, (blk_cell BK426.out 2).trans rfl, ((HB.out.cell (World.block_lt_of_cell? w _ hw431_0)).trans hw431_0), ((HB.out.cell (World.block_lt_of_cell? w _ hw432_0)).trans hw432_0)⟩ (fun hHeld => ?_); refine with_tabW laganref04_short.tab7 laganref04_short.bits7 (fun HT_ HW_ => ?_)
           generalize wr.drew = w17 at HO_7 BK426 HB HR432_0 hx431_0 hx432_0 hHeld ⊢
           refine pure_ (i := 0) (N := some 28) (v := ?_) (a' := ?_) #[true, false, false, false, false, false, false, false, false, false] rfl rfl (any_of HT_.out (by kernel_rfl)) (fun _ _ _ h => h) (Or.inl ⟨by rfl, ?_⟩) ?_ ?_
           rotate_left
           ·
            intro w'
            go_simp
            with_reducible rfl
           rotate_left
           ·
            simp only [Act.put, List.setIfInBounds_toArray, List.set_cons_zero, List.set_cons_succ, i64_w, i32_w]
            rfl
           refine pure_ (i := 2) (N := some 30) (v := ?_) (a' := ?_) #[true, false, true, false, false, false, false, false, false, false] rfl rfl (any_of HT_.out (by kernel_rfl)) (fun _ _ _ h => h) (Or.inl ⟨by rfl, ?_⟩) ?_ ?_
           rotate_left
           ·
            intro w'
            go_simp
            with_reducible rfl
           rotate_left
           ·
            simp only [Act.put, List.setIfInBounds_toArray, List.set_cons_zero, List.set_cons_succ, i64_w, i32_w]
            rfl
           refine pure_ (i := 3) (N := some 31) (v := ?_) (a' := ?_) #[true, false, true, true, false, false, false, false, false, false] rfl rfl (any_of HT_.out (by kernel_rfl)) (fun _ _ _ h => h) (Or.inl ⟨by rfl, ?_⟩) ?_ ?_
           rotate_left
           ·
            intro w'
            go_simp
            with_reducible rfl
           rotate_left
           ·
            simp only [Act.put, List.setIfInBounds_toArray, List.set_cons_zero, List.set_cons_succ, i64_w, i32_w]
            rfl
           refine pure_ (i := 4) (N := some 32) (v := ?_) (a' := ?_) #[true, false, true, true, true, false, false, false, false, false] rfl rfl (any_of HT_.out (by kernel_rfl)) (fun _ _ _ h => h) (Or.inl ⟨by rfl, ?_⟩) ?_ ?_
           rotate_left
           ·
            intro w'
            go_simp
            with_reducible rfl
           rotate_left
           ·
            simp only [Act.put, List.setIfInBounds_toArray, List.set_cons_zero, List.set_cons_succ, i64_w, i32_w]
            rfl
           refine take_ (i := 1) (N := some 29) (v := ?_) (a' := ?_) #[true, true, true, true, true, false, false, false, false, false] rfl rfl (take_ofW HT_.out HW_.out (by kernel_rfl)) (fun _ _ _ h => h) (Or.inl ⟨by rfl, ?_⟩) hHeld ?_ ?_
           rotate_left
           ·
            rintro w' ⟨s0, s1, s2, s3, s4⟩
            go_simp
            with_reducible rfl
           rotate_left
           ·
            simp only [Act.put, List.setIfInBounds_toArray, List.set_cons_zero, List.set_cons_succ, i64_w, i32_w]
            rfl
           refine take_ (i := 5) (N := some 33) (v := ?_) (a' := ?_) #[true, true, true, true, true, true, false, false, false, false] rfl rfl (take_ofW HT_.out HW_.out (by kernel_rfl)) (fun _ _ _ h => h) (Or.inl ⟨by rfl, ?_⟩) hHeld ?_ ?_
           rotate_left
           ·
            rintro w' ⟨s0, s1, s2, s3, s4⟩
            go_simp
            with_reducible rfl
           rotate_left
           ·
            simp only [Act.put, List.setIfInBounds_toArray, List.set_cons_zero, List.set_cons_succ, i64_w, i32_w]
            rfl
           refine pure_ (i := 6) (N := some 34) (v := ?_) (a' := ?_) #[true, true, true, true, true, true, true, false, false, false] rfl rfl (any_of HT_.out (by kernel_rfl)) (fun _ _ _ h => h) (Or.inl ⟨by rfl, ?_⟩) ?_ ?_
           rotate_left
           ·
            intro w'
            go_simp
            with_reducible rfl
           rotate_left
           ·
            simp only [Act.put, List.setIfInBounds_toArray, List.set_cons_zero, List.set_cons_succ, i64_w, i32_w]
            rfl
           refine take_ (i := 7) (N := some 35) (v := ?_) (a' := ?_) #[true, true, true, true, true, true, true, true, false, false] rfl rfl (take_ofW HT_.out HW_.out (by kernel_rfl)) (fun _ _ _ h => h) (Or.inl ⟨by rfl, ?_⟩) hHeld ?_ ?_
           rotate_left
           ·
            rintro w' ⟨s0, s1, s2, s3, s4⟩
            go_simp
            with_reducible rfl
           rotate_left
           ·
            simp only [Act.put, List.setIfInBounds_toArray, List.set_cons_zero, List.set_cons_succ, i64_w, i32_w]
            rfl
           refine pure_ (i := 8) (N := some 36) (v := ?_) (a' := ?_) #[true, true, true, true, true, true, true, true, true, false] rfl rfl (any_of HT_.out (by kernel_rfl)) (fun _ _ _ h => h) (Or.inl ⟨by rfl, ?_⟩) ?_ ?_
           rotate_left
           ·
            intro w'
            go_simp
            with_reducible rfl
           rotate_left
           ·
            simp only [Act.put, List.setIfInBounds_toArray, List.set_cons_zero, List.set_cons_succ, i64_w, i32_w]
            rfl
           refine pure_ (i := 9) (N := some 37) (v := ?_) (a' := ?_) #[true, true, true, true, true, true, true, true, true, true] rfl rfl (any_of HT_.out (by kernel_rfl)) (fun _ _ _ h => h) (Or.inl ⟨by rfl, ?_⟩) ?_ ?_
           rotate_left
           ·
            intro w'
            go_simp
            with_reducible rfl
           rotate_left
           ·
            simp only [Act.put, List.setIfInBounds_toArray, List.set_cons_zero, List.set_cons_succ, i64_w, i32_w]
            rfl
           refine done_ (done_of HT_.out (by kernel_rfl)) ?_
           try go_wp2
           go_ret
           exact ⟨by first | rfl | (simp [errW_none, errW_some] <;> rfl) | (simp [*, errW_none, errW_some] <;> rfl), by repeat (first | (with_reducible first | exact HB.out | apply below_alloc | apply pw_below_drewN | apply below_drew1 | refine below_set ?_ GE426.out) | exact HB.out)⟩
          ·
           rw [if_neg c16] at H
           have c16b0 : (((rd_L1 l0_2 (rd l1 x8_1)).length : Int) == 0) = false := beq_eq_false_iff_ne.mpr c16
           have c16b1 : (((rd_L1 l0_2 (rd l1 x8_1)).length : Int) != 0) = true := bne_iff_ne.mpr c16
           have c16b2 : ¬ ((rd_L1 l0_2 (rd l1 x8_1)) = []) := fun h_ => c16 (by rw [h_]; rfl)
           have H' := Aside0.mk H
           clear H
           try go_wp2
           have n0_ := Aside0.mk (Kd.R_drew HO_7.out)
           have n1_ := Aside0.mk (blk_drew BK426.out)
           have n2_ := Aside0.mk (below_drew1 HB.out)
           clear HO_7
           clear BK426
           clear HB
           have HO_7 := n0_
           have BK426 := n1_
           have HB := n2_
           clear n0_ n1_ n2_
           have p431 : 0 ≤ (x8_1 : Int) := of_decide_eq_true (by first | (with_reducible assumption) | assumption)
           have q431 : x8_1 < (l1.length : Int) := of_decide_eq_true (by first | (with_reducible assumption) | assumption)
           obtain ⟨ad431, e431, hx431_0⟩ := Kd.at_int HR1.out x8_1 p431 q431
           have hw431_0 := hx431_0
           cases e431
           replace hx431_0 := (HB.out.cell (World.block_lt_of_cell? w _ hx431_0)).trans hx431_0
           replace p431 := eq_true p431
           replace q431 := eq_true q431
           have p432 : 0 ≤ ((rd l1 x8_1) : Int) := of_decide_eq_true (by first | (with_reducible assumption) | assumption)
           have q432 : (rd l1 x8_1) < (l0_2.length : Int) := of_decide_eq_true (by first | (with_reducible assumption) | assumption)
           obtain ⟨ad432, A432_0, c432_0, e432, hx432_0, hl432_0, hi432_0⟩ := at_L1 HR0_2.out (rd l1 x8_1) p432 q432
           have hw432_0 := hx432_0
           cases e432
           replace hx432_0 := (HB.out.cell (World.block_lt_of_cell? w _ hx432_0)).trans hx432_0
           have HR432_0 := Aside0.mk hi432_0
           have HC432_0 := Aside0.mk hl432_0
           clear hi432_0 hl432_0
           replace p432 := eq_true p432
           replace q432 := eq_true q432
           refine start_ (n := 10) (S := fun w' => w'.cell? ⟨gb426, 0, none⟩ = some (.slice A0_0 l0_0.length c0_0) ∧ w'.cell? ⟨gb426, 1, none⟩ = some (.slice A0_1 l0_1.length c0_1) ∧ w'.cell? ⟨gb426, 2, none⟩ = some (.slice (some ad432) l0_2.length c0_2) ∧ w'.cell? (ad431.add (x8_1).toNat) = some (.int .i64 (rd l1 x8_1)) ∧ w'.cell? (ad432.add ((rd l1 x8_1)).toNat) = some (.slice A432_0 (rd_L1 l0_2 (rd l1 x8_1)).length c432_0)) (ds := []) #[false, false, false, false, false, false, false, false, false, false] (by kernel_rfl) rfl rfl ⟨(blk_cell BK426.out 0).trans rfl, (blk_cell BK426.out 1).trans rfl, (blk_cell BK426.out 2).trans rfl, ((HB.out.cell (World.block_lt_of_cell? w _ hw431_0)).trans hw431_0), ((HB.out.cell (World.block_lt_of_cell? w _ hw432_0)).trans hw432_0)⟩ (fun hHeld => ?_); refine with_tabW laganref04_short.tab7 laganref04_short.bits7 (fun HT_ HW_ => ?_)
           generalize wr.drew = w18 at HO_7 BK426 HB HR432_0 hx431_0 hx432_0 hHeld ⊢
           refine pure_ (i := 0) (N := some 28) (v := ?_) (a' := ?_) #[true, false, false, false, false, false, false, false, false, false] rfl rfl (any_of HT_.out (by kernel_rfl)) (fun _ _ _ h => h) (Or.inl ⟨by rfl, ?_⟩) ?_ ?_
           rotate_left
           ·
            intro w'
            go_simp
            with_reducible rfl
           rotate_left
           ·
            simp only [Act.put, List.setIfInBounds_toArray, List.set_cons_zero, List.set_cons_succ, i64_w, i32_w]
            rfl
           refine pure_ (i := 2) (N := some 30) (v := ?_) (a' := ?_) #[true, false, true, false, false, false, false, false, false, false] rfl rfl (any_of HT_.out (by kernel_rfl)) (fun _ _ _ h => h) (Or.inl ⟨by rfl, ?_⟩) ?_ ?_
           rotate_left
           ·
            intro w'
            go_simp
            with_reducible rfl
           rotate_left
           ·
            simp only [Act.put, List.setIfInBounds_toArray, List.set_cons_zero, List.set_cons_succ, i64_w, i32_w]
            rfl
           refine pure_ (i := 3) (N := some 31) (v := ?_) (a' := ?_) #[true, false, true, true, false, false, false, false, false, false] rfl rfl (any_of HT_.out (by kernel_rfl)) (fun _ _ _ h => h) (Or.inl ⟨by rfl, ?_⟩) ?_ ?_
           rotate_left
           ·
            intro w'
            go_simp
            with_reducible rfl
           rotate_left
           ·
            simp only [Act.put, List.setIfInBounds_toArray, List.set_cons_zero, List.set_cons_succ, i64_w, i32_w]
            rfl
           refine pure_ (i := 4) (N := some 32) (v := ?_) (a' := ?_) #[true, false, true, true, true, false, false, false, false, false] rfl rfl (any_of HT_.out (by kernel_rfl)) (fun _ _ _ h => h) (Or.inl ⟨by rfl, ?_⟩) ?_ ?_
           rotate_left
           ·
            intro w'
            go_simp
            with_reducible rfl
           rotate_left
           ·
            simp only [Act.put, List.setIfInBounds_toArray, List.set_cons_zero, List.set_cons_succ, i64_w, i32_w]
            rfl
           refine take_ (i := 1) (N := some 29) (v := ?_) (a' := ?_) #[true, true, true, true, true, false, false, false, false, false] rfl rfl (take_ofW HT_.out HW_.out (by kernel_rfl)) (fun _ _ _ h => h) (Or.inl ⟨by rfl, ?_⟩) hHeld ?_ ?_
           rotate_left
           ·
            rintro w' ⟨s0, s1, s2, s3, s4⟩
            go_simp
            with_reducible rfl
           rotate_left
           ·
            simp only [Act.put, List.setIfInBounds_toArray, List.set_cons_zero, List.set_cons_succ, i64_w, i32_w]
            rfl
           refine take_ (i := 5) (N := some 33) (v := ?_) (a' := ?_) #[true, true, true, true, true, true, false, false, false, false] rfl rfl (take_ofW HT_.out HW_.out (by kernel_rfl)) (fun _ _ _ h => h) (Or.inl ⟨by rfl, ?_⟩) hHeld ?_ ?_
           rotate_left
           ·
            rintro w' ⟨s0, s1, s2, s3, s4⟩
            go_simp
            with_reducible rfl
           rotate_left
           ·
            simp only [Act.put, List.setIfInBounds_toArray, List.set_cons_zero, List.set_cons_succ, i64_w, i32_w]
            rfl
           refine pure_ (i := 6) (N := some 34) (v := ?_) (a' := ?_) #[true, true, true, true, true, true, true, false, false, false] rfl rfl (any_of HT_.out (by kernel_rfl)) (fun _ _ _ h => h) (Or.inl ⟨by rfl, ?_⟩) ?_ ?_
           rotate_left
           ·
            intro w'
            go_simp
            with_reducible rfl
           rotate_left
           ·
            simp only [Act.put, List.setIfInBounds_toArray, List.set_cons_zero, List.set_cons_succ, i64_w, i32_w]
            rfl
           refine take_ (i := 7) (N := some 35) (v := ?_) (a' := ?_) #[true, true, true, true, true, true, true, true, false, false] rfl rfl (take_ofW HT_.out HW_.out (by kernel_rfl)) (fun _ _ _ h => h) (Or.inl ⟨by rfl, ?_⟩) hHeld ?_ ?_
           rotate_left
           ·
            rintro w' ⟨s0, s1, s2, s3, s4⟩
            go_simp
            with_reducible rfl
           rotate_left
           ·
            simp only [Act.put, List.setIfInBounds_toArray, List.set_cons_zero, List.set_cons_succ, i64_w, i32_w]
            rfl
           refine pure_ (i := 8) (N := some 36) (v := ?_) (a' := ?_) #[true, true, true, true, true, true, true, true, true, false] rfl rfl (any_of HT_.out (by kernel_rfl)) (fun _ _ _ h => h) (Or.inl ⟨by rfl, ?_⟩) ?_ ?_
           rotate_left
           ·
            intro w'
            go_simp
            with_reducible rfl
           rotate_left
           ·
            simp only [Act.put, List.setIfInBounds_toArray, List.set_cons_zero, List.set_cons_succ, i64_w, i32_w]
            rfl
           refine pure_ (i := 9) (N := some 37) (v := ?_) (a' := ?_) #[true, true, true, true, true, true, true, true, true, true] rfl rfl (any_of HT_.out (by kernel_rfl)) (fun _ _ _ h => h) (Or.inl ⟨by rfl, ?_⟩) ?_ ?_
           rotate_left
           ·
            intro w'
            go_simp
            with_reducible rfl
           rotate_left
           ·
            simp only [Act.put, List.setIfInBounds_toArray, List.set_cons_zero, List.set_cons_succ, i64_w, i32_w]
            rfl
           refine done_ (done_of HT_.out (by kernel_rfl)) ?_
           try go_wp2
           go_loopg [9] k1 (fun kq v9 w' => ∃ (x7_2 : List Bool) (x9_2 : Int), v9 = .int .i64 x9_2 ∧ Aside0 (laganref04_short.l1 kq l1 a2 x7_2 x8_1 x9_2 l0_0 l0_1 l0_2 = some r) ∧ Aside0 (kq ≤ k1) ∧ Aside0 (Kd.R Kd.bool 4 w' w.heap.size (fun _ => True) v429 x7_2) ∧ Aside0 (w'.heap[gb426]? = some (.cells #[(.slice A0_0 l0_0.length c0_0), (.slice A0_1 l0_1.length c0_1), (.slice (some ad432) l0_2.length c0_2)] 26 (0, 0))) ∧ Aside0 (Below w.heap.size w w'))
           case atStart => exact ⟨(x7_1), (0), (by first | rfl | (simp; done) | (simp [*]; done)), H', ⟨Nat.le_refl _⟩, ⟨by (with_reducible repeat (first | apply Kd.R_alloc | apply Kd.R_drewN | apply Kd.R_drew)); exact HO_7.out⟩, ⟨by (with_reducible repeat (first | refine blk_drewN ?_ _ | refine blk_drew ?_ | refine blk_alloc ?_ _)); exact BK426.out⟩, ⟨by repeat (first | (with_reducible first | exact HB.out | apply below_alloc | apply pw_below_drewN | apply below_drew1 | refine below_set ?_ GE426.out) | exact HB.out)⟩⟩
           case round =>
            clear H'
            try clear c1
            try clear p2
            try clear c4
            try clear p4
            try clear q4
            try clear hx4
            try clear c5
            try clear c6
            try clear c6b0
            try clear c6b1
            try clear c7
            try clear c7b0
            try clear c7b1
            try clear c12
            try clear c12b0
            try clear c13
            try clear c13b0
            try clear c14
            try clear c14b0
            try clear c15
            try clear c15b0
            try clear c16
            try clear c16b0
            try clear c16b1
            try clear c16b2
            try clear hcz9_0
            try clear hcz9_1
            try clear hcz9_2
            try clear hfz9_0
            try clear hfz9_1
            try clear hfz9_2
            try clear hx431_0
            try clear hx432_0
            try clear p2
            try clear p431
            try clear p432
            try clear q431
            try clear q432
            obtain ⟨x7_2, x9_2, rfl, HA, HK2, HO_7, BK426, HB⟩ := hrel
            cases gk with
            | zero => exact absurd HA.out (by simp [laganref04_short.l1])
            | succ k2 =>
             have H := HA.out
             clear HA
             simp only [laganref04_short.l1] at H
             by_cases c19 : 0 ≤ x8_1
             ·
              rw [if_pos c19] at H
              have c19b0 : decide (0 ≤ x8_1) = true := decide_eq_true c19
              clear c19
              by_cases c20 : x8_1 < (l1.length : Int)
              ·
               rw [if_pos c20] at H
               have c20b0 : decide (x8_1 < (l1.length : Int)) = true := decide_eq_true c20
               clear c20
               by_cases c21 : 0 ≤ (rd l1 x8_1)
               ·
                rw [if_pos c21] at H
                have c21b0 : decide (0 ≤ (rd l1 x8_1)) = true := decide_eq_true c21
                clear c21
                by_cases c22 : (rd l1 x8_1) < (l0_2.length : Int)
                ·
                 rw [if_pos c22] at H
                 have c22b0 : decide ((rd l1 x8_1) < (l0_2.length : Int)) = true := decide_eq_true c22
                 clear c22
                 by_cases c23 : x9_2 < ((rd_L1 l0_2 (rd l1 x8_1)).length : Int)
                 ·
                  rw [if_pos c23] at H
                  have c23b0 : decide (x9_2 < ((rd_L1 l0_2 (rd l1 x8_1)).length : Int)) = true := decide_eq_true c23
                  clear c23
                  by_cases c24 : 0 ≤ x9_2
                  ·
                   rw [if_pos c24] at H
                   have c24b0 : decide (0 ≤ x9_2) = true := decide_eq_true c24
                   clear c24
                   by_cases c25 : 0 ≤ (rd (rd_L1 l0_2 (rd l1 x8_1)) x9_2)
                   ·
                    rw [if_pos c25] at H
                    have c25b0 : decide (0 ≤ (rd (rd_L1 l0_2 (rd l1 x8_1)) x9_2)) = true := decide_eq_true c25
                    clear c25
                    by_cases c26 : (rd (rd_L1 l0_2 (rd l1 x8_1)) x9_2) < (x7_2.length : Int)
                    ·
                     rw [if_pos c26] at H
                     have c26b0 : decide ((rd (rd_L1 l0_2 (rd l1 x8_1)) x9_2) < (x7_2.length : Int)) = true := decide_eq_true c26
                     clear c26
                     obtain ⟨y438, hy438⟩ : ∃ y_ : List Bool, y_ = (x7_2.set ((rd (rd_L1 l0_2 (rd l1 x8_1)) x9_2) : Int).toNat true) := ⟨_, rfl⟩
                     replace H : (laganref04_short.l1 k2 l1 a2 y438 x8_1 (wrap64 (x9_2 + 1)) l0_0 l0_1 l0_2) = some r := by first | (rw [hy438]; with_reducible exact H) | (have H2_ := (Option.bind_some _ _).symm.trans H; rw [hy438]; with_reducible exact H2_) | (have H2_ := (Option.bind_some _ _).symm.trans H; with_reducible exact H2_) | with_reducible exact H | (rw [hy438]; exact H) | exact H
                     have Ny438 := Aside0.mk hy438
                     clear hy438
                     have H' := Aside0.mk H
                     clear H
                     try go_wp2
                     have n0_ := Aside0.mk (Kd.R_drew HO_7.out)
                     have n1_ := Aside0.mk (blk_drew BK426.out)
                     have n2_ := Aside0.mk (below_drew1 HB.out)
                     clear HO_7
                     clear BK426
                     clear HB
                     have HO_7 := n0_
                     have BK426 := n1_
                     have HB := n2_
                     clear n0_ n1_ n2_
                     have p433 : 0 ≤ (x8_1 : Int) := of_decide_eq_true (by first | (with_reducible assumption) | assumption)
                     have q433 : x8_1 < (l1.length : Int) := of_decide_eq_true (by first | (with_reducible assumption) | assumption)
                     obtain ⟨ad433, e433, hx433_0⟩ := Kd.at_int HR1.out x8_1 p433 q433
                     have hw433_0 := hx433_0
                     obtain rfl : ad431 = ad433 := (by injection e433)
                     replace hx433_0 := (HB.out.cell (World.block_lt_of_cell? w _ hx433_0)).trans hx433_0
                     replace p433 := eq_true p433
                     replace q433 := eq_true q433
                     have p434 : 0 ≤ ((rd l1 x8_1) : Int) := of_decide_eq_true (by first | (with_reducible assumption) | assumption)
                     have q434 : (rd l1 x8_1) < (l0_2.length : Int) := of_decide_eq_true (by first | (with_reducible assumption) | assumption)
                     obtain ⟨ad434, A434_0, c434_0, e434, hx434_0, hl434_0, hi434_0⟩ := at_L1 HR0_2.out (rd l1 x8_1) p434 q434
                     have hw434_0 := hx434_0
                     obtain rfl : ad432 = ad434 := (by injection e434)
                     replace hx434_0 := (HB.out.cell (World.block_lt_of_cell? w _ hx434_0)).trans hx434_0
                     have HR434_0 := Aside0.mk hi434_0
                     have HC434_0 := Aside0.mk hl434_0
                     clear hi434_0 hl434_0
                     replace p434 := eq_true p434
                     replace q434 := eq_true q434
                     refine start_ (n := 11) (S := fun w' => w'.cell? ⟨gb426, 0, none⟩ = some (.slice A0_0 l0_0.length c0_0) ∧ w'.cell? ⟨gb426, 1, none⟩ = some (.slice A0_1 l0_1.length c0_1) ∧ w'.cell? ⟨gb426, 2, none⟩ = some (.slice (some ad432) l0_2.length c0_2) ∧ w'.cell? (ad431.add (x8_1).toNat) = some (.int .i64 (rd l1 x8_1)) ∧ w'.cell? (ad432.add ((rd l1 x8_1)).toNat) = some (.slice A434_0 (rd_L1 l0_2 (rd l1 x8_1)).length c434_0)) (ds := []) #[false, false, false, false, false, false, false, false, false, false, false] (by kernel_rfl) rfl rfl ⟨(blk_cell BK426.out 0).trans rfl, (blk_cell BK426.out 1).trans rfl, (blk_cell BK426.out 2).trans rfl, ((HB.out.cell (World.block_lt_of_cell? w _ hw433_0)).trans hw433_0), ((HB.out.cell (World.block_lt_of_cell? w _ hw434_0)).trans hw434_0)⟩ (fun hHeld => ?_); refine with_tabW laganref04_short.tab10 laganref04_short.bits10 (fun HT_ HW_ => ?_)
                     generalize wr.drew = w28 at HO_7 BK426 HB HR434_0 hx433_0 hx434_0 hHeld ⊢
                     refine pure_ (i := 0) (N := some 38) (v := ?_) (a' := ?_) #[true, false, false, false, false, false, false, false, false, false, false] rfl rfl (any_of HT_.out (by kernel_rfl)) (fun _ _ _ h => h) (Or.inl ⟨by rfl, ?_⟩) ?_ ?_
                     rotate_left
                     ·
                      intro w'
                      go_simp
                      with_reducible rfl
                     rotate_left
                     ·
                      simp only [Act.put, List.setIfInBounds_toArray, List.set_cons_zero, List.set_cons_succ, i64_w, i32_w]
                      rfl
                     refine pure_ (i := 1) (N := some 39) (v := ?_) (a' := ?_) #[true, true, false, false, false, false, false, false, false, false, false] rfl rfl (any_of HT_.out (by kernel_rfl)) (fun _ _ _ h => h) (Or.inl ⟨by rfl, ?_⟩) ?_ ?_
                     rotate_left
                     ·
                      intro w'
                      go_simp
                      with_reducible rfl
                     rotate_left
                     ·
                      simp only [Act.put, List.setIfInBounds_toArray, List.set_cons_zero, List.set_cons_succ, i64_w, i32_w]
                      rfl
                     refine pure_ (i := 3) (N := some 41) (v := ?_) (a' := ?_) #[true, true, false, true, false, false, false, false, false, false, false] rfl rfl (any_of HT_.out (by kernel_rfl)) (fun _ _ _ h => h) (Or.inl ⟨by rfl, ?_⟩) ?_ ?_
                     rotate_left
                     ·
                      intro w'
                      go_simp
                      with_reducible rfl
                     rotate_left
                     ·
                      simp only [Act.put, List.setIfInBounds_toArray, List.set_cons_zero, List.set_cons_succ, i64_w, i32_w]
                      rfl
                     refine pure_ (i := 4) (N := some 42) (v := ?_) (a' := ?_) #[true, true, false, true, true, false, false, false, false, false, false] rfl rfl (any_of HT_.out (by kernel_rfl)) (fun _ _ _ h => h) (Or.inl ⟨by rfl, ?_⟩) ?_ ?_
                     rotate_left
                     ·
                      intro w'
                      go_simp
                      with_reducible rfl
                     rotate_left
                     ·
                      simp only [Act.put, List.setIfInBounds_toArray, List.set_cons_zero, List.set_cons_succ, i64_w, i32_w]
                      rfl
                     refine pure_ (i := 5) (N := some 43) (v := ?_) (a' := ?_) #[true, true, false, true, true, true, false, false, false, false, false] rfl rfl (any_of HT_.out (by kernel_rfl)) (fun _ _ _ h => h) (Or.inl ⟨by rfl, ?_⟩) ?_ ?_
                     rotate_left
                     ·
                      intro w'
                      go_simp
                      with_reducible rfl
                     rotate_left
                     ·
                      simp only [Act.put, List.setIfInBounds_toArray, List.set_cons_zero, List.set_cons_succ, i64_w, i32_w]
                      rfl
                     refine take_ (i := 2) (N := some 40) (v := ?_) (a' := ?_) #[true, true, true, true, true, true, false, false, false, false, false] rfl rfl (take_ofW HT_.out HW_.out (by kernel_rfl)) (fun _ _ _ h => h) (Or.inl ⟨by rfl, ?_⟩) hHeld ?_ ?_
                     rotate_left
                     ·
                      rintro w' ⟨s0, s1, s2, s3, s4⟩
                      go_simp
                      with_reducible rfl
                     rotate_left
                     ·
                      simp only [Act.put, List.setIfInBounds_toArray, List.set_cons_zero, List.set_cons_succ, i64_w, i32_w]
                      rfl
                     refine take_ (i := 6) (N := some 44) (v := ?_) (a' := ?_) #[true, true, true, true, true, true, true, false, false, false, false] rfl rfl (take_ofW HT_.out HW_.out (by kernel_rfl)) (fun _ _ _ h => h) (Or.inl ⟨by rfl, ?_⟩) hHeld ?_ ?_
                     rotate_left
                     ·
                      rintro w' ⟨s0, s1, s2, s3, s4⟩
                      go_simp
                      with_reducible rfl
                     rotate_left
                     ·
                      simp only [Act.put, List.setIfInBounds_toArray, List.set_cons_zero, List.set_cons_succ, i64_w, i32_w]
                      rfl
                     refine pure_ (i := 7) (N := some 45) (v := ?_) (a' := ?_) #[true, true, true, true, true, true, true, true, false, false, false] rfl rfl (any_of HT_.out (by kernel_rfl)) (fun _ _ _ h => h) (Or.inl ⟨by rfl, ?_⟩) ?_ ?_
                     rotate_left
                     ·
                      intro w'
                      go_simp
                      with_reducible rfl
                     rotate_left
                     ·
                      simp only [Act.put, List.setIfInBounds_toArray, List.set_cons_zero, List.set_cons_succ, i64_w, i32_w]
                      rfl
                     refine take_ (i := 8) (N := some 46) (v := ?_) (a' := ?_) #[true, true, true, true, true, true, true, true, true, false, false] rfl rfl (take_ofW HT_.out HW_.out (by kernel_rfl)) (fun _ _ _ h => h) (Or.inl ⟨by rfl, ?_⟩) hHeld ?_ ?_
                     rotate_left
                     ·
                      rintro w' ⟨s0, s1, s2, s3, s4⟩
                      go_simp
                      with_reducible rfl
                     rotate_left
                     ·
                      simp only [Act.put, List.setIfInBounds_toArray, List.set_cons_zero, List.set_cons_succ, i64_w, i32_w]
                      rfl
                     refine pure_ (i := 9) (N := some 47) (v := ?_) (a' := ?_) #[true, true, true, true, true, true, true, true, true, true, false] rfl rfl (any_of HT_.out (by kernel_rfl)) (fun _ _ _ h => h) (Or.inl ⟨by rfl, ?_⟩) ?_ ?_
                     rotate_left
                     ·
                      intro w'
                      go_simp
                      with_reducible rfl
                     rotate_left
                     ·
                      simp only [Act.put, List.setIfInBounds_toArray, List.set_cons_zero, List.set_cons_succ, i64_w, i32_w]
                      rfl
                     refine pure_ (i := 10) (N := some 48) (v := ?_) (a' := ?_) #[true, true, true, true, true, true, true, true, true, true, true] rfl rfl (any_of HT_.out (by kernel_rfl)) (fun _ _ _ h => h) (Or.inl ⟨by rfl, ?_⟩) ?_ ?_
                     rotate_left
                     ·
                      intro w'
                      go_simp
                      with_reducible rfl
                     rotate_left
                     ·
                      simp only [Act.put, List.setIfInBounds_toArray, List.set_cons_zero, List.set_cons_succ, i64_w, i32_w]
                      rfl
                     refine done_ (done_of HT_.out (by kernel_rfl)) ?_
                     try go_wp2
                     have n0_ := Aside0.mk (Kd.R_drew HO_7.out)
                     have n1_ := Aside0.mk (blk_drew BK426.out)
                     have n2_ := Aside0.mk (below_drew1 HB.out)
                     clear HO_7
                     clear BK426
                     clear HB
                     have HO_7 := n0_
                     have BK426 := n1_
                     have HB := n2_
                     clear n0_ n1_ n2_
                     have p435 : 0 ≤ (x8_1 : Int) := of_decide_eq_true (by first | (with_reducible assumption) | assumption)
                     have q435 : x8_1 < (l1.length : Int) := of_decide_eq_true (by first | (with_reducible assumption) | assumption)
                     obtain ⟨ad435, e435, hx435_0⟩ := Kd.at_int HR1.out x8_1 p435 q435
                     have hw435_0 := hx435_0
                     obtain rfl : ad431 = ad435 := (by injection e435)
                     replace hx435_0 := (HB.out.cell (World.block_lt_of_cell? w _ hx435_0)).trans hx435_0
                     replace p435 := eq_true p435
                     replace q435 := eq_true q435
                     have p436 : 0 ≤ ((rd l1 x8_1) : Int) := of_decide_eq_true (by first | (with_reducible assumption) | assumption)
                     have q436 : (rd l1 x8_1) < (l0_2.length : Int) := of_decide_eq_true (by first | (with_reducible assumption) | assumption)
                     obtain ⟨ad436, A436_0, c436_0, e436, hx436_0, hl436_0, hi436_0⟩ := at_L1 HR0_2.out (rd l1 x8_1) p436 q436
                     have hw436_0 := hx436_0
                     obtain rfl : ad432 = ad436 := (by injection e436)
                     replace hx436_0 := (HB.out.cell (World.block_lt_of_cell? w _ hx436_0)).trans hx436_0
                     have HR436_0 := Aside0.mk hi436_0
                     have HC436_0 := Aside0.mk hl436_0
                     clear hi436_0 hl436_0
                     replace p436 := eq_true p436
                     replace q436 := eq_true q436
                     have p437 : 0 ≤ (x9_2 : Int) := of_decide_eq_true (by first | (with_reducible assumption) | assumption)
                     have q437 : x9_2 < ((rd_L1 l0_2 (rd l1 x8_1)).length : Int) := of_decide_eq_true (by first | (with_reducible assumption) | assumption)
                     obtain ⟨ad437, e437, hx437_0⟩ := Kd.at_int HR436_0.out x9_2 p437 q437
                     have hw437_0 := hx437_0
                     cases e437
                     replace hx437_0 := (HB.out.cell (World.block_lt_of_cell? w _ hx437_0)).trans hx437_0
                     replace p437 := eq_true p437
                     replace q437 := eq_true q437
                     have p27 : 0 ≤ ((rd (rd_L1 l0_2 (rd l1 x8_1)) x9_2) : Int) := of_decide_eq_true (by first | (with_reducible assumption) | assumption)
                     have q27 : ((rd (rd_L1 l0_2 (rd l1 x8_1)) x9_2) : Int) < ((x7_2.length : Int) : Int) := of_decide_eq_true (by first | (with_reducible assumption) | assumption)
                     obtain ⟨go27, co27, eo27, gb27, gl27, cl27, HG27⟩ := Kd.R_form HO_7.out (by omega)
                     (first | cases eo27 | (injection eo27 with ea_ en_ ec_; (first | subst ea_ | (injection ea_ with ea_; subst ea_)); subst ec_; clear en_))
                     have GB27 := Aside0.mk gb27
                     have GG27 := Aside0.mk HG27
                     clear gb27 gl27 HG27
                     obtain ⟨hx27_0, hf27_0⟩ := Kd.R_celln false HO_7.out ((rd (rd_L1 l0_2 (rd l1 x8_1)) x9_2) : Int) p27 q27
                     replace p27 := eq_true p27
                     replace q27 := eq_true q27
                     have HP30 := Kd.R_putn HO_7.out ((rd (rd_L1 l0_2 (rd l1 x8_1)) x9_2) : Int) true
                     rw [← Ny438.out] at HP30
                     have HQ30 := Aside0.mk HP30
                     clear HP30
                     refine start_ (n := 14) (S := fun w' => w'.cell? ⟨gb426, 0, none⟩ = some (.slice A0_0 l0_0.length c0_0) ∧ w'.cell? ⟨gb426, 1, none⟩ = some (.slice A0_1 l0_1.length c0_1) ∧ w'.cell? ⟨gb426, 2, none⟩ = some (.slice (some ad432) l0_2.length c0_2) ∧ w'.cell? (ad431.add (x8_1).toNat) = some (.int .i64 (rd l1 x8_1)) ∧ w'.cell? (ad432.add ((rd l1 x8_1)).toNat) = some (.slice (some ad437) (rd_L1 l0_2 (rd l1 x8_1)).length c436_0) ∧ w'.cell? (ad437.add (x9_2).toNat) = some (.int .i64 (rd (rd_L1 l0_2 (rd l1 x8_1)) x9_2))) (ds := [13]) #[false, false, false, false, false, false, false, false, false, false, false, false, false, false] (by kernel_rfl) rfl rfl ⟨(blk_cell BK426.out 0).trans rfl, (blk_cell BK426.out 1).trans rfl, (blk_cell BK426.out 2).trans rfl, ((HB.out.cell (World.block_lt_of_cell? w _ hw435_0)).trans hw435_0), ((HB.out.cell (World.block_lt_of_cell? w _ hw436_0)).trans hw436_0), ((HB.out.cell (World.block_lt_of_cell? w _ hw437_0)).trans hw437_0)⟩ (fun hHeld => ?_); refine with_tabW laganref04_short.tab12 laganref04_short.bits12 (fun HT_ HW_ => ?_)
                     generalize w28.drew = w29 at HO_7 BK426 HB GG27 HQ30 HR436_0 hf27_0 hx27_0 hx435_0 hx436_0 hx437_0 hHeld ⊢
                     refine pure_ (i := 0) (N := some 51) (v := ?_) (a' := ?_) #[true, false, false, false, false, false, false, false, false, false, false, false, false, false] rfl rfl (any_of HT_.out (by kernel_rfl)) (fun _ _ _ h => h) (Or.inl ⟨by rfl, ?_⟩) ?_ ?_
                     rotate_left
                     ·
                      intro w'
                      go_simp
                      with_reducible rfl
                     rotate_left
                     ·
                      simp only [Act.put, List.setIfInBounds_toArray, List.set_cons_zero, List.set_cons_succ, i64_w, i32_w]
                      rfl
                     refine pure_ (i := 1) (N := some 52) (v := ?_) (a' := ?_) #[true, true, false, false, false, false, false, false, false, false, false, false, false, false] rfl rfl (any_of HT_.out (by kernel_rfl)) (fun _ _ _ h => h) (Or.inl ⟨by rfl, ?_⟩) ?_ ?_
                     rotate_left
                     ·
                      intro w'
                      go_simp
                      with_reducible rfl
                     rotate_left
                     ·
                      simp only [Act.put, List.setIfInBounds_toArray, List.set_cons_zero, List.set_cons_succ, i64_w, i32_w]
                      rfl
                     refine pure_ (i := 3) (N := some 54) (v := ?_) (a' := ?_) #[true, true, false, true, false, false, false, false, false, false, false, false, false, false] rfl rfl (any_of HT_.out (by kernel_rfl)) (fun _ _ _ h => h) (Or.inl ⟨by rfl, ?_⟩) ?_ ?_
                     rotate_left
                     ·
                      intro w'
                      go_simp
                      with_reducible rfl
                     rotate_left
                     ·
                      simp only [Act.put, List.setIfInBounds_toArray, List.set_cons_zero, List.set_cons_succ, i64_w, i32_w]
                      rfl
                     refine pure_ (i := 4) (N := some 55) (v := ?_) (a' := ?_) #[true, true, false, true, true, false, false, false, false, false, false, false, false, false] rfl rfl (any_of HT_.out (by kernel_rfl)) (fun _ _ _ h => h) (Or.inl ⟨by rfl, ?_⟩) ?_ ?_
                     rotate_left
                     ·
                      intro w'
                      go_simp
                      with_reducible rfl
                     rotate_left
                     ·
                      simp only [Act.put, List.setIfInBounds_toArray, List.set_cons_zero, List.set_cons_succ, i64_w, i32_w]
                      rfl
                     refine pure_ (i := 5) (N := some 56) (v := ?_) (a' := ?_) #[true, true, false, true, true, true, false, false, false, false, false, false, false, false] rfl rfl (any_of HT_.out (by kernel_rfl)) (fun _ _ _ h => h) (Or.inl ⟨by rfl, ?_⟩) ?_ ?_
                     rotate_left
                     ·
                      intro w'
                      go_simp
                      with_reducible rfl
                     rotate_left
                     ·
                      simp only [Act.put, List.setIfInBounds_toArray, List.set_cons_zero, List.set_cons_succ, i64_w, i32_w]
                      rfl
                     refine pure_ (i := 9) (N := some 60) (v := ?_) (a' := ?_) #[true, true, false, true, true, true, false, false, false, true, false, false, false, false] rfl rfl (any_of HT_.out (by kernel_rfl)) (fun _ _ _ h => h) (Or.inl ⟨by rfl, ?_⟩) ?_ ?_
                     rotate_left
                     ·
                      intro w'
                      go_simp
                      with_reducible rfl
                     rotate_left
                     ·
                      simp only [Act.put, List.setIfInBounds_toArray, List.set_cons_zero, List.set_cons_succ, i64_w, i32_w]
                      rfl
                     refine take_ (i := 2) (N := some 53) (v := ?_) (a' := ?_) #[true, true, true, true, true, true, false, false, false, true, false, false, false, false] rfl rfl (take_ofW HT_.out HW_.out (by kernel_rfl)) (fun _ _ _ h => h) (Or.inl ⟨by rfl, ?_⟩) hHeld ?_ ?_
                     rotate_left
                     ·
                      rintro w' ⟨s0, s1, s2, s3, s4, s5⟩
                      go_simp
                      with_reducible rfl
                     rotate_left
                     ·
                      simp only [Act.put, List.setIfInBounds_toArray, List.set_cons_zero, List.set_cons_succ, i64_w, i32_w]
                      rfl
                     refine take_ (i := 6) (N := some 57) (v := ?_) (a' := ?_) #[true, true, true, true, true, true, true, false, false, true, false, false, false, false] rfl rfl (take_ofW HT_.out HW_.out (by kernel_rfl)) (fun _ _ _ h => h) (Or.inl ⟨by rfl, ?_⟩) hHeld ?_ ?_
                     rotate_left
                     ·
                      rintro w' ⟨s0, s1, s2, s3, s4, s5⟩
                      go_simp
                      with_reducible rfl
                     rotate_left
                     ·
                      simp only [Act.put, List.setIfInBounds_toArray, List.set_cons_zero, List.set_cons_succ, i64_w, i32_w]
                      rfl
                     refine pure_ (i := 7) (N := some 58) (v := ?_) (a' := ?_) #[true, true, true, true, true, true, true, true, false, true, false, false, false, false] rfl rfl (any_of HT_.out (by kernel_rfl)) (fun _ _ _ h => h) (Or.inl ⟨by rfl, ?_⟩) ?_ ?_
                     rotate_left
                     ·
                      intro w'
                      go_simp
                      with_reducible rfl
                     rotate_left
                     ·
                      simp only [Act.put, List.setIfInBounds_toArray, List.set_cons_zero, List.set_cons_succ, i64_w, i32_w]
                      rfl
                     refine take_ (i := 8) (N := some 59) (v := ?_) (a' := ?_) #[true, true, true, true, true, true, true, true, true, true, false, false, false, false] rfl rfl (take_ofW HT_.out HW_.out (by kernel_rfl)) (fun _ _ _ h => h) (Or.inl ⟨by rfl, ?_⟩) hHeld ?_ ?_
                     rotate_left
                     ·
                      rintro w' ⟨s0, s1, s2, s3, s4, s5⟩
                      go_simp
                      with_reducible rfl
                     rotate_left
                     ·
                      simp only [Act.put, List.setIfInBounds_toArray, List.set_cons_zero, List.set_cons_succ, i64_w, i32_w]
                      rfl
                     refine pure_ (i := 10) (N := some 61) (v := ?_) (a' := ?_) #[true, true, true, true, true, true, true, true, true, true, true, false, false, false] rfl rfl (any_of HT_.out (by kernel_rfl)) (fun _ _ _ h => h) (Or.inl ⟨by rfl, ?_⟩) ?_ ?_
                     rotate_left
                     ·
                      intro w'
                      go_simp
                      with_reducible rfl
                     rotate_left
                     ·
                      simp only [Act.put, List.setIfInBounds_toArray, List.set_cons_zero, List.set_cons_succ, i64_w, i32_w]
                      rfl
                     refine take_ (i := 11) (N := some 62) (v := ?_) (a' := ?_) #[true, true, true, true, true, true, true, true, true, true, true, true, false, false] rfl rfl (take_ofW HT_.out HW_.out (by kernel_rfl)) (fun _ _ _ h => h) (Or.inl ⟨by rfl, ?_⟩) hHeld ?_ ?_
                     rotate_left
                     ·
                      rintro w' ⟨s0, s1, s2, s3, s4, s5⟩
                      go_simp
                      with_reducible rfl
                     rotate_left
                     ·
                      simp only [Act.put, List.setIfInBounds_toArray, List.set_cons_zero, List.set_cons_succ, i64_w, i32_w]
                      rfl
                     refine pure_ (i := 12) (N := some 63) (v := ?_) (a' := ?_) #[true, true, true, true, true, true, true, true, true, true, true, true, true, false] rfl rfl (any_of HT_.out (by kernel_rfl)) (fun _ _ _ h => h) (Or.inl ⟨by rfl, ?_⟩) ?_ ?_
                     rotate_left
                     ·
                      intro w'
                      go_simp
                      with_reducible rfl
                     rotate_left
                     ·
                      simp only [Act.put, List.setIfInBounds_toArray, List.set_cons_zero, List.set_cons_succ, i64_w, i32_w]
                      rfl
                     refine last_ (i := 13) (N := none) #[true, true, true, true, true, true, true, true, true, true, true, true, true, true] rfl rfl (one_of HT_.out (by kernel_rfl)) (by decide) (fun K hK => ?_)
                     refine skip_ (w1 := ?_) (by rfl) rfl ?_ ?_
                     rotate_left
                     ·
                      go_simp
                      rfl
                     refine hK.out _ _ ?_
                     clear hK K
                     refine done_ (done_of HT_.out (by kernel_rfl)) ?_
                     try go_wp2
                     go_roundg k2
                     case measure => have := HK1.out; have := HK2.out; omega
                     case rel => exact ⟨(y438), (wrap64 (x9_2 + 1)), (by first | rfl | (simp; done) | (simp [*]; done)), H', ⟨by have := HK1.out; have := HK2.out; omega⟩, ⟨by (with_reducible repeat (first | apply Kd.R_alloc | apply Kd.R_drewN | apply Kd.R_drew)); exact HQ30.out⟩, ⟨by (with_reducible repeat (first | refine blk_drewN ?_ _ | refine blk_drew ?_ | refine blk_alloc ?_ _)); refine blk_far ?_ (by have h_ := Kd.R_ne HO_7.out BK426.out (by decide); intro e_; exact h_ (by rw [e_]; rfl)) _; (with_reducible repeat (first | refine blk_drewN ?_ _ | refine blk_drew ?_ | refine blk_alloc ?_ _)); exact BK426.out⟩, ⟨by repeat (first | (with_reducible first | exact HB.out | apply below_alloc | apply pw_below_drewN | apply below_drew1 | refine below_set ?_ GB27.out | refine below_set ?_ GE426.out) | exact HB.out)⟩⟩
                    ·
                     rw [if_neg c26] at H
                     exact absurd H (by simp)
                   ·
                    rw [if_neg c25] at H
                    exact absurd H (by simp)
                  ·
                   rw [if_neg c24] at H
                   exact absurd H (by simp)
                 ·
                  rw [if_neg c23] at H
                  have c23b0 : decide (x9_2 < ((rd_L1 l0_2 (rd l1 x8_1)).length : Int)) = false := decide_eq_false c23
                  clear c23
                  have H' := Aside0.mk H
                  clear H
                  try go_wp2
                  have n0_ := Aside0.mk (Kd.R_drew HO_7.out)
                  have n1_ := Aside0.mk (blk_drew BK426.out)
                  have n2_ := Aside0.mk (below_drew1 HB.out)
                  clear HO_7
                  clear BK426
                  clear HB
                  have HO_7 := n0_
                  have BK426 := n1_
                  have HB := n2_
                  clear n0_ n1_ n2_
                  have p433 : 0 ≤ (x8_1 : Int) := of_decide_eq_true (by first | (with_reducible assumption) | assumption)
                  have q433 : x8_1 < (l1.length : Int) := of_decide_eq_true (by first | (with_reducible assumption) | assumption)
                  obtain ⟨ad433, e433, hx433_0⟩ := Kd.at_int HR1.out x8_1 p433 q433
                  have hw433_0 := hx433_0
                  obtain rfl : ad431 = ad433 := (by injection e433)
                  replace hx433_0 := (HB.out.cell (World.block_lt_of_cell? w _ hx433_0)).trans hx433_0
                  replace p433 := eq_true p433
                  replace q433 := eq_true q433
                  have p434 : 0 ≤ ((rd l1 x8_1) : Int) := of_decide_eq_true (by first | (with_reducible assumption) | assumption)
                  have q434 : (rd l1 x8_1) < (l0_2.length : Int) := of_decide_eq_true (by first | (with_reducible assumption) | assumption)
                  obtain ⟨ad434, A434_0, c434_0, e434, hx434_0, hl434_0, hi434_0⟩ := at_L1 HR0_2.out (rd l1 x8_1) p434 q434
                  have hw434_0 := hx434_0
                  obtain rfl : ad432 = ad434 := (by injection e434)
                  replace hx434_0 := (HB.out.cell (World.block_lt_of_cell? w _ hx434_0)).trans hx434_0
                  have HR434_0 := Aside0.mk hi434_0
                  have HC434_0 := Aside0.mk hl434_0
                  clear hi434_0 hl434_0
                  replace p434 := eq_true p434
                  replace q434 := eq_true q434
                  refine start_ (n := 11) (S := fun w' => w'.cell? ⟨gb426, 0, none⟩ = some (.slice A0_0 l0_0.length c0_0) ∧ w'.cell? ⟨gb426, 1, none⟩ = some (.slice A0_1 l0_1.length c0_1) ∧ w'.cell? ⟨gb426, 2, none⟩ = some (.slice (some ad432) l0_2.length c0_2) ∧ w'.cell? (ad431.add (x8_1).toNat) = some (.int .i64 (rd l1 x8_1)) ∧ w'.cell? (ad432.add ((rd l1 x8_1)).toNat) = some (.slice A434_0 (rd_L1 l0_2 (rd l1 x8_1)).length c434_0)) (ds := []) #[false, false, false, false, false, false, false, false, false, false, false] (by kernel_rfl) rfl rfl ⟨(blk_cell BK426.out 0).trans rfl, (blk_cell BK426.out 1).trans rfl, (blk_cell BK426.out 2).trans rfl, ((HB.out.cell (World.block_lt_of_cell? w _ hw433_0)).trans hw433_0), ((HB.out.cell (World.block_lt_of_cell? w _ hw434_0)).trans hw434_0)⟩ (fun hHeld => ?_); refine with_tabW laganref04_short.tab10 laganref04_short.bits10 (fun HT_ HW_ => ?_)
                  generalize wr.drew = w31 at HO_7 BK426 HB HR434_0 hx433_0 hx434_0 hHeld ⊢
                  refine pure_ (i := 0) (N := some 38) (v := ?_) (a' := ?_) #[true, false, false, false, false, false, false, false, false, false, false] rfl rfl (any_of HT_.out (by kernel_rfl)) (fun _ _ _ h => h) (Or.inl ⟨by rfl, ?_⟩) ?_ ?_
                  rotate_left
                  ·
                   intro w'
                   go_simp
                   with_reducible rfl
                  rotate_left
                  ·
                   simp only [Act.put, List.setIfInBounds_toArray, List.set_cons_zero, List.set_cons_succ, i64_w, i32_w]
                   rfl
                  refine pure_ (i := 1) (N := some 39) (v := ?_) (a' := ?_) #[true, true, false, false, false, false, false, false, false, false, false] rfl rfl (any_of HT_.out (by kernel_rfl)) (fun _ _ _ h => h) (Or.inl ⟨by rfl, ?_⟩) ?_ ?_
                  rotate_left
                  ·
                   intro w'
                   go_simp
                   with_reducible rfl
                  rotate_left
                  ·
                   simp only [Act.put, List.setIfInBounds_toArray, List.set_cons_zero, List.set_cons_succ, i64_w, i32_w]
                   rfl
                  refine pure_ (i := 3) (N := some 41) (v := ?_) (a' := ?_) #[true, true, false, true, false, false, false, false, false, false, false] rfl rfl (any_of HT_.out (by kernel_rfl)) (fun _ _ _ h => h) (Or.inl ⟨by rfl, ?_⟩) ?_ ?_
                  rotate_left
                  ·
                   intro w'
                   go_simp
                   with_reducible rfl
                  rotate_left
                  ·
                   simp only [Act.put, List.setIfInBounds_toArray, List.set_cons_zero, List.set_cons_succ, i64_w, i32_w]
                   rfl
                  refine pure_ (i := 4) (N := some 42) (v := ?_) (a' := ?_) #[true, true, false, true, true, false, false, false, false, false, false] rfl rfl (any_of HT_.out (by kernel_rfl)) (fun _ _ _ h => h) (Or.inl ⟨by rfl, ?_⟩) ?_ ?_
                  rotate_left
                  ·
                   intro w'
                   go_simp
                   with_reducible rfl
                  rotate_left
                  ·
                   simp only [Act.put, List.setIfInBounds_toArray, List.set_cons_zero, List.set_cons_succ, i64_w, i32_w]
                   rfl
                  refine pure_ (i := 5) (N := some 43) (v := ?_) (a' := ?_) #[true, true, false, true, true, true, false, false, false, false, false] rfl rfl (any_of HT_.out (by kernel_rfl)) (fun _ _ _ h => h) (Or.inl ⟨by rfl, ?_⟩) ?_ ?_
                  rotate_left
                  ·
                   intro w'
                   go_simp
                   with_reducible rfl
                  rotate_left
                  ·
                   simp only [Act.put, List.setIfInBounds_toArray, List.set_cons_zero, List.set_cons_succ, i64_w, i32_w]
                   rfl
                  refine take_ (i := 2) (N := some 40) (v := ?_) (a' := ?_) #[true, true, true, true, true, true, false, false, false, false, false] rfl rfl (take_ofW HT_.out HW_.out (by kernel_rfl)) (fun _ _ _ h => h) (Or.inl ⟨by rfl, ?_⟩) hHeld ?_ ?_
                  rotate_left
                  ·
                   rintro w' ⟨s0, s1, s2, s3, s4⟩
                   go_simp
                   with_reducible rfl
                  rotate_left
                  ·
                   simp only [Act.put, List.setIfInBounds_toArray, List.set_cons_zero, List.set_cons_succ, i64_w, i32_w]
                   rfl
                  refine take_ (i := 6) (N := some 44) (v := ?_) (a' := ?_) #[true, true, true, true, true, true, true, false, false, false, false] rfl rfl (take_ofW HT_.out HW_.out (by kernel_rfl)) (fun _ _ _ h => h) (Or.inl ⟨by rfl, ?_⟩) hHeld ?_ ?_
                  rotate_left
                  ·
                   rintro w' ⟨s0, s1, s2, s3, s4⟩
                   go_simp
                   with_reducible rfl
                  rotate_left
                  ·
                   simp only [Act.put, List.setIfInBounds_toArray, List.set_cons_zero, List.set_cons_succ, i64_w, i32_w]
                   rfl
                  refine pure_ (i := 7) (N := some 45) (v := ?_) (a' := ?_) #[true, true, true, true, true, true, true, true, false, false, false] rfl rfl (any_of HT_.out (by kernel_rfl)) (fun _ _ _ h => h) (Or.inl ⟨by rfl, ?_⟩) ?_ ?_
                  rotate_left
                  ·
                   intro w'
                   go_simp
                   with_reducible rfl
                  rotate_left
                  ·
                   simp only [Act.put, List.setIfInBounds_toArray, List.set_cons_zero, List.set_cons_succ, i64_w, i32_w]
                   rfl
                  refine take_ (i := 8) (N := some 46) (v := ?_) (a' := ?_) #[true, true, true, true, true, true, true, true, true, false, false] rfl rfl (take_ofW HT_.out HW_.out (by kernel_rfl)) (fun _ _ _ h => h) (Or.inl ⟨by rfl, ?_⟩) hHeld ?_ ?_
                  rotate_left
                  ·
                   rintro w' ⟨s0, s1, s2, s3, s4⟩
                   go_simp
                   with_reducible rfl
                  rotate_left
                  ·
                   simp only [Act.put, List.setIfInBounds_toArray, List.set_cons_zero, List.set_cons_succ, i64_w, i32_w]
                   rfl
                  refine pure_ (i := 9) (N := some 47) (v := ?_) (a' := ?_) #[true, true, true, true, true, true, true, true, true, true, false] rfl rfl (any_of HT_.out (by kernel_rfl)) (fun _ _ _ h => h) (Or.inl ⟨by rfl, ?_⟩) ?_ ?_
                  rotate_left
                  ·
                   intro w'
                   go_simp
                   with_reducible rfl
                  rotate_left
                  ·
                   simp only [Act.put, List.setIfInBounds_toArray, List.set_cons_zero, List.set_cons_succ, i64_w, i32_w]
                   rfl
                  refine pure_ (i := 10) (N := some 48) (v := ?_) (a' := ?_) #[true, true, true, true, true, true, true, true, true, true, true] rfl rfl (any_of HT_.out (by kernel_rfl)) (fun _ _ _ h => h) (Or.inl ⟨by rfl, ?_⟩) ?_ ?_
                  rotate_left
                  ·
                   intro w'
                   go_simp
                   with_reducible rfl
                  rotate_left
                  ·
                   simp only [Act.put, List.setIfInBounds_toArray, List.set_cons_zero, List.set_cons_succ, i64_w, i32_w]
                   rfl
                  refine done_ (done_of HT_.out (by kernel_rfl)) ?_
                  try go_wp2
                  go_roundg k2
                  case measure => have := HK1.out; have := HK2.out; omega
                  case rel => exact ⟨(x7_2), (wrap64 (x8_1 + 1)), (by first | rfl | (simp; done) | (simp [*]; done)), H', ⟨by have := HK1.out; have := HK2.out; omega⟩, ⟨by (with_reducible repeat (first | apply Kd.R_alloc | apply Kd.R_drewN | apply Kd.R_drew)); exact HO_7.out⟩, ⟨by (with_reducible repeat (first | refine blk_drewN ?_ _ | refine blk_drew ?_ | refine blk_alloc ?_ _)); exact BK426.out⟩, ⟨by repeat (first | (with_reducible first | exact HB.out | apply below_alloc | apply pw_below_drewN | apply below_drew1 | refine below_set ?_ GE426.out) | exact HB.out)⟩⟩
                ·
                 rw [if_neg c22] at H
                 exact absurd H (by simp)
               ·
                rw [if_neg c21] at H
                exact absurd H (by simp)
              ·
               rw [if_neg c20] at H
               exact absurd H (by simp)
             ·
              rw [if_neg c19] at H
              exact absurd H (by simp)
         ·
          rw [if_neg c15] at H
          exact absurd H (by simp)
        ·
         rw [if_neg c14] at H
         exact absurd H (by simp)
       ·
        rw [if_neg c13] at H
        exact absurd H (by simp)
      ·
       rw [if_neg c12] at H
       have c12b0 : decide (x8_1 < (l1.length : Int)) = false := decide_eq_false c12
       clear c12
       have H' := Aside0.mk H
       clear H
       go_wp2
       go_loopg [10, 11] k1 (fun kq v10 v11 w' => ∃ (x10_2 : Int) (x11_2 : Int), v10 = .int .i64 x10_2 ∧ v11 = .int .i64 x11_2 ∧ Aside0 (laganref04_short.l2 kq l1 a2 x7_1 x10_2 x11_2 l0_0 l0_1 l0_2 = some r) ∧ Aside0 (kq ≤ k1) ∧ Aside0 (Kd.R Kd.bool 4 w' w.heap.size (fun _ => True) v429 x7_1) ∧ Aside0 (w'.heap[gb426]? = some (.cells #[(.slice A0_0 l0_0.length c0_0), (.slice A0_1 l0_1.length c0_1), (.slice A0_2 l0_2.length c0_2)] 26 (0, 0))) ∧ Aside0 (Below w.heap.size w w'))
       case atStart => exact ⟨(0), (0), (by first | rfl | (simp; done) | (simp [*]; done)), (by first | rfl | (simp; done) | (simp [*]; done)), H', ⟨Nat.le_refl _⟩, ⟨by (with_reducible repeat (first | apply Kd.R_alloc | apply Kd.R_drewN | apply Kd.R_drew)); exact HO_7.out⟩, ⟨by (with_reducible repeat (first | refine blk_drewN ?_ _ | refine blk_drew ?_ | refine blk_alloc ?_ _)); exact BK426.out⟩, ⟨by repeat (first | (with_reducible first | exact HB.out | apply below_alloc | apply pw_below_drewN | apply below_drew1 | refine below_set ?_ GE426.out) | exact HB.out)⟩⟩
       case round =>
        clear H'
        try clear c1
        try clear c2
        try clear p2
        try clear q2
        try clear hx2
        try clear c4
        try clear p4
        try clear q4
        try clear hx4
        try clear c5
        try clear c6
        try clear c6b0
        try clear c6b1
        try clear p6
        try clear c7
        try clear c7b0
        try clear c7b1
        try clear c12
        try clear c12b0
        try clear c13
        try clear c13b0
        try clear c14
        try clear c14b0
        try clear c15
        try clear c15b0
        try clear c16
        try clear c16b0
        try clear c16b1
        try clear c16b2
        try clear c19
        try clear c19b0
        try clear c20
        try clear c20b0
        try clear c21
        try clear c21b0
        try clear c22
        try clear c22b0
        try clear c23
        try clear c23b0
        try clear c24
        try clear c24b0
        try clear c25
        try clear c25b0
        try clear c26
        try clear c26b0
        try clear p27
        try clear q27
        try clear hx27
        try clear hf27
        try clear hcz9_0
        try clear hcz9_1
        try clear hcz9_2
        try clear hfz9_0
        try clear hfz9_1
        try clear hfz9_2
        try clear hx27_0
        try clear hx431_0
        try clear hx432_0
        try clear hx433_0
        try clear hx434_0
        try clear hx435_0
        try clear hx436_0
        try clear hx437_0
        try clear p2
        try clear p27
        try clear p4
        try clear p431
        try clear p432
        try clear p433
        try clear p434
        try clear p435
        try clear p436
        try clear p437
        try clear q27
        try clear q4
        try clear q431
        try clear q432
        try clear q433
        try clear q434
        try clear q435
        try clear q436
        try clear q437
        obtain ⟨x10_2, x11_2, rfl, rfl, HA, HK2, HO_7, BK426, HB⟩ := hrel
        cases gk with
        | zero => exact absurd HA.out (by simp [laganref04_short.l2])
        | succ k2 =>
         have H := HA.out
         clear HA
         simp only [laganref04_short.l2] at H
         by_cases c32 : x11_2 < (x7_1.length : Int)
         ·
          rw [if_pos c32] at H
          have c32b0 : decide (x11_2 < (x7_1.length : Int)) = true := decide_eq_true c32
          clear c32
          by_cases c33 : 0 ≤ x11_2
          ·
           rw [if_pos c33] at H
           have c33b0 : decide (0 ≤ x11_2) = true := decide_eq_true c33
           clear c33
           obtain ⟨bq34, hbq34⟩ : ∃ b_ : Bool, b_ = (rdOf false x7_1 x11_2) := ⟨_, rfl⟩
           replace H : (if bq34 = true then (if x11_2 < (l0_1.length : Int) then (if x11_2 = a2 then (laganref04_short.l2 k2 l1 a2 x7_1 (wrap64 ((wrap64 (x10_2 + ((rd_T50 l0_1 x11_2).f2))) - 1)) (wrap64 (x11_2 + 1)) l0_0 l0_1 l0_2) else (laganref04_short.l2 k2 l1 a2 x7_1 (wrap64 (x10_2 + ((rd_T50 l0_1 x11_2).f2))) (wrap64 (x11_2 + 1)) l0_0 l0_1 l0_2)) else (none)) else (laganref04_short.l2 k2 l1 a2 x7_1 x10_2 (wrap64 (x11_2 + 1)) l0_0 l0_1 l0_2)) = some r := by rw [← hbq34] at H; exact H
           have Nbq34 := Aside0.mk hbq34
           clear hbq34
           by_cases c35 : bq34 = true
           ·
            subst c35
            have H1 : (if x11_2 < (l0_1.length : Int) then (if x11_2 = a2 then (laganref04_short.l2 k2 l1 a2 x7_1 (wrap64 ((wrap64 (x10_2 + ((rd_T50 l0_1 x11_2).f2))) - 1)) (wrap64 (x11_2 + 1)) l0_0 l0_1 l0_2) else (laganref04_short.l2 k2 l1 a2 x7_1 (wrap64 (x10_2 + ((rd_T50 l0_1 x11_2).f2))) (wrap64 (x11_2 + 1)) l0_0 l0_1 l0_2)) else (none)) = some r := by rw [if_pos rfl] at H; exact H
            clear H
            have H := H1
            clear H1
            by_cases c36 : x11_2 < (l0_1.length : Int)
            ·
             rw [if_pos c36] at H
             have c36b0 : decide (x11_2 < (l0_1.length : Int)) = true := decide_eq_true c36
             clear c36
             by_cases c37 : x11_2 = a2
             ·
              rw [if_pos c37] at H
              have c37b0 : (x11_2 == a2) = true := beq_iff_eq.mpr c37
              have c37b1 : (x11_2 != a2) = false := bne_eq_false_iff_eq.mpr c37
              clear c37
              have H' := Aside0.mk H
              clear H
              obtain ⟨Ao38, co38, eo38⟩ := Kd.R_slice HO_7.out
              subst eo38
              have p439 : 0 ≤ (x11_2 : Int) := of_decide_eq_true (by first | (with_reducible assumption) | assumption)
              have q439 : x11_2 < (x7_1.length : Int) := of_decide_eq_true (by first | (with_reducible assumption) | assumption)
              obtain ⟨ad439, e439, hx439_0⟩ := Kd.at_bool (Kd.R_reads' HO_7.out).2.2 x11_2 p439 q439
              (try rw [← Nbq34.out] at hx439_0)
              cases e439
              replace p439 := eq_true p439
              replace q439 := eq_true q439
              have hcz39_0 : wr.cell? ⟨gb426, 0, none⟩ = some (.slice A0_0 l0_0.length c0_0) := (blk_cell BK426.out 0).trans rfl
              have hcz39_1 : wr.cell? ⟨gb426, 1, none⟩ = some (.slice A0_1 l0_1.length c0_1) := (blk_cell BK426.out 1).trans rfl
              have hcz39_2 : wr.cell? ⟨gb426, 2, none⟩ = some (.slice A0_2 l0_2.length c0_2) := (blk_cell BK426.out 2).trans rfl
              have hfz39_0 := blk_frozen BK426.out 0
              have hfz39_1 := blk_frozen BK426.out 1
              have hfz39_2 := blk_frozen BK426.out 2
              have p440 : 0 ≤ (x11_2 : Int) := of_decide_eq_true (by first | (with_reducible assumption) | assumption)
              have q440 : x11_2 < (l0_1.length : Int) := of_decide_eq_true (by first | (with_reducible assumption) | assumption)
              obtain ⟨ad440, e440, hx440_0, hx440_1, hx440_2⟩ := at_T50 HR0_1.out x11_2 p440 q440
              cases e440
              replace hx440_0 := (HB.out.cell (World.block_lt_of_cell? w _ hx440_0)).trans hx440_0
              replace hx440_1 := (HB.out.cell (World.block_lt_of_cell? w _ hx440_1)).trans hx440_1
              replace hx440_2 := (HB.out.cell (World.block_lt_of_cell? w _ hx440_2)).trans hx440_2
              replace p440 := eq_true p440
              replace q440 := eq_true q440
              have p441 : 0 ≤ (x11_2 : Int) := of_decide_eq_true (by first | (with_reducible assumption) | assumption)
              have q441 : x11_2 < (x7_1.length : Int) := of_decide_eq_true (by first | (with_reducible assumption) | assumption)
              obtain ⟨ad441, e441, hx441_0⟩ := Kd.at_bool (Kd.R_reads' HO_7.out).2.2 x11_2 p441 q441
              (try rw [← Nbq34.out] at hx441_0)
              obtain rfl : ad439 = ad441 := (by injection e441)
              replace p441 := eq_true p441
              replace q441 := eq_true q441
              go_wp2
              go_roundg k2
              case measure => have := HK1.out; have := HK2.out; omega
              case rel => exact ⟨(wrap64 ((wrap64 (x10_2 + ((rd_T50 l0_1 x11_2).f2))) - 1)), (wrap64 (x11_2 + 1)), (by first | rfl | (simp; done) | (simp [*]; done)), (by first | rfl | (simp; done) | (simp [*]; done)), H', ⟨by have := HK1.out; have := HK2.out; omega⟩, ⟨by (with_reducible repeat (first | apply Kd.R_alloc | apply Kd.R_drewN | apply Kd.R_drew)); exact HO_7.out⟩, ⟨by (with_reducible repeat (first | refine blk_drewN ?_ _ | refine blk_drew ?_ | refine blk_alloc ?_ _)); exact BK426.out⟩, ⟨by repeat (first | (with_reducible first | exact HB.out | apply below_alloc | apply pw_below_drewN | apply below_drew1 | refine below_set ?_ GE426.out) | exact HB.out)⟩⟩
             ·
              rw [if_neg c37] at H
              have c37b0 : (x11_2 == a2) = false := beq_eq_false_iff_ne.mpr c37
              have c37b1 : (x11_2 != a2) = true := bne_iff_ne.mpr c37
              have H' := Aside0.mk H
              clear H
              obtain ⟨Ao40, co40, eo40⟩ := Kd.R_slice HO_7.out
              subst eo40
              have p439 : 0 ≤ (x11_2 : Int) := of_decide_eq_true (by first | (with_reducible assumption) | assumption)
              have q439 : x11_2 < (x7_1.length : Int) := of_decide_eq_true (by first | (with_reducible assumption) | assumption)
              obtain ⟨ad439, e439, hx439_0⟩ := Kd.at_bool (Kd.R_reads' HO_7.out).2.2 x11_2 p439 q439
              (try rw [← Nbq34.out] at hx439_0)
              cases e439
              replace p439 := eq_true p439
              replace q439 := eq_true q439
              have hcz41_0 : wr.cell? ⟨gb426, 0, none⟩ = some (.slice A0_0 l0_0.length c0_0) := (blk_cell BK426.out 0).trans rfl
              have hcz41_1 : wr.cell? ⟨gb426, 1, none⟩ = some (.slice A0_1 l0_1.length c0_1) := (blk_cell BK426.out 1).trans rfl
              have hcz41_2 : wr.cell? ⟨gb426, 2, none⟩ = some (.slice A0_2 l0_2.length c0_2) := (blk_cell BK426.out 2).trans rfl
              have hfz41_0 := blk_frozen BK426.out 0
              have hfz41_1 := blk_frozen BK426.out 1
              have hfz41_2 := blk_frozen BK426.out 2
              have p440 : 0 ≤ (x11_2 : Int) := of_decide_eq_true (by first | (with_reducible assumption) | assumption)
              have q440 : x11_2 < (l0_1.length : Int) := of_decide_eq_true (by first | (with_reducible assumption) | assumption)
              obtain ⟨ad440, e440, hx440_0, hx440_1, hx440_2⟩ := at_T50 HR0_1.out x11_2 p440 q440
              cases e440
              replace hx440_0 := (HB.out.cell (World.block_lt_of_cell? w _ hx440_0)).trans hx440_0
              replace hx440_1 := (HB.out.cell (World.block_lt_of_cell? w _ hx440_1)).trans hx440_1
              replace hx440_2 := (HB.out.cell (World.block_lt_of_cell? w _ hx440_2)).trans hx440_2
              replace p440 := eq_true p440
              replace q440 := eq_true q440
              have p441 : 0 ≤ (x11_2 : Int) := of_decide_eq_true (by first | (with_reducible assumption) | assumption)
              have q441 : x11_2 < (x7_1.length : Int) := of_decide_eq_true (by first | (with_reducible assumption) | assumption)
              obtain ⟨ad441, e441, hx441_0⟩ := Kd.at_bool (Kd.R_reads' HO_7.out).2.2 x11_2 p441 q441
              (try rw [← Nbq34.out] at hx441_0)
              obtain rfl : ad439 = ad441 := (by injection e441)
              replace p441 := eq_true p441
              replace q441 := eq_true q441
              go_wp2
              go_roundg k2
              case measure => have := HK1.out; have := HK2.out; omega
              case rel => exact ⟨(wrap64 (x10_2 + ((rd_T50 l0_1 x11_2).f2))), (wrap64 (x11_2 + 1)), (by first | rfl | (simp; done) | (simp [*]; done)), (by first | rfl | (simp; done) | (simp [*]; done)), H', ⟨by have := HK1.out; have := HK2.out; omega⟩, ⟨by (with_reducible repeat (first | apply Kd.R_alloc | apply Kd.R_drewN | apply Kd.R_drew)); exact HO_7.out⟩, ⟨by (with_reducible repeat (first | refine blk_drewN ?_ _ | refine blk_drew ?_ | refine blk_alloc ?_ _)); exact BK426.out⟩, ⟨by repeat (first | (with_reducible first | exact HB.out | apply below_alloc | apply pw_below_drewN | apply below_drew1 | refine below_set ?_ GE426.out) | exact HB.out)⟩⟩
            ·
             rw [if_neg c36] at H
             exact absurd H (by simp)
           ·
            replace c35 := Bool.eq_false_iff.mpr c35
            subst c35
            have H1 : (laganref04_short.l2 k2 l1 a2 x7_1 x10_2 (wrap64 (x11_2 + 1)) l0_0 l0_1 l0_2) = some r := by rw [if_neg (show ¬ (false = true) by decide)] at H; exact H
            clear H
            have H := H1
            clear H1
            have H' := Aside0.mk H
            clear H
            obtain ⟨Ao42, co42, eo42⟩ := Kd.R_slice HO_7.out
            subst eo42
            have p439 : 0 ≤ (x11_2 : Int) := of_decide_eq_true (by first | (with_reducible assumption) | assumption)
            have q439 : x11_2 < (x7_1.length : Int) := of_decide_eq_true (by first | (with_reducible assumption) | assumption)
            obtain ⟨ad439, e439, hx439_0⟩ := Kd.at_bool (Kd.R_reads' HO_7.out).2.2 x11_2 p439 q439
            (try rw [← Nbq34.out] at hx439_0)
            cases e439
            replace p439 := eq_true p439
            replace q439 := eq_true q439
            have p442 : 0 ≤ (x11_2 : Int) := of_decide_eq_true (by first | (with_reducible assumption) | assumption)
            have q442 : x11_2 < (x7_1.length : Int) := of_decide_eq_true (by first | (with_reducible assumption) | assumption)
            obtain ⟨ad442, e442, hx442_0⟩ := Kd.at_bool (Kd.R_reads' HO_7.out).2.2 x11_2 p442 q442
            (try rw [← Nbq34.out] at hx442_0)
            obtain rfl : ad439 = ad442 := (by injection e442)
            replace p442 := eq_true p442
            replace q442 := eq_true q442
            go_wp2
            go_roundg k2
            case measure => have := HK1.out; have := HK2.out; omega
            case rel => exact ⟨(x10_2), (wrap64 (x11_2 + 1)), (by first | rfl | (simp; done) | (simp [*]; done)), (by first | rfl | (simp; done) | (simp [*]; done)), H', ⟨by have := HK1.out; have := HK2.out; omega⟩, ⟨by (with_reducible repeat (first | apply Kd.R_alloc | apply Kd.R_drewN | apply Kd.R_drew)); exact HO_7.out⟩, ⟨by (with_reducible repeat (first | refine blk_drewN ?_ _ | refine blk_drew ?_ | refine blk_alloc ?_ _)); exact BK426.out⟩, ⟨by repeat (first | (with_reducible first | exact HB.out | apply below_alloc | apply pw_below_drewN | apply below_drew1 | refine below_set ?_ GE426.out) | exact HB.out)⟩⟩
          ·
           rw [if_neg c33] at H
           exact absurd H (by simp)
         ·
          rw [if_neg c32] at H
          have c32b0 : decide (x11_2 < (x7_1.length : Int)) = false := decide_eq_false c32
          clear c32
          obtain rfl := Option.some.inj H
          obtain ⟨Ao43, co43, eo43⟩ := Kd.R_slice HO_7.out
          subst eo43
          go_wp2
          go_ret
          exact ⟨by first | rfl | (simp [errW_none, errW_some] <;> rfl) | (simp [*, errW_none, errW_some] <;> rfl), by repeat (first | (with_reducible first | exact HB.out | apply below_alloc | apply pw_below_drewN | apply below_drew1 | refine below_set ?_ GE426.out) | exact HB.out)⟩
   ·
    rw [if_neg c7] at H
    exact absurd H (by simp)
  ·
   rw [if_neg c6] at H
   exact absurd H (by simp)
 ·
  replace c5 := Bool.eq_false_iff.mpr c5
  subst c5
  have H1 : (some false) = some r := by rw [if_neg (show ¬ (false = true) by decide)] at H; exact H
  clear H
  have H := H1
  clear H1
  obtain rfl := Option.some.inj H
  go_enter Try.func73, Try.ntmps73
  go_wp2_with (first | ((with_reducible refine gate_dst (N := 3) rfl ?_); refine box_event ?hg (N := 3) ?hd (cs := #[.slice A0_0 l0_0.length c0_0, .slice A0_1 l0_1.length c0_1, .slice A0_2 l0_2.length c0_2]) (t := 26) ?hr ?_; (case hd => rfl); (case hg => rfl); (case hr => first | (go_simp; done) | (go_simp; rfl)); intro gb426 hg w44 hbox hb; have n0_ := Aside0.mk (below_step (by repeat (first | (with_reducible first | exact HB.out | apply below_alloc | apply pw_below_drewN | apply below_drew1) | exact HB.out)) hb); have n1_ := Aside0.mk (hbox); have n2_ := Aside0.mk ((by rw [hg]; exact (below_size (by repeat (first | (with_reducible first | exact HB.out | apply below_alloc | apply pw_below_drewN | apply below_drew1) | exact HB.out))) : w.heap.size ≤ gb426)); have n3_ := Aside0.mk ((by rw [hg]; exact (below_size (by repeat (first | (with_reducible first | exact HB.out | apply below_alloc | apply pw_below_drewN | apply below_drew1) | exact HB.out))) : w.heap.size ≤ gb426)); clear HB; have HB := n0_; have BK426 := n1_; have GW426 := n2_; have GE426 := n3_; clear n0_ n1_ n2_ n3_; clear hb hbox hg; have hcz45_0 : w44.cell? ⟨gb426, 0, none⟩ = some (.slice A0_0 l0_0.length c0_0) := (blk_cell BK426.out 0).trans rfl; have hcz45_1 : w44.cell? ⟨gb426, 1, none⟩ = some (.slice A0_1 l0_1.length c0_1) := (blk_cell BK426.out 1).trans rfl; have hcz45_2 : w44.cell? ⟨gb426, 2, none⟩ = some (.slice A0_2 l0_2.length c0_2) := (blk_cell BK426.out 2).trans rfl; have hfz45_0 := blk_frozen BK426.out 0; have hfz45_1 := blk_frozen BK426.out 1; have hfz45_2 := blk_frozen BK426.out 2) | ((with_reducible refine gate_callee (f := 62) rfl ?_); refine goesL_ (some 16) rfl rfl Try.func62 (by kernel_rfl) rfl #[.slice A1 l1.length c1, .int .i64 (l0_0.length : Int)] rfl (by (try simp only [List.map_toArray, List.map_cons, List.map_nil]); first | done | rfl | (simp only [List.length_drop, List.length_take]; rfl)) ?_; (with_reducible refine (laganref04_ascending.calls k _ _ l1 (l0_0.length : Int) false _ ?side1 ?side2 A4.out).mono ?_); (case side1 => repeat (first | exact (Kd.C_below HR1.out HB.out) | (with_reducible refine Kd.C_alloc ?_ _) | (with_reducible refine Kd.C_drewN ?_ _) | (with_reducible refine Kd.C_drew ?_))); (case side2 => exact HC1.out); rintro e w' ⟨rfl, ⟨nd, rfl⟩⟩; refine ⟨_, rfl, ?_⟩))
  go_ret
  exact ⟨by first | rfl | (simp [errW_none, errW_some] <;> rfl) | (simp [*, errW_none, errW_some] <;> rfl), by repeat (first | (with_reducible first | exact HB.out | apply below_alloc | apply pw_below_drewN | apply below_drew1 | refine below_set ?_ GE426.out) | exact HB.out)⟩
def laganref04_CheckRefuse.f (k : Nat) (l0_0 : List Int) (l0_1 : List (S50)) (l0_2 : List (List Int)) (a1 : Int) (a2 : Int) (l3 : List Int) : Option (Bool × Int) := (laganref04_there.f k l0_0 l0_1 l0_2 a1 a2).bind fun t444 => (if t444 = 0 then (if 0 ≤ a1 then (if a1 < (l0_2.length : Int) then ((laganref04_Has.f k (rd_L1 l0_2 a1) a2).bind fun t446 => (if t446 = true then ((laganref04_Has.f k l3 a1).bind fun t447 => (if t447 = true then (some (false, 0)) else ((laganref04_short.f k l0_0 l0_1 l0_2 l3 a2).bind fun t448 => (some (t448, 0))))) else (some (((l3.length : Int) == 0), 0)))) else (none)) else (none)) else (some (false, t444)))
theorem laganref04_CheckRefuse.mono : ∀ a0 a1 a2 a3 a4 a5 k, LeO (laganref04_CheckRefuse.f k a0 a1 a2 a3 a4 a5) (laganref04_CheckRefuse.f (k + 1) a0 a1 a2 a3 a4 a5) := by
 intro a0 a1 a2 a3 a4 a5 k
 unfold laganref04_CheckRefuse.f
 repeat' first
   | (with_reducible exact laganref04_Has.mono _ _ _)
   | (with_reducible exact laganref04_short.mono _ _ _ _ _ _)
   | (with_reducible exact laganref04_there.mono _ _ _ _ _ _)
   | (with_reducible exact LeO.refl _)
   | (with_reducible exact LeO.none _)
   | (with_reducible refine LeO.ite ?_ ?_)
   | (with_reducible refine LeO.bind ?_ (fun _ => ?_))
   | exact laganref04_Has.mono _ _ _
   | exact laganref04_short.mono _ _ _ _ _ _
   | exact laganref04_there.mono _ _ _ _ _ _
   | exact LeO.none _
   | refine LeO.ite ?_ ?_
   | refine LeO.bind ?_ (fun _ => ?_)
set_option maxHeartbeats 8000000 in
set_option maxRecDepth 100000 in
theorem laganref04_CheckRefuse.calls (k : Nat) (A0_0 : Option Addr) (c0_0 : Nat) (l0_0 : List Int) (A0_1 : Option Addr) (c0_1 : Nat) (l0_1 : List (S50)) (A0_2 : Option Addr) (c0_2 : Nat) (l0_2 : List (List Int)) (a1 : Int) (a2 : Int) (A3 : Option Addr) (c3 : Nat) (l3 : List Int) (r1 : Bool) (r2 : Int) (w : World) (hr0_0 : Kd.C (Kd.int .i64) w A0_0 l0_0.length l0_0) (hc0_0 : l0_0.length ≤ c0_0) (hr0_1 : Kd.C k50 w A0_1 l0_1.length l0_1) (hc0_1 : l0_1.length ≤ c0_1) (hr0_2 : Kd.C (Kd.slice 3 (Kd.int .i64)) w A0_2 l0_2.length l0_2) (hc0_2 : l0_2.length ≤ c0_2) (hr3 : Kd.C (Kd.int .i64) w A3 l3.length l3) (hc3 : l3.length ≤ c3) (h : laganref04_CheckRefuse.f k l0_0 l0_1 l0_2 a1 a2 l3 = some (r1, r2)) :
  Calls Try.prog 35 #[.agg #[.slice A0_0 l0_0.length c0_0, .slice A0_1 l0_1.length c0_1, .slice A0_2 l0_2.length c0_2], .int .i64 a1, .int .i64 a2, .slice A3 l3.length c3] w fun e w' => e = .returned (.tuple #[.bool r1, .int .i64 r2]) ∧ Below w.heap.size w w' := by
 have hu26 := Try.underlying26
 have HR0_0 := Aside0.mk hr0_0
 have HC0_0 := Aside0.mk hc0_0
 clear hr0_0 hc0_0
 have HR0_1 := Aside0.mk hr0_1
 have HC0_1 := Aside0.mk hc0_1
 clear hr0_1 hc0_1
 have HR0_2 := Aside0.mk hr0_2
 have HC0_2 := Aside0.mk hc0_2
 clear hr0_2 hc0_2
 have HR3 := Aside0.mk hr3
 have HC3 := Aside0.mk hc3
 clear hr3 hc3
 have HB := Aside0.mk (Below.refl w.heap.size w)
 have H : ((laganref04_there.f k l0_0 l0_1 l0_2 a1 a2).bind fun t444 => (if t444 = 0 then (if 0 ≤ a1 then (if a1 < (l0_2.length : Int) then ((laganref04_Has.f k (rd_L1 l0_2 a1) a2).bind fun t446 => (if t446 = true then ((laganref04_Has.f k l3 a1).bind fun t447 => (if t447 = true then (some (false, 0)) else ((laganref04_short.f k l0_0 l0_1 l0_2 l3 a2).bind fun t448 => (some (t448, 0))))) else (some (((l3.length : Int) == 0), 0)))) else (none)) else (none)) else (some (false, t444)))) = some (r1, r2) := h
 clear h
 replace H := Option.bind_eq_some_iff.mp H
 obtain ⟨t444, A50, H⟩ := H
 replace H : (if t444 = 0 then (if 0 ≤ a1 then (if a1 < (l0_2.length : Int) then ((laganref04_Has.f k (rd_L1 l0_2 a1) a2).bind fun t446 => (if t446 = true then ((laganref04_Has.f k l3 a1).bind fun t447 => (if t447 = true then (some (false, 0)) else ((laganref04_short.f k l0_0 l0_1 l0_2 l3 a2).bind fun t448 => (some (t448, 0))))) else (some (((l3.length : Int) == 0), 0)))) else (none)) else (none)) else (some (false, t444))) = some (r1, r2) := H
 have A5 := Aside0.mk A50
 clear A50
 by_cases c6 : t444 = 0
 ·
  rw [if_pos c6] at H
  have c6b0 : (t444 == 0) = true := beq_iff_eq.mpr c6
  have c6b1 : (t444 != 0) = false := bne_eq_false_iff_eq.mpr c6
  clear c6
  by_cases c7 : 0 ≤ a1
  ·
   rw [if_pos c7] at H
   have c7b0 : decide (0 ≤ a1) = true := decide_eq_true c7
   clear c7
   by_cases c8 : a1 < (l0_2.length : Int)
   ·
    rw [if_pos c8] at H
    have c8b0 : decide (a1 < (l0_2.length : Int)) = true := decide_eq_true c8
    clear c8
    replace H := Option.bind_eq_some_iff.mp H
    obtain ⟨t446, A90, H⟩ := H
    replace H : (if t446 = true then ((laganref04_Has.f k l3 a1).bind fun t447 => (if t447 = true then (some (false, 0)) else ((laganref04_short.f k l0_0 l0_1 l0_2 l3 a2).bind fun t448 => (some (t448, 0))))) else (some (((l3.length : Int) == 0), 0))) = some (r1, r2) := H
    have A9 := Aside0.mk A90
    clear A90
    by_cases c10 : t446 = true
    ·
     subst c10
     have H1 : ((laganref04_Has.f k l3 a1).bind fun t447 => (if t447 = true then (some (false, 0)) else ((laganref04_short.f k l0_0 l0_1 l0_2 l3 a2).bind fun t448 => (some (t448, 0))))) = some (r1, r2) := by rw [if_pos rfl] at H; exact H
     clear H
     have H := H1
     clear H1
     replace H := Option.bind_eq_some_iff.mp H
     obtain ⟨t447, A110, H⟩ := H
     replace H : (if t447 = true then (some (false, 0)) else ((laganref04_short.f k l0_0 l0_1 l0_2 l3 a2).bind fun t448 => (some (t448, 0)))) = some (r1, r2) := H
     have A11 := Aside0.mk A110
     clear A110
     by_cases c12 : t447 = true
     ·
      subst c12
      have H1 : (some (false, 0)) = some (r1, r2) := by rw [if_pos rfl] at H; exact H
      clear H
      have H := H1
      clear H1
      simp only [Option.some.injEq, Prod.mk.injEq] at H
      obtain ⟨rfl, rfl⟩ := H
      go_enter Try.func35, Try.ntmps35
      go_wp2_with (first | ((with_reducible refine gate_dst (N := 4) rfl ?_); refine box_event ?hg (N := 4) ?hd (cs := #[.slice A0_0 l0_0.length c0_0, .slice A0_1 l0_1.length c0_1, .slice A0_2 l0_2.length c0_2]) (t := 26) ?hr ?_; (case hd => rfl); (case hg => rfl); (case hr => first | (go_simp; done) | (go_simp; rfl)); intro gb443 hg w13 hbox hb; have n0_ := Aside0.mk (below_step (by repeat (first | (with_reducible first | exact HB.out | apply below_alloc | apply pw_below_drewN | apply below_drew1) | exact HB.out)) hb); have n1_ := Aside0.mk (hbox); have n2_ := Aside0.mk ((by rw [hg]; exact (below_size (by repeat (first | (with_reducible first | exact HB.out | apply below_alloc | apply pw_below_drewN | apply below_drew1) | exact HB.out))) : w.heap.size ≤ gb443)); have n3_ := Aside0.mk ((by rw [hg]; exact (below_size (by repeat (first | (with_reducible first | exact HB.out | apply below_alloc | apply pw_below_drewN | apply below_drew1) | exact HB.out))) : w.heap.size ≤ gb443)); clear HB; have HB := n0_; have BK443 := n1_; have GW443 := n2_; have GE443 := n3_; clear n0_ n1_ n2_ n3_; clear hb hbox hg; have hcz14_0 : w13.cell? ⟨gb443, 0, none⟩ = some (.slice A0_0 l0_0.length c0_0) := (blk_cell BK443.out 0).trans rfl; have hcz14_1 : w13.cell? ⟨gb443, 1, none⟩ = some (.slice A0_1 l0_1.length c0_1) := (blk_cell BK443.out 1).trans rfl; have hcz14_2 : w13.cell? ⟨gb443, 2, none⟩ = some (.slice A0_2 l0_2.length c0_2) := (blk_cell BK443.out 2).trans rfl; have hfz14_0 := blk_frozen BK443.out 0; have hfz14_1 := blk_frozen BK443.out 1; have hfz14_2 := blk_frozen BK443.out 2) | ((with_reducible refine gate_callee (f := 72) rfl ?_); refine goesL_ (some 14) rfl rfl Try.func72 (by kernel_rfl) rfl #[.agg #[.slice A0_0 l0_0.length c0_0, .slice A0_1 l0_1.length c0_1, .slice A0_2 l0_2.length c0_2], .int .i64 a1, .int .i64 a2] rfl (by (try simp only [List.map_toArray, List.map_cons, List.map_nil]); first | done | rfl | (simp only [List.length_drop, List.length_take]; rfl)) ?_; (with_reducible refine (laganref04_there.calls k _ _ l0_0 _ _ l0_1 _ _ l0_2 a1 a2 t444 _ ?side1 ?side2 ?side3 ?side4 ?side5 ?side6 A5.out).mono ?_); (case side1 => repeat (first | exact (Kd.C_below HR0_0.out HB.out) | (with_reducible refine Kd.C_alloc ?_ _) | (with_reducible refine Kd.C_drewN ?_ _) | (with_reducible refine Kd.C_drew ?_))); (case side2 => exact HC0_0.out); (case side3 => repeat (first | exact (Kd.C_below HR0_1.out HB.out) | (with_reducible refine Kd.C_alloc ?_ _) | (with_reducible refine Kd.C_drewN ?_ _) | (with_reducible refine Kd.C_drew ?_))); (case side4 => exact HC0_1.out); (case side5 => repeat (first | exact (Kd.C_below HR0_2.out HB.out) | (with_reducible refine Kd.C_alloc ?_ _) | (with_reducible refine Kd.C_drewN ?_ _) | (with_reducible refine Kd.C_drew ?_))); (case side6 => exact HC0_2.out); rintro e w15 ⟨rfl, hb⟩; refine ⟨_, rfl, ?_⟩; have n0_ := Aside0.mk (blk_below (g := gb443) (o := .cells #[.slice A0_0 l0_0.length c0_0, .slice A0_1 l0_1.length c0_1, .slice A0_2 l0_2.length c0_2] 26 (0, 0)) (by (with_reducible repeat (first | refine blk_drewN ?_ _ | refine blk_drew ?_ | refine blk_alloc ?_ _)); exact BK443.out) hb); have n1_ := Aside0.mk (below_step (by repeat (first | (with_reducible first | exact HB.out | apply below_alloc | apply pw_below_drewN | apply below_drew1 | refine below_set ?_ GE443.out) | exact HB.out)) hb); clear BK443; clear HB; have BK443 := n0_; have HB := n1_; clear n0_ n1_; (try clear hb); (try clear hb2); (try clear hk); (try clear hi); have hcz16_0 : w15.cell? ⟨gb443, 0, none⟩ = some (.slice A0_0 l0_0.length c0_0) := (blk_cell BK443.out 0).trans rfl; have hcz16_1 : w15.cell? ⟨gb443, 1, none⟩ = some (.slice A0_1 l0_1.length c0_1) := (blk_cell BK443.out 1).trans rfl; have hcz16_2 : w15.cell? ⟨gb443, 2, none⟩ = some (.slice A0_2 l0_2.length c0_2) := (blk_cell BK443.out 2).trans rfl; have hfz16_0 := blk_frozen BK443.out 0; have hfz16_1 := blk_frozen BK443.out 1; have hfz16_2 := blk_frozen BK443.out 2; have p445 : 0 ≤ (a1 : Int) := of_decide_eq_true (by first | (with_reducible assumption) | assumption); have q445 : a1 < (l0_2.length : Int) := of_decide_eq_true (by first | (with_reducible assumption) | assumption); obtain ⟨ad445, A445_0, c445_0, e445, hx445_0, hl445_0, hi445_0⟩ := at_L1 HR0_2.out a1 p445 q445; cases e445; replace hx445_0 := (HB.out.cell (World.block_lt_of_cell? w _ hx445_0)).trans hx445_0; have HR445_0 := Aside0.mk hi445_0; have HC445_0 := Aside0.mk hl445_0; clear hi445_0 hl445_0; replace p445 := eq_true p445; replace q445 := eq_true q445) | ((with_reducible refine gate_callee (f := 33) rfl ?_); refine goesL_ (some 24) rfl rfl Try.func33 (by kernel_rfl) rfl #[.slice A445_0 (rd_L1 l0_2 a1).length c445_0, .int .i64 a2] rfl (by (try simp only [List.map_toArray, List.map_cons, List.map_nil]); first | done | rfl | (simp only [List.length_drop, List.length_take]; rfl)) ?_; (with_reducible refine (laganref04_Has.calls k _ _ (rd_L1 l0_2 a1) a2 true _ ?side1 ?side2 A9.out).mono ?_); (case side1 => repeat (first | exact (Kd.C_below HR445_0.out HB.out) | (with_reducible refine Kd.C_alloc ?_ _) | (with_reducible refine Kd.C_drewN ?_ _) | (with_reducible refine Kd.C_drew ?_))); (case side2 => exact HC445_0.out); rintro e w' ⟨rfl, ⟨nd, rfl⟩⟩; refine ⟨_, rfl, ?_⟩) | ((with_reducible refine gate_callee (f := 33) rfl ?_); refine goesL_ (some 31) rfl rfl Try.func33 (by kernel_rfl) rfl #[.slice A3 l3.length c3, .int .i64 a1] rfl (by (try simp only [List.map_toArray, List.map_cons, List.map_nil]); first | done | rfl | (simp only [List.length_drop, List.length_take]; rfl)) ?_; (with_reducible refine (laganref04_Has.calls k _ _ l3 a1 true _ ?side1 ?side2 A11.out).mono ?_); (case side1 => repeat (first | exact (Kd.C_below HR3.out (by repeat (first | (with_reducible first | exact HB.out | apply below_alloc | apply pw_below_drewN | apply below_drew1 | refine below_set ?_ GE443.out) | exact HB.out))) | (with_reducible refine Kd.C_alloc ?_ _) | (with_reducible refine Kd.C_drewN ?_ _) | (with_reducible refine Kd.C_drew ?_))); (case side2 => exact HC3.out); rintro e w' ⟨rfl, ⟨nd, rfl⟩⟩; refine ⟨_, rfl, ?_⟩))
      go_ret2
      exact ⟨by first | rfl | (simp [errW_none, errW_some] <;> rfl) | (simp [*, errW_none, errW_some] <;> rfl), by repeat (first | (with_reducible first | exact HB.out | apply below_alloc | apply pw_below_drewN | apply below_drew1 | refine below_set ?_ GE443.out) | exact HB.out)⟩
     ·
      replace c12 := Bool.eq_false_iff.mpr c12
      subst c12
      have H1 : ((laganref04_short.f k l0_0 l0_1 l0_2 l3 a2).bind fun t448 => (some (t448, 0))) = some (r1, r2) := by rw [if_neg (show ¬ (false = true) by decide)] at H; exact H
      clear H
      have H := H1
      clear H1
      replace H := Option.bind_eq_some_iff.mp H
      obtain ⟨t448, A170, H⟩ := H
      replace H : (some (t448, 0)) = some (r1, r2) := H
      have A17 := Aside0.mk A170
      clear A170
      simp only [Option.some.injEq, Prod.mk.injEq] at H
      obtain ⟨rfl, rfl⟩ := H
      go_enter Try.func35, Try.ntmps35
      go_wp2_with (first | ((with_reducible refine gate_dst (N := 4) rfl ?_); refine box_event ?hg (N := 4) ?hd (cs := #[.slice A0_0 l0_0.length c0_0, .slice A0_1 l0_1.length c0_1, .slice A0_2 l0_2.length c0_2]) (t := 26) ?hr ?_; (case hd => rfl); (case hg => rfl); (case hr => first | (go_simp; done) | (go_simp; rfl)); intro gb443 hg w18 hbox hb; have n0_ := Aside0.mk (below_step (by repeat (first | (with_reducible first | exact HB.out | apply below_alloc | apply pw_below_drewN | apply below_drew1) | exact HB.out)) hb); have n1_ := Aside0.mk (hbox); have n2_ := Aside0.mk ((by rw [hg]; exact (below_size (by repeat (first | (with_reducible first | exact HB.out | apply below_alloc | apply pw_below_drewN | apply below_drew1) | exact HB.out))) : w.heap.size ≤ gb443)); have n3_ := Aside0.mk ((by rw [hg]; exact (below_size (by repeat (first | (with_reducible first | exact HB.out | apply below_alloc | apply pw_below_drewN | apply below_drew1) | exact HB.out))) : w.heap.size ≤ gb443)); clear HB; have HB := n0_; have BK443 := n1_; have GW443 := n2_; have GE443 := n3_; clear n0_ n1_ n2_ n3_; clear hb hbox hg; have hcz19_0 : w18.cell? ⟨gb443, 0, none⟩ = some (.slice A0_0 l0_0.length c0_0) := (blk_cell BK443.out 0).trans rfl; have hcz19_1 : w18.cell? ⟨gb443, 1, none⟩ = some (.slice A0_1 l0_1.length c0_1) := (blk_cell BK443.out 1).trans rfl; have hcz19_2 : w18.cell? ⟨gb443, 2, none⟩ = some (.slice A0_2 l0_2.length c0_2) := (blk_cell BK443.out 2).trans rfl; have hfz19_0 := blk_frozen BK443.out 0; have hfz19_1 := blk_frozen BK443.out 1; have hfz19_2 := blk_frozen BK443.out 2) | ((with_reducible refine gate_callee (f := 72) rfl ?_); refine goesL_ (some 14) rfl rfl Try.func72 (by kernel_rfl) rfl #[.agg #[.slice A0_0 l0_0.length c0_0, .slice A0_1 l0_1.length c0_1, .slice A0_2 l0_2.length c0_2], .int .i64 a1, .int .i64 a2] rfl (by (try simp only [List.map_toArray, List.map_cons, List.map_nil]); first | done | rfl | (simp only [List.length_drop, List.length_take]; rfl)) ?_; (with_reducible refine (laganref04_there.calls k _ _ l0_0 _ _ l0_1 _ _ l0_2 a1 a2 t444 _ ?side1 ?side2 ?side3 ?side4 ?side5 ?side6 A5.out).mono ?_); (case side1 => repeat (first | exact (Kd.C_below HR0_0.out HB.out) | (with_reducible refine Kd.C_alloc ?_ _) | (with_reducible refine Kd.C_drewN ?_ _) | (with_reducible refine Kd.C_drew ?_))); (case side2 => exact HC0_0.out); (case side3 => repeat (first | exact (Kd.C_below HR0_1.out HB.out) | (with_reducible refine Kd.C_alloc ?_ _) | (with_reducible refine Kd.C_drewN ?_ _) | (with_reducible refine Kd.C_drew ?_))); (case side4 => exact HC0_1.out); (case side5 => repeat (first | exact (Kd.C_below HR0_2.out HB.out) | (with_reducible refine Kd.C_alloc ?_ _) | (with_reducible refine Kd.C_drewN ?_ _) | (with_reducible refine Kd.C_drew ?_))); (case side6 => exact HC0_2.out); rintro e w20 ⟨rfl, hb⟩; refine ⟨_, rfl, ?_⟩; have n0_ := Aside0.mk (blk_below (g := gb443) (o := .cells #[.slice A0_0 l0_0.length c0_0, .slice A0_1 l0_1.length c0_1, .slice A0_2 l0_2.length c0_2] 26 (0, 0)) (by (with_reducible repeat (first | refine blk_drewN ?_ _ | refine blk_drew ?_ | refine blk_alloc ?_ _)); exact BK443.out) hb); have n1_ := Aside0.mk (below_step (by repeat (first | (with_reducible first | exact HB.out | apply below_alloc | apply pw_below_drewN | apply below_drew1 | refine below_set ?_ GE443.out) | exact HB.out)) hb); clear BK443; clear HB; have BK443 := n0_; have HB := n1_; clear n0_ n1_; (try clear hb); (try clear hb2); (try clear hk); (try clear hi); have hcz21_0 : w20.cell? ⟨gb443, 0, none⟩ = some (.slice A0_0 l0_0.length c0_0) := (blk_cell BK443.out 0).trans rfl; have hcz21_1 : w20.cell? ⟨gb443, 1, none⟩ = some (.slice A0_1 l0_1.length c0_1) := (blk_cell BK443.out 1).trans rfl; have hcz21_2 : w20.cell? ⟨gb443, 2, none⟩ = some (.slice A0_2 l0_2.length c0_2) := (blk_cell BK443.out 2).trans rfl; have hfz21_0 := blk_frozen BK443.out 0; have hfz21_1 := blk_frozen BK443.out 1; have hfz21_2 := blk_frozen BK443.out 2; have p445 : 0 ≤ (a1 : Int) := of_decide_eq_true (by first | (with_reducible assumption) | assumption); have q445 : a1 < (l0_2.length : Int) := of_decide_eq_true (by first | (with_reducible assumption) | assumption); obtain ⟨ad445, A445_0, c445_0, e445, hx445_0, hl445_0, hi445_0⟩ := at_L1 HR0_2.out a1 p445 q445; cases e445; replace hx445_0 := (HB.out.cell (World.block_lt_of_cell? w _ hx445_0)).trans hx445_0; have HR445_0 := Aside0.mk hi445_0; have HC445_0 := Aside0.mk hl445_0; clear hi445_0 hl445_0; replace p445 := eq_true p445; replace q445 := eq_true q445) | ((with_reducible refine gate_callee (f := 33) rfl ?_); refine goesL_ (some 24) rfl rfl Try.func33 (by kernel_rfl) rfl #[.slice A445_0 (rd_L1 l0_2 a1).length c445_0, .int .i64 a2] rfl (by (try simp only [List.map_toArray, List.map_cons, List.map_nil]); first | done | rfl | (simp only [List.length_drop, List.length_take]; rfl)) ?_; (with_reducible refine (laganref04_Has.calls k _ _ (rd_L1 l0_2 a1) a2 true _ ?side1 ?side2 A9.out).mono ?_); (case side1 => repeat (first | exact (Kd.C_below HR445_0.out HB.out) | (with_reducible refine Kd.C_alloc ?_ _) | (with_reducible refine Kd.C_drewN ?_ _) | (with_reducible refine Kd.C_drew ?_))); (case side2 => exact HC445_0.out); rintro e w' ⟨rfl, ⟨nd, rfl⟩⟩; refine ⟨_, rfl, ?_⟩) | ((with_reducible refine gate_callee (f := 33) rfl ?_); refine goesL_ (some 31) rfl rfl Try.func33 (by kernel_rfl) rfl #[.slice A3 l3.length c3, .int .i64 a1] rfl (by (try simp only [List.map_toArray, List.map_cons, List.map_nil]); first | done | rfl | (simp only [List.length_drop, List.length_take]; rfl)) ?_; (with_reducible refine (laganref04_Has.calls k _ _ l3 a1 false _ ?side1 ?side2 A11.out).mono ?_); (case side1 => repeat (first | exact (Kd.C_below HR3.out (by repeat (first | (with_reducible first | exact HB.out | apply below_alloc | apply pw_below_drewN | apply below_drew1 | refine below_set ?_ GE443.out) | exact HB.out))) | (with_reducible refine Kd.C_alloc ?_ _) | (with_reducible refine Kd.C_drewN ?_ _) | (with_reducible refine Kd.C_drew ?_))); (case side2 => exact HC3.out); rintro e w' ⟨rfl, ⟨nd, rfl⟩⟩; refine ⟨_, rfl, ?_⟩) | (go_at_call 73; (with_reducible refine (laganref04_short.calls k _ _ l0_0 _ _ l0_1 _ _ l0_2 _ _ l3 a2 t448 _ ?side1 ?side2 ?side3 ?side4 ?side5 ?side6 ?side7 ?side8 A17.out).mono ?_); (case side1 => repeat (first | exact (Kd.C_below HR0_0.out (by repeat (first | (with_reducible first | exact HB.out | apply below_alloc | apply pw_below_drewN | apply below_drew1 | refine below_set ?_ GE443.out) | exact HB.out))) | (with_reducible refine Kd.C_alloc ?_ _) | (with_reducible refine Kd.C_drewN ?_ _) | (with_reducible refine Kd.C_drew ?_))); (case side2 => exact HC0_0.out); (case side3 => repeat (first | exact (Kd.C_below HR0_1.out (by repeat (first | (with_reducible first | exact HB.out | apply below_alloc | apply pw_below_drewN | apply below_drew1 | refine below_set ?_ GE443.out) | exact HB.out))) | (with_reducible refine Kd.C_alloc ?_ _) | (with_reducible refine Kd.C_drewN ?_ _) | (with_reducible refine Kd.C_drew ?_))); (case side4 => exact HC0_1.out); (case side5 => repeat (first | exact (Kd.C_below HR0_2.out (by repeat (first | (with_reducible first | exact HB.out | apply below_alloc | apply pw_below_drewN | apply below_drew1 | refine below_set ?_ GE443.out) | exact HB.out))) | (with_reducible refine Kd.C_alloc ?_ _) | (with_reducible refine Kd.C_drewN ?_ _) | (with_reducible refine Kd.C_drew ?_))); (case side6 => exact HC0_2.out); (case side7 => repeat (first | exact (Kd.C_below HR3.out (by repeat (first | (with_reducible first | exact HB.out | apply below_alloc | apply pw_below_drewN | apply below_drew1 | refine below_set ?_ GE443.out) | exact HB.out))) | (with_reducible refine Kd.C_alloc ?_ _) | (with_reducible refine Kd.C_drewN ?_ _) | (with_reducible refine Kd.C_drew ?_))); (case side8 => exact HC3.out); rintro e w22 ⟨rfl, hb⟩; have n0_ := Aside0.mk (blk_below (g := gb443) (o := .cells #[.slice A0_0 l0_0.length c0_0, .slice A0_1 l0_1.length c0_1, .slice (some ad445) l0_2.length c0_2] 26 (0, 0)) (by (with_reducible repeat (first | refine blk_drewN ?_ _ | refine blk_drew ?_ | refine blk_alloc ?_ _)); exact BK443.out) hb); have n1_ := Aside0.mk (below_step (by repeat (first | (with_reducible first | exact HB.out | apply below_alloc | apply pw_below_drewN | apply below_drew1 | refine below_set ?_ GE443.out) | exact HB.out)) hb); clear BK443; clear HB; have BK443 := n0_; have HB := n1_; clear n0_ n1_; (try clear hb); (try clear hb2); (try clear hk); (try clear hi)))
      go_ret2
      exact ⟨by first | rfl | (simp [errW_none, errW_some] <;> rfl) | (simp [*, errW_none, errW_some] <;> rfl), by repeat (first | (with_reducible first | exact HB.out | apply below_alloc | apply pw_below_drewN | apply below_drew1 | refine below_set ?_ GE443.out) | exact HB.out)⟩
    ·
     replace c10 := Bool.eq_false_iff.mpr c10
     subst c10
     have H1 : (some (((l3.length : Int) == 0), 0)) = some (r1, r2) := by rw [if_neg (show ¬ (false = true) by decide)] at H; exact H
     clear H
     have H := H1
     clear H1
     simp only [Option.some.injEq, Prod.mk.injEq] at H
     obtain ⟨rfl, rfl⟩ := H
     go_enter Try.func35, Try.ntmps35
     go_wp2_with (first | ((with_reducible refine gate_dst (N := 4) rfl ?_); refine box_event ?hg (N := 4) ?hd (cs := #[.slice A0_0 l0_0.length c0_0, .slice A0_1 l0_1.length c0_1, .slice A0_2 l0_2.length c0_2]) (t := 26) ?hr ?_; (case hd => rfl); (case hg => rfl); (case hr => first | (go_simp; done) | (go_simp; rfl)); intro gb443 hg w23 hbox hb; have n0_ := Aside0.mk (below_step (by repeat (first | (with_reducible first | exact HB.out | apply below_alloc | apply pw_below_drewN | apply below_drew1) | exact HB.out)) hb); have n1_ := Aside0.mk (hbox); have n2_ := Aside0.mk ((by rw [hg]; exact (below_size (by repeat (first | (with_reducible first | exact HB.out | apply below_alloc | apply pw_below_drewN | apply below_drew1) | exact HB.out))) : w.heap.size ≤ gb443)); have n3_ := Aside0.mk ((by rw [hg]; exact (below_size (by repeat (first | (with_reducible first | exact HB.out | apply below_alloc | apply pw_below_drewN | apply below_drew1) | exact HB.out))) : w.heap.size ≤ gb443)); clear HB; have HB := n0_; have BK443 := n1_; have GW443 := n2_; have GE443 := n3_; clear n0_ n1_ n2_ n3_; clear hb hbox hg; have hcz24_0 : w23.cell? ⟨gb443, 0, none⟩ = some (.slice A0_0 l0_0.length c0_0) := (blk_cell BK443.out 0).trans rfl; have hcz24_1 : w23.cell? ⟨gb443, 1, none⟩ = some (.slice A0_1 l0_1.length c0_1) := (blk_cell BK443.out 1).trans rfl; have hcz24_2 : w23.cell? ⟨gb443, 2, none⟩ = some (.slice A0_2 l0_2.length c0_2) := (blk_cell BK443.out 2).trans rfl; have hfz24_0 := blk_frozen BK443.out 0; have hfz24_1 := blk_frozen BK443.out 1; have hfz24_2 := blk_frozen BK443.out 2) | ((with_reducible refine gate_callee (f := 72) rfl ?_); refine goesL_ (some 14) rfl rfl Try.func72 (by kernel_rfl) rfl #[.agg #[.slice A0_0 l0_0.length c0_0, .slice A0_1 l0_1.length c0_1, .slice A0_2 l0_2.length c0_2], .int .i64 a1, .int .i64 a2] rfl (by (try simp only [List.map_toArray, List.map_cons, List.map_nil]); first | done | rfl | (simp only [List.length_drop, List.length_take]; rfl)) ?_; (with_reducible refine (laganref04_there.calls k _ _ l0_0 _ _ l0_1 _ _ l0_2 a1 a2 t444 _ ?side1 ?side2 ?side3 ?side4 ?side5 ?side6 A5.out).mono ?_); (case side1 => repeat (first | exact (Kd.C_below HR0_0.out HB.out) | (with_reducible refine Kd.C_alloc ?_ _) | (with_reducible refine Kd.C_drewN ?_ _) | (with_reducible refine Kd.C_drew ?_))); (case side2 => exact HC0_0.out); (case side3 => repeat (first | exact (Kd.C_below HR0_1.out HB.out) | (with_reducible refine Kd.C_alloc ?_ _) | (with_reducible refine Kd.C_drewN ?_ _) | (with_reducible refine Kd.C_drew ?_))); (case side4 => exact HC0_1.out); (case side5 => repeat (first | exact (Kd.C_below HR0_2.out HB.out) | (with_reducible refine Kd.C_alloc ?_ _) | (with_reducible refine Kd.C_drewN ?_ _) | (with_reducible refine Kd.C_drew ?_))); (case side6 => exact HC0_2.out); rintro e w25 ⟨rfl, hb⟩; refine ⟨_, rfl, ?_⟩; have n0_ := Aside0.mk (blk_below (g := gb443) (o := .cells #[.slice A0_0 l0_0.length c0_0, .slice A0_1 l0_1.length c0_1, .slice A0_2 l0_2.length c0_2] 26 (0, 0)) (by (with_reducible repeat (first | refine blk_drewN ?_ _ | refine blk_drew ?_ | refine blk_alloc ?_ _)); exact BK443.out) hb); have n1_ := Aside0.mk (below_step (by repeat (first | (with_reducible first | exact HB.out | apply below_alloc | apply pw_below_drewN | apply below_drew1 | refine below_set ?_ GE443.out) | exact HB.out)) hb); clear BK443; clear HB; have BK443 := n0_; have HB := n1_; clear n0_ n1_; (try clear hb); (try clear hb2); (try clear hk); (try clear hi); have hcz26_0 : w25.cell? ⟨gb443, 0, none⟩ = some (.slice A0_0 l0_0.length c0_0) := (blk_cell BK443.out 0).trans rfl; have hcz26_1 : w25.cell? ⟨gb443, 1, none⟩ = some (.slice A0_1 l0_1.length c0_1) := (blk_cell BK443.out 1).trans rfl; have hcz26_2 : w25.cell? ⟨gb443, 2, none⟩ = some (.slice A0_2 l0_2.length c0_2) := (blk_cell BK443.out 2).trans rfl; have hfz26_0 := blk_frozen BK443.out 0; have hfz26_1 := blk_frozen BK443.out 1; have hfz26_2 := blk_frozen BK443.out 2; have p445 : 0 ≤ (a1 : Int) := of_decide_eq_true (by first | (with_reducible assumption) | assumption); have q445 : a1 < (l0_2.length : Int) := of_decide_eq_true (by first | (with_reducible assumption) | assumption); obtain ⟨ad445, A445_0, c445_0, e445, hx445_0, hl445_0, hi445_0⟩ := at_L1 HR0_2.out a1 p445 q445; cases e445; replace hx445_0 := (HB.out.cell (World.block_lt_of_cell? w _ hx445_0)).trans hx445_0; have HR445_0 := Aside0.mk hi445_0; have HC445_0 := Aside0.mk hl445_0; clear hi445_0 hl445_0; replace p445 := eq_true p445; replace q445 := eq_true q445) | ((with_reducible refine gate_callee (f := 33) rfl ?_); refine goesL_ (some 24) rfl rfl Try.func33 (by kernel_rfl) rfl #[.slice A445_0 (rd_L1 l0_2 a1).length c445_0, .int .i64 a2] rfl (by (try simp only [List.map_toArray, List.map_cons, List.map_nil]); first | done | rfl | (simp only [List.length_drop, List.length_take]; rfl)) ?_; (with_reducible refine (laganref04_Has.calls k _ _ (rd_L1 l0_2 a1) a2 false _ ?side1 ?side2 A9.out).mono ?_); (case side1 => repeat (first | exact (Kd.C_below HR445_0.out HB.out) | (with_reducible refine Kd.C_alloc ?_ _) | (with_reducible refine Kd.C_drewN ?_ _) | (with_reducible refine Kd.C_drew ?_))); (case side2 => exact HC445_0.out); rintro e w' ⟨rfl, ⟨nd, rfl⟩⟩; refine ⟨_, rfl, ?_⟩))
     go_ret2
     exact ⟨by first | rfl | (simp [errW_none, errW_some] <;> rfl) | (simp [*, errW_none, errW_some] <;> rfl), by repeat (first | (with_reducible first | exact HB.out | apply below_alloc | apply pw_below_drewN | apply below_drew1 | refine below_set ?_ GE443.out) | exact HB.out)⟩
   ·
    rw [if_neg c8] at H
    exact absurd H (by simp)
  ·
   rw [if_neg c7] at H
   exact absurd H (by simp)
 ·
  rw [if_neg c6] at H
  have c6b0 : (t444 == 0) = false := beq_eq_false_iff_ne.mpr c6
  have c6b1 : (t444 != 0) = true := bne_iff_ne.mpr c6
  simp only [Option.some.injEq, Prod.mk.injEq] at H
  obtain ⟨rfl, rfl⟩ := H
  go_enter Try.func35, Try.ntmps35
  go_wp2_with (first | ((with_reducible refine gate_dst (N := 4) rfl ?_); refine box_event ?hg (N := 4) ?hd (cs := #[.slice A0_0 l0_0.length c0_0, .slice A0_1 l0_1.length c0_1, .slice A0_2 l0_2.length c0_2]) (t := 26) ?hr ?_; (case hd => rfl); (case hg => rfl); (case hr => first | (go_simp; done) | (go_simp; rfl)); intro gb443 hg w27 hbox hb; have n0_ := Aside0.mk (below_step (by repeat (first | (with_reducible first | exact HB.out | apply below_alloc | apply pw_below_drewN | apply below_drew1) | exact HB.out)) hb); have n1_ := Aside0.mk (hbox); have n2_ := Aside0.mk ((by rw [hg]; exact (below_size (by repeat (first | (with_reducible first | exact HB.out | apply below_alloc | apply pw_below_drewN | apply below_drew1) | exact HB.out))) : w.heap.size ≤ gb443)); have n3_ := Aside0.mk ((by rw [hg]; exact (below_size (by repeat (first | (with_reducible first | exact HB.out | apply below_alloc | apply pw_below_drewN | apply below_drew1) | exact HB.out))) : w.heap.size ≤ gb443)); clear HB; have HB := n0_; have BK443 := n1_; have GW443 := n2_; have GE443 := n3_; clear n0_ n1_ n2_ n3_; clear hb hbox hg; have hcz28_0 : w27.cell? ⟨gb443, 0, none⟩ = some (.slice A0_0 l0_0.length c0_0) := (blk_cell BK443.out 0).trans rfl; have hcz28_1 : w27.cell? ⟨gb443, 1, none⟩ = some (.slice A0_1 l0_1.length c0_1) := (blk_cell BK443.out 1).trans rfl; have hcz28_2 : w27.cell? ⟨gb443, 2, none⟩ = some (.slice A0_2 l0_2.length c0_2) := (blk_cell BK443.out 2).trans rfl; have hfz28_0 := blk_frozen BK443.out 0; have hfz28_1 := blk_frozen BK443.out 1; have hfz28_2 := blk_frozen BK443.out 2) | ((with_reducible refine gate_callee (f := 72) rfl ?_); refine goesL_ (some 14) rfl rfl Try.func72 (by kernel_rfl) rfl #[.agg #[.slice A0_0 l0_0.length c0_0, .slice A0_1 l0_1.length c0_1, .slice A0_2 l0_2.length c0_2], .int .i64 a1, .int .i64 a2] rfl (by (try simp only [List.map_toArray, List.map_cons, List.map_nil]); first | done | rfl | (simp only [List.length_drop, List.length_take]; rfl)) ?_; (with_reducible refine (laganref04_there.calls k _ _ l0_0 _ _ l0_1 _ _ l0_2 a1 a2 t444 _ ?side1 ?side2 ?side3 ?side4 ?side5 ?side6 A5.out).mono ?_); (case side1 => repeat (first | exact (Kd.C_below HR0_0.out HB.out) | (with_reducible refine Kd.C_alloc ?_ _) | (with_reducible refine Kd.C_drewN ?_ _) | (with_reducible refine Kd.C_drew ?_))); (case side2 => exact HC0_0.out); (case side3 => repeat (first | exact (Kd.C_below HR0_1.out HB.out) | (with_reducible refine Kd.C_alloc ?_ _) | (with_reducible refine Kd.C_drewN ?_ _) | (with_reducible refine Kd.C_drew ?_))); (case side4 => exact HC0_1.out); (case side5 => repeat (first | exact (Kd.C_below HR0_2.out HB.out) | (with_reducible refine Kd.C_alloc ?_ _) | (with_reducible refine Kd.C_drewN ?_ _) | (with_reducible refine Kd.C_drew ?_))); (case side6 => exact HC0_2.out); rintro e w29 ⟨rfl, hb⟩; refine ⟨_, rfl, ?_⟩; have n0_ := Aside0.mk (blk_below (g := gb443) (o := .cells #[.slice A0_0 l0_0.length c0_0, .slice A0_1 l0_1.length c0_1, .slice A0_2 l0_2.length c0_2] 26 (0, 0)) (by (with_reducible repeat (first | refine blk_drewN ?_ _ | refine blk_drew ?_ | refine blk_alloc ?_ _)); exact BK443.out) hb); have n1_ := Aside0.mk (below_step (by repeat (first | (with_reducible first | exact HB.out | apply below_alloc | apply pw_below_drewN | apply below_drew1 | refine below_set ?_ GE443.out) | exact HB.out)) hb); clear BK443; clear HB; have BK443 := n0_; have HB := n1_; clear n0_ n1_; (try clear hb); (try clear hb2); (try clear hk); (try clear hi)))
  go_ret2
  exact ⟨by first | rfl | (simp [errW_none, errW_some] <;> rfl) | (simp [*, errW_none, errW_some] <;> rfl), by repeat (first | (with_reducible first | exact HB.out | apply below_alloc | apply pw_below_drewN | apply below_drew1 | refine below_set ?_ GE443.out) | exact HB.out)⟩
def laganref04_CheckHall.f (k : Nat) (l0_0 : List Int) (l0_1 : List (S50)) (l0_2 : List (List Int)) (l1 : List Int) : Option (Bool × Int) := (laganref04_CheckBoard.f k l0_0 l0_1 l0_2).bind fun t586 => (if t586 = 0 then ((laganref04_short.f k l0_0 l0_1 l0_2 l1 (-1)).bind fun t587 => (some (t587, t586))) else (some (false, t586)))
theorem laganref04_CheckHall.mono : ∀ a0 a1 a2 a3 k, LeO (laganref04_CheckHall.f k a0 a1 a2 a3) (laganref04_CheckHall.f (k + 1) a0 a1 a2 a3) := by
 intro a0 a1 a2 a3 k
 unfold laganref04_CheckHall.f
 repeat' first
   | (with_reducible exact laganref04_CheckBoard.mono _ _ _ _)
   | (with_reducible exact laganref04_short.mono _ _ _ _ _ _)
   | (with_reducible exact LeO.refl _)
   | (with_reducible exact LeO.none _)
   | (with_reducible refine LeO.ite ?_ ?_)
   | (with_reducible refine LeO.bind ?_ (fun _ => ?_))
   | exact laganref04_CheckBoard.mono _ _ _ _
   | exact laganref04_short.mono _ _ _ _ _ _
   | exact LeO.none _
   | refine LeO.ite ?_ ?_
   | refine LeO.bind ?_ (fun _ => ?_)
set_option maxHeartbeats 8000000 in
set_option maxRecDepth 100000 in
theorem laganref04_CheckHall.calls (k : Nat) (A0_0 : Option Addr) (c0_0 : Nat) (l0_0 : List Int) (A0_1 : Option Addr) (c0_1 : Nat) (l0_1 : List (S50)) (A0_2 : Option Addr) (c0_2 : Nat) (l0_2 : List (List Int)) (A1 : Option Addr) (c1 : Nat) (l1 : List Int) (r1 : Bool) (r2 : Int) (w : World) (hr0_0 : Kd.C (Kd.int .i64) w A0_0 l0_0.length l0_0) (hc0_0 : l0_0.length ≤ c0_0) (hr0_1 : Kd.C k50 w A0_1 l0_1.length l0_1) (hc0_1 : l0_1.length ≤ c0_1) (hr0_2 : Kd.C (Kd.slice 3 (Kd.int .i64)) w A0_2 l0_2.length l0_2) (hc0_2 : l0_2.length ≤ c0_2) (hr1 : Kd.C (Kd.int .i64) w A1 l1.length l1) (hc1 : l1.length ≤ c1) (h : laganref04_CheckHall.f k l0_0 l0_1 l0_2 l1 = some (r1, r2)) :
  Calls Try.prog 40 #[.agg #[.slice A0_0 l0_0.length c0_0, .slice A0_1 l0_1.length c0_1, .slice A0_2 l0_2.length c0_2], .slice A1 l1.length c1] w fun e w' => e = .returned (.tuple #[.bool r1, .int .i64 r2]) ∧ Below w.heap.size w w' := by
 have hu26 := Try.underlying26
 have HR0_0 := Aside0.mk hr0_0
 have HC0_0 := Aside0.mk hc0_0
 clear hr0_0 hc0_0
 have HR0_1 := Aside0.mk hr0_1
 have HC0_1 := Aside0.mk hc0_1
 clear hr0_1 hc0_1
 have HR0_2 := Aside0.mk hr0_2
 have HC0_2 := Aside0.mk hc0_2
 clear hr0_2 hc0_2
 have HR1 := Aside0.mk hr1
 have HC1 := Aside0.mk hc1
 clear hr1 hc1
 have HB := Aside0.mk (Below.refl w.heap.size w)
 have H : ((laganref04_CheckBoard.f k l0_0 l0_1 l0_2).bind fun t586 => (if t586 = 0 then ((laganref04_short.f k l0_0 l0_1 l0_2 l1 (-1)).bind fun t587 => (some (t587, t586))) else (some (false, t586)))) = some (r1, r2) := h
 clear h
 replace H := Option.bind_eq_some_iff.mp H
 obtain ⟨t586, A30, H⟩ := H
 replace H : (if t586 = 0 then ((laganref04_short.f k l0_0 l0_1 l0_2 l1 (-1)).bind fun t587 => (some (t587, t586))) else (some (false, t586))) = some (r1, r2) := H
 have A3 := Aside0.mk A30
 clear A30
 by_cases c4 : t586 = 0
 ·
  rw [if_pos c4] at H
  have c4b0 : (t586 == 0) = true := beq_iff_eq.mpr c4
  have c4b1 : (t586 != 0) = false := bne_eq_false_iff_eq.mpr c4
  clear c4
  replace H := Option.bind_eq_some_iff.mp H
  obtain ⟨t587, A50, H⟩ := H
  replace H : (some (t587, t586)) = some (r1, r2) := H
  have A5 := Aside0.mk A50
  clear A50
  simp only [Option.some.injEq, Prod.mk.injEq] at H
  obtain ⟨rfl, rfl⟩ := H
  go_enter Try.func40, Try.ntmps40
  go_wp2_with (first | ((with_reducible refine gate_dst (N := 2) rfl ?_); refine box_event ?hg (N := 2) ?hd (cs := #[.slice A0_0 l0_0.length c0_0, .slice A0_1 l0_1.length c0_1, .slice A0_2 l0_2.length c0_2]) (t := 26) ?hr ?_; (case hd => rfl); (case hg => rfl); (case hr => first | (go_simp; done) | (go_simp; rfl)); intro gb585 hg w6 hbox hb; have n0_ := Aside0.mk (below_step (by repeat (first | (with_reducible first | exact HB.out | apply below_alloc | apply pw_below_drewN | apply below_drew1) | exact HB.out)) hb); have n1_ := Aside0.mk (hbox); have n2_ := Aside0.mk ((by rw [hg]; exact (below_size (by repeat (first | (with_reducible first | exact HB.out | apply below_alloc | apply pw_below_drewN | apply below_drew1) | exact HB.out))) : w.heap.size ≤ gb585)); have n3_ := Aside0.mk ((by rw [hg]; exact (below_size (by repeat (first | (with_reducible first | exact HB.out | apply below_alloc | apply pw_below_drewN | apply below_drew1) | exact HB.out))) : w.heap.size ≤ gb585)); clear HB; have HB := n0_; have BK585 := n1_; have GW585 := n2_; have GE585 := n3_; clear n0_ n1_ n2_ n3_; clear hb hbox hg; have hcz7_0 : w6.cell? ⟨gb585, 0, none⟩ = some (.slice A0_0 l0_0.length c0_0) := (blk_cell BK585.out 0).trans rfl; have hcz7_1 : w6.cell? ⟨gb585, 1, none⟩ = some (.slice A0_1 l0_1.length c0_1) := (blk_cell BK585.out 1).trans rfl; have hcz7_2 : w6.cell? ⟨gb585, 2, none⟩ = some (.slice A0_2 l0_2.length c0_2) := (blk_cell BK585.out 2).trans rfl; have hfz7_0 := blk_frozen BK585.out 0; have hfz7_1 := blk_frozen BK585.out 1; have hfz7_2 := blk_frozen BK585.out 2) | ((with_reducible refine gate_callee (f := 19) rfl ?_); refine goesL_ (some 8) rfl rfl Try.func19 (by kernel_rfl) rfl #[.agg #[.slice A0_0 l0_0.length c0_0, .slice A0_1 l0_1.length c0_1, .slice A0_2 l0_2.length c0_2]] rfl (by (try simp only [List.map_toArray, List.map_cons, List.map_nil]); first | done | rfl | (simp only [List.length_drop, List.length_take]; rfl)) ?_; (with_reducible refine (laganref04_CheckBoard.calls k _ _ l0_0 _ _ l0_1 _ _ l0_2 t586 _ ?side1 ?side2 ?side3 ?side4 ?side5 ?side6 A3.out).mono ?_); (case side1 => repeat (first | exact (Kd.C_below HR0_0.out HB.out) | (with_reducible refine Kd.C_alloc ?_ _) | (with_reducible refine Kd.C_drewN ?_ _) | (with_reducible refine Kd.C_drew ?_))); (case side2 => exact HC0_0.out); (case side3 => repeat (first | exact (Kd.C_below HR0_1.out HB.out) | (with_reducible refine Kd.C_alloc ?_ _) | (with_reducible refine Kd.C_drewN ?_ _) | (with_reducible refine Kd.C_drew ?_))); (case side4 => exact HC0_1.out); (case side5 => repeat (first | exact (Kd.C_below HR0_2.out HB.out) | (with_reducible refine Kd.C_alloc ?_ _) | (with_reducible refine Kd.C_drewN ?_ _) | (with_reducible refine Kd.C_drew ?_))); (case side6 => exact HC0_2.out); rintro e w8 ⟨rfl, hb⟩; refine ⟨_, rfl, ?_⟩; have n0_ := Aside0.mk (blk_below (g := gb585) (o := .cells #[.slice A0_0 l0_0.length c0_0, .slice A0_1 l0_1.length c0_1, .slice A0_2 l0_2.length c0_2] 26 (0, 0)) (by (with_reducible repeat (first | refine blk_drewN ?_ _ | refine blk_drew ?_ | refine blk_alloc ?_ _)); exact BK585.out) hb); have n1_ := Aside0.mk (below_step (by repeat (first | (with_reducible first | exact HB.out | apply below_alloc | apply pw_below_drewN | apply below_drew1 | refine below_set ?_ GE585.out) | exact HB.out)) hb); clear BK585; clear HB; have BK585 := n0_; have HB := n1_; clear n0_ n1_; (try clear hb); (try clear hb2); (try clear hk); (try clear hi); have hcz9_0 : w8.cell? ⟨gb585, 0, none⟩ = some (.slice A0_0 l0_0.length c0_0) := (blk_cell BK585.out 0).trans rfl; have hcz9_1 : w8.cell? ⟨gb585, 1, none⟩ = some (.slice A0_1 l0_1.length c0_1) := (blk_cell BK585.out 1).trans rfl; have hcz9_2 : w8.cell? ⟨gb585, 2, none⟩ = some (.slice A0_2 l0_2.length c0_2) := (blk_cell BK585.out 2).trans rfl; have hfz9_0 := blk_frozen BK585.out 0; have hfz9_1 := blk_frozen BK585.out 1; have hfz9_2 := blk_frozen BK585.out 2) | (go_at_call 73; (with_reducible refine (laganref04_short.calls k _ _ l0_0 _ _ l0_1 _ _ l0_2 _ _ l1 (-1) t587 _ ?side1 ?side2 ?side3 ?side4 ?side5 ?side6 ?side7 ?side8 A5.out).mono ?_); (case side1 => repeat (first | exact (Kd.C_below HR0_0.out HB.out) | (with_reducible refine Kd.C_alloc ?_ _) | (with_reducible refine Kd.C_drewN ?_ _) | (with_reducible refine Kd.C_drew ?_))); (case side2 => exact HC0_0.out); (case side3 => repeat (first | exact (Kd.C_below HR0_1.out HB.out) | (with_reducible refine Kd.C_alloc ?_ _) | (with_reducible refine Kd.C_drewN ?_ _) | (with_reducible refine Kd.C_drew ?_))); (case side4 => exact HC0_1.out); (case side5 => repeat (first | exact (Kd.C_below HR0_2.out HB.out) | (with_reducible refine Kd.C_alloc ?_ _) | (with_reducible refine Kd.C_drewN ?_ _) | (with_reducible refine Kd.C_drew ?_))); (case side6 => exact HC0_2.out); (case side7 => repeat (first | exact (Kd.C_below HR1.out HB.out) | (with_reducible refine Kd.C_alloc ?_ _) | (with_reducible refine Kd.C_drewN ?_ _) | (with_reducible refine Kd.C_drew ?_))); (case side8 => exact HC1.out); rintro e w10 ⟨rfl, hb⟩; have n0_ := Aside0.mk (blk_below (g := gb585) (o := .cells #[.slice A0_0 l0_0.length c0_0, .slice A0_1 l0_1.length c0_1, .slice A0_2 l0_2.length c0_2] 26 (0, 0)) (by (with_reducible repeat (first | refine blk_drewN ?_ _ | refine blk_drew ?_ | refine blk_alloc ?_ _)); exact BK585.out) hb); have n1_ := Aside0.mk (below_step (by repeat (first | (with_reducible first | exact HB.out | apply below_alloc | apply pw_below_drewN | apply below_drew1 | refine below_set ?_ GE585.out) | exact HB.out)) hb); clear BK585; clear HB; have BK585 := n0_; have HB := n1_; clear n0_ n1_; (try clear hb); (try clear hb2); (try clear hk); (try clear hi)))
  go_ret2
  exact ⟨by first | rfl | (simp [errW_none, errW_some] <;> rfl) | (simp [*, errW_none, errW_some] <;> rfl), by repeat (first | (with_reducible first | exact HB.out | apply below_alloc | apply pw_below_drewN | apply below_drew1 | refine below_set ?_ GE585.out) | exact HB.out)⟩
 ·
  rw [if_neg c4] at H
  have c4b0 : (t586 == 0) = false := beq_eq_false_iff_ne.mpr c4
  have c4b1 : (t586 != 0) = true := bne_iff_ne.mpr c4
  simp only [Option.some.injEq, Prod.mk.injEq] at H
  obtain ⟨rfl, rfl⟩ := H
  go_enter Try.func40, Try.ntmps40
  go_wp2_with (first | ((with_reducible refine gate_dst (N := 2) rfl ?_); refine box_event ?hg (N := 2) ?hd (cs := #[.slice A0_0 l0_0.length c0_0, .slice A0_1 l0_1.length c0_1, .slice A0_2 l0_2.length c0_2]) (t := 26) ?hr ?_; (case hd => rfl); (case hg => rfl); (case hr => first | (go_simp; done) | (go_simp; rfl)); intro gb585 hg w11 hbox hb; have n0_ := Aside0.mk (below_step (by repeat (first | (with_reducible first | exact HB.out | apply below_alloc | apply pw_below_drewN | apply below_drew1) | exact HB.out)) hb); have n1_ := Aside0.mk (hbox); have n2_ := Aside0.mk ((by rw [hg]; exact (below_size (by repeat (first | (with_reducible first | exact HB.out | apply below_alloc | apply pw_below_drewN | apply below_drew1) | exact HB.out))) : w.heap.size ≤ gb585)); have n3_ := Aside0.mk ((by rw [hg]; exact (below_size (by repeat (first | (with_reducible first | exact HB.out | apply below_alloc | apply pw_below_drewN | apply below_drew1) | exact HB.out))) : w.heap.size ≤ gb585)); clear HB; have HB := n0_; have BK585 := n1_; have GW585 := n2_; have GE585 := n3_; clear n0_ n1_ n2_ n3_; clear hb hbox hg; have hcz12_0 : w11.cell? ⟨gb585, 0, none⟩ = some (.slice A0_0 l0_0.length c0_0) := (blk_cell BK585.out 0).trans rfl; have hcz12_1 : w11.cell? ⟨gb585, 1, none⟩ = some (.slice A0_1 l0_1.length c0_1) := (blk_cell BK585.out 1).trans rfl; have hcz12_2 : w11.cell? ⟨gb585, 2, none⟩ = some (.slice A0_2 l0_2.length c0_2) := (blk_cell BK585.out 2).trans rfl; have hfz12_0 := blk_frozen BK585.out 0; have hfz12_1 := blk_frozen BK585.out 1; have hfz12_2 := blk_frozen BK585.out 2) | ((with_reducible refine gate_callee (f := 19) rfl ?_); refine goesL_ (some 8) rfl rfl Try.func19 (by kernel_rfl) rfl #[.agg #[.slice A0_0 l0_0.length c0_0, .slice A0_1 l0_1.length c0_1, .slice A0_2 l0_2.length c0_2]] rfl (by (try simp only [List.map_toArray, List.map_cons, List.map_nil]); first | done | rfl | (simp only [List.length_drop, List.length_take]; rfl)) ?_; (with_reducible refine (laganref04_CheckBoard.calls k _ _ l0_0 _ _ l0_1 _ _ l0_2 t586 _ ?side1 ?side2 ?side3 ?side4 ?side5 ?side6 A3.out).mono ?_); (case side1 => repeat (first | exact (Kd.C_below HR0_0.out HB.out) | (with_reducible refine Kd.C_alloc ?_ _) | (with_reducible refine Kd.C_drewN ?_ _) | (with_reducible refine Kd.C_drew ?_))); (case side2 => exact HC0_0.out); (case side3 => repeat (first | exact (Kd.C_below HR0_1.out HB.out) | (with_reducible refine Kd.C_alloc ?_ _) | (with_reducible refine Kd.C_drewN ?_ _) | (with_reducible refine Kd.C_drew ?_))); (case side4 => exact HC0_1.out); (case side5 => repeat (first | exact (Kd.C_below HR0_2.out HB.out) | (with_reducible refine Kd.C_alloc ?_ _) | (with_reducible refine Kd.C_drewN ?_ _) | (with_reducible refine Kd.C_drew ?_))); (case side6 => exact HC0_2.out); rintro e w13 ⟨rfl, hb⟩; refine ⟨_, rfl, ?_⟩; have n0_ := Aside0.mk (blk_below (g := gb585) (o := .cells #[.slice A0_0 l0_0.length c0_0, .slice A0_1 l0_1.length c0_1, .slice A0_2 l0_2.length c0_2] 26 (0, 0)) (by (with_reducible repeat (first | refine blk_drewN ?_ _ | refine blk_drew ?_ | refine blk_alloc ?_ _)); exact BK585.out) hb); have n1_ := Aside0.mk (below_step (by repeat (first | (with_reducible first | exact HB.out | apply below_alloc | apply pw_below_drewN | apply below_drew1 | refine below_set ?_ GE585.out) | exact HB.out)) hb); clear BK585; clear HB; have BK585 := n0_; have HB := n1_; clear n0_ n1_; (try clear hb); (try clear hb2); (try clear hk); (try clear hi)))
  go_ret2
  exact ⟨by first | rfl | (simp [errW_none, errW_some] <;> rfl) | (simp [*, errW_none, errW_some] <;> rfl), by repeat (first | (with_reducible first | exact HB.out | apply below_alloc | apply pw_below_drewN | apply below_drew1 | refine below_set ?_ GE585.out) | exact HB.out)⟩
end Go.Proofs.Ytkmmihadcbfkoaa.PM
end

section
namespace Go.Proofs.Ytkmmihadcbfkoaa
open PM
set_option linter.unusedVariables false
set_option linter.unusedSimpArgs false
theorem fits_mem {F : List Int} {S : List S50} {T : List (List Int)} (hk : BOK F S T) : ∀ i : Nat, i < T.length → ∀ s, s ∈ T.getD i [] → 0 ≤ s ∧ s < S.length := by
  intro i hi s hs
  obtain ⟨j, hj, he⟩ := List.getElem_of_mem hs
  have := hk.slot i hi j hj
  rwa [List.getD_eq_getElem?_getD (l := T.getD i []), List.getElem?_eq_getElem hj, Option.getD_some, he] at this
end Go.Proofs.Ytkmmihadcbfkoaa
end

section
namespace Go.Proofs.Ytkmmihadcbfkoaa
open Go.RowKit Go.Proofs.YtkmmihadcbfkoaaW.PrintWords PM
set_option linter.unusedVariables false
set_option linter.unusedSimpArgs false
/-- The first error of a board, a find and a slot; true: there is no such argument. -/
def askB (F : List Int) (S : List S50) (T : List (List Int)) (find slot : Int) (g0 g1 : Bool) : Int :=
  if checkB F S T ≠ 0 then checkB F S T
  else if (!g0 && !inB find 0 ((F.length : Int) - 1) || !g1 && !inB slot 0 ((S.length : Int) - 1)) = true then 1 else 0
set_option maxRecDepth 100000 in
set_option maxHeartbeats 8000000 in
theorem asked_calls (A0 : Option Addr) (c0 : Nat) (F : List Int) (A1 : Option Addr) (c1 : Nat) (S : List S50) (A2 : Option Addr) (c2 : Nat) (T : List (List Int)) (find slot : Int) (g : Nat) (g0 g1 : Bool) (w : World)
    (hr0 : Kd.C (Kd.int .i64) w A0 F.length F) (hc0 : F.length ≤ c0) (hr1 : Kd.C k50 w A1 S.length S) (hr2 : Kd.C (Kd.slice 3 (Kd.int .i64)) w A2 T.length T)
    (hg0 : w.cell? ⟨g, 0, none⟩ = some (.bool g0)) (hg1 : w.cell? ⟨g, 1, none⟩ = some (.bool g1)) :
    Calls Try.prog 58 #[.agg #[.slice A0 F.length c0, .slice A1 S.length c1, .slice A2 T.length c2], .int .i64 find, .int .i64 slot, .slice (some ⟨g, 0, none⟩) 2 2] w (CbPost (askB F S T find slot g0 g1) w) := by
  have hB0 := (Below.refl w.heap.size w).alloc (Nat.le_refl _) (.cells #[.slice A0 F.length c0, .slice A1 S.length c1, .slice A2 T.length c2] 26)
  have lF : F.length ≤ 9223372036854775807 := hr0.2.1
  have lS : S.length ≤ 9223372036854775807 := hr1.2.1
  have CB := checkboard_calls A0 c0 F A1 c1 S A2 c2 T _ (Kd.C_below hr0 hB0) hc0 (Kd.C_below hr1 hB0) (Kd.C_below hr2 hB0)
  obtain ⟨q, hq⟩ : ∃ q, checkB F S T = q := ⟨_, rfl⟩
  obtain ⟨r, hr⟩ : ∃ r, askB F S T find slot g0 g1 = r := ⟨_, rfl⟩
  rw [hq] at CB
  rw [hr]
  unfold askB at hr
  rw [hq] at hr
  have hgl := World.block_lt_of_cell? w _ hg0
  have HB0 := Go.Lib.hid hB0
  have HR := Go.Lib.hid hr
  have HG := Go.Lib.hid (And.intro hg0 hg1)
  clear hq hr0 hr1 hr2 hB0 hr hg0 hg1
  go_enter Try.func58, Try.ntmps58
  go_wp2_with fail
  refine CB.mono ?_
  clear CB
  rintro e w1 ⟨rfl, hB1⟩
  have b1 : w1.heap[w.heap.size]? = some (.cells #[.slice A0 F.length c0, .slice A1 S.length c1, .slice A2 T.length c2] 26 (0, 0)) := by
    rw [hB1.block w.heap.size (by simp)]
    exact World.alloc_heap_new w _
  have hW1 : Below w.heap.size w w1 := HB0.out.trans (hB1.mono HB0.out.size)
  have y0 := (hW1.cell (p := ⟨g, 0, none⟩) hgl).trans HG.out.1
  have y1 := (hW1.cell (p := ⟨g, 1, none⟩) hgl).trans HG.out.2
  have k0 := cell_of_heap b1 (j := 0) rfl
  have k1 := cell_of_heap b1 (j := 1) rfl
  have HW1 := Go.Lib.hid hW1
  have BX := Go.Lib.hid b1
  clear hB1 b1 hW1
  by_cases hq0 : q = 0
  · subst hq0
    have hr' := HR.out
    rw [if_neg (by simp)] at hr'
    have HR := Go.Lib.hid hr'
    have IC0 := in_calls find 0 ((F.length : Int) - 1) w1
    clear hr'
    cases g0 with
    | true =>
      cases g1 with
      | true =>
        have hr0 : r = 0 := by have := HR.out; simpa [] using this.symm
        subst hr0
        go_wp2_with fail
        go_ret
        exact ⟨rfl, HW1.out⟩
      | false =>
        have IC1 := in_calls slot 0 ((S.length : Int) - 1) w1
        go_wp2_with fail
        refine IC1.mono ?_
        clear IC1
        rintro e w3 ⟨rfl, hd3⟩
        have hW3 : Below w.heap.size w w3 := HW1.out.trans (hd3.below.mono HW1.out.size)
        have HW3 := Go.Lib.hid hW3
        clear hW3 hd3
        cases hi1 : inB slot 0 ((S.length : Int) - 1) with
        | false =>
          have HI1 := Go.Lib.hid hi1
          clear hi1
          have hr0 : r = 1 := by have := HR.out; simpa [HI1.out] using this.symm
          subst hr0
          go_wp2_with fail
          go_ret
          exact ⟨rfl, HW3.out⟩
        | true =>
          have HI1 := Go.Lib.hid hi1
          clear hi1
          have hr0 : r = 0 := by have := HR.out; simpa [HI1.out] using this.symm
          subst hr0
          go_wp2_with fail
          go_ret
          exact ⟨rfl, HW3.out⟩
    | false =>
      go_wp2_with fail
      refine IC0.mono ?_
      clear IC0
      rintro e w2 ⟨rfl, hd2⟩
      have hW2 : Below w.heap.size w w2 := HW1.out.trans (hd2.below.mono HW1.out.size)
      have y1 := (hW2.cell (p := ⟨g, 1, none⟩) hgl).trans HG.out.2
      have k1 := cell_of_heap ((hd2.below.block w.heap.size (Array.getElem?_eq_some_iff.1 BX.out).1).trans BX.out) (j := 1) rfl
      have HW2 := Go.Lib.hid hW2
      clear hW2 hd2
      cases hi0 : inB find 0 ((F.length : Int) - 1) with
      | false =>
        have HI0 := Go.Lib.hid hi0
        clear hi0
        have hr0 : r = 1 := by have := HR.out; simpa [HI0.out] using this.symm
        subst hr0
        go_wp2_with fail
        go_ret
        exact ⟨rfl, HW2.out⟩
      | true =>
        have HI0 := Go.Lib.hid hi0
        clear hi0
        cases g1 with
        | true =>
          have hr0 : r = 0 := by have := HR.out; simpa [HI0.out] using this.symm
          subst hr0
          go_wp2_with fail
          go_ret
          exact ⟨rfl, HW2.out⟩
        | false =>
          have IC1 := in_calls slot 0 ((S.length : Int) - 1) w2
          go_wp2_with fail
          refine IC1.mono ?_
          clear IC1
          rintro e w3 ⟨rfl, hd3⟩
          have hW3 : Below w.heap.size w w3 := HW2.out.trans (hd3.below.mono HW2.out.size)
          have HW3 := Go.Lib.hid hW3
          clear hW3 hd3
          cases hi1 : inB slot 0 ((S.length : Int) - 1) with
          | false =>
            have HI1 := Go.Lib.hid hi1
            clear hi1
            have hr0 : r = 1 := by have := HR.out; simpa [HI0.out, HI1.out] using this.symm
            subst hr0
            go_wp2_with fail
            go_ret
            exact ⟨rfl, HW3.out⟩
          | true =>
            have HI1 := Go.Lib.hid hi1
            clear hi1
            have hr0 : r = 0 := by have := HR.out; simpa [HI0.out, HI1.out] using this.symm
            subst hr0
            go_wp2_with fail
            go_ret
            exact ⟨rfl, HW3.out⟩
  · have g9 : decide (q = 0) = false := by simpa using hq0
    have hr0 : r = q := by have := HR.out; rw [if_pos hq0] at this; exact this.symm
    subst hr0
    go_wp2_with fail
    go_ret
    exact ⟨rfl, HW1.out⟩
/-- asked, the two bools new. -/
theorem asked_new (A0 : Option Addr) (c0 : Nat) (F : List Int) (A1 : Option Addr) (c1 : Nat) (S : List S50) (A2 : Option Addr) (c2 : Nat) (T : List (List Int)) (find slot : Int) (g0 g1 : Bool) (w : World)
    (hr0 : Kd.C (Kd.int .i64) w A0 F.length F) (hc0 : F.length ≤ c0) (hr1 : Kd.C k50 w A1 S.length S) (hr2 : Kd.C (Kd.slice 3 (Kd.int .i64)) w A2 T.length T) :
    Calls Try.prog 58 #[.agg #[.slice A0 F.length c0, .slice A1 S.length c1, .slice A2 T.length c2], .int .i64 find, .int .i64 slot, .slice (some ⟨w.heap.size, 0, none⟩) 2 2] (w.alloc (.cells #[.bool g0, .bool g1] 4)) (CbPost (askB F S T find slot g0 g1) w) := by
  have hB := (Below.refl w.heap.size w).alloc (Nat.le_refl _) (.cells #[.bool g0, .bool g1] 4)
  have b0 := World.alloc_heap_new w (.cells #[.bool g0, .bool g1] 4)
  refine (asked_calls A0 c0 F A1 c1 S A2 c2 T find slot w.heap.size g0 g1 _ (Kd.C_below hr0 hB) hc0 (Kd.C_below hr1 hB) (Kd.C_below hr2 hB) (cell_of_heap b0 rfl) (cell_of_heap b0 rfl)).mono ?_
  rintro e w' ⟨rfl, h⟩
  exact ⟨rfl, hB.trans (h.mono hB.size)⟩
/-- asked, the board boxed ahead and the two bools new: as each caller that has a box calls it. -/
theorem asked_boxed (A0 : Option Addr) (c0 : Nat) (F : List Int) (A1 : Option Addr) (c1 : Nat) (S : List S50) (A2 : Option Addr) (c2 : Nat) (T : List (List Int)) (find slot : Int) (g0 g1 : Bool) (w : World)
    (hr0 : Kd.C (Kd.int .i64) w A0 F.length F) (hc0 : F.length ≤ c0) (hr1 : Kd.C k50 w A1 S.length S) (hr2 : Kd.C (Kd.slice 3 (Kd.int .i64)) w A2 T.length T) (o : Obj) :
    Calls Try.prog 58 #[.agg #[.slice A0 F.length c0, .slice A1 S.length c1, .slice A2 T.length c2], .int .i64 find, .int .i64 slot, .slice (some ⟨w.heap.size + 1, 0, none⟩) 2 2] ((w.alloc o).alloc (.cells #[.bool g0, .bool g1] 4)) (fun e w' => CbPost (askB F S T find slot g0 g1) w e w' ∧ w'.heap[w.heap.size]? = some o) := by
  have hB := (Below.refl w.heap.size w).alloc (Nat.le_refl _) o
  have AN := asked_new A0 c0 F A1 c1 S A2 c2 T find slot g0 g1 (w.alloc o) (Kd.C_below hr0 hB) hc0 (Kd.C_below hr1 hB) (Kd.C_below hr2 hB)
  rw [show (w.alloc o).heap.size = w.heap.size + 1 from by simp] at AN
  refine AN.mono ?_
  rintro e w' ⟨rfl, h⟩
  exact ⟨⟨rfl, hB.trans (h.mono hB.size)⟩, (h.block _ (by simp)).trans (World.alloc_heap_new w o)⟩
set_option maxRecDepth 100000 in
set_option maxHeartbeats 8000000 in
theorem both_calls (A0 : Option Addr) (c0 : Nat) (F : List Int) (A1 : Option Addr) (c1 : Nat) (S : List S50) (A2 : Option Addr) (c2 : Nat) (T : List (List Int)) (find slot : Int) (w : World)
    (hr0 : Kd.C (Kd.int .i64) w A0 F.length F) (hc0 : F.length ≤ c0) (hr1 : Kd.C k50 w A1 S.length S) (hr2 : Kd.C (Kd.slice 3 (Kd.int .i64)) w A2 T.length T) :
    Calls Try.prog 66 #[.agg #[.slice A0 F.length c0, .slice A1 S.length c1, .slice A2 T.length c2], .int .i64 find, .int .i64 slot] w (CbPost (askB F S T find slot false false) w) := by
  have AC := asked_boxed A0 c0 F A1 c1 S A2 c2 T find slot false false w hr0 hc0 hr1 hr2 (.cells #[.slice A0 F.length c0, .slice A1 S.length c1, .slice A2 T.length c2] 26)
  obtain ⟨r, hr⟩ : ∃ r, askB F S T find slot false false = r := ⟨_, rfl⟩
  rw [hr] at AC ⊢
  clear hr hr0 hr1 hr2
  go_enter Try.func66, Try.ntmps66
  go_wp2_with fail
  refine AC.mono ?_
  clear AC
  rintro e w1 ⟨⟨rfl, hB1⟩, _⟩
  have HB1 := Go.Lib.hid hB1
  clear hB1
  go_wp2_with fail
  go_ret
  exact ⟨rfl, HB1.out⟩
end Go.Proofs.Ytkmmihadcbfkoaa
end

section
namespace Go.Proofs.Ytkmmihadcbfkoaa
open PM
theorem ask_parts {F : List Int} {S : List S50} {T : List (List Int)} {find slot : Int} {g0 g1 : Bool} (h : askB F S T find slot g0 g1 = 0) :
    checkB F S T = 0 ∧ (g0 = false → 0 ≤ find ∧ find < F.length) ∧ (g1 = false → 0 ≤ slot ∧ slot < S.length) := by
  unfold askB at h
  split at h
  · rename_i h1; exact absurd h h1
  · rename_i h1
    split at h
    · exact absurd h (by decide)
    · rename_i h2
      refine ⟨by simpa using h1, fun e => ?_, fun e => ?_⟩
      · have hi : inB find 0 ((F.length : Int) - 1) = true := by
          cases hh : inB find 0 ((F.length : Int) - 1) with
          | false => exact absurd (by rw [hh, e]; rfl) h2
          | true => rfl
        unfold inB at hi
        simp only [Bool.and_eq_true, decide_eq_true_eq] at hi
        omega
      · have hi : inB slot 0 ((S.length : Int) - 1) = true := by
          cases hh : inB slot 0 ((S.length : Int) - 1) with
          | false => exact absurd (by rw [hh, e]; cases (!g0 && !inB find 0 ((F.length : Int) - 1)) <;> rfl) h2
          | true => rfl
        unfold inB at hi
        simp only [Bool.and_eq_true, decide_eq_true_eq] at hi
        omega
end Go.Proofs.Ytkmmihadcbfkoaa
end

section
namespace Go.Proofs.Ytkmmihadcbfkoaa
open Go.RowKit Go.Proofs.YtkmmihadcbfkoaaW.PrintWords PM
set_option linter.unusedVariables false
set_option linter.unusedSimpArgs false
/-- What filling from nothing comes to, the board being as said. -/
def hallR (F : List Int) (S : List S50) (T : List (List Int)) (out : Int) (room : List Int) : FR := fillF T room S.length out (List.replicate F.length (-1))
def PM.match_Hall.f (F : List Int) (S : List S50) (T : List (List Int)) : Option (List Int × Bool × Int) :=
  if checkB F S T ≠ 0 then some ([], false, checkB F S T) else some ((hallR F S T (-1) (rooms S)).hall, !(hallR F S T (-1) (rooms S)).ok, 0)
theorem R_nil (w : World) (b : Nat) : Kd.R (Kd.int .i64) 3 w b (fun _ => True) (.slice none 0 0) [] :=
  Kd.R_of_own (enc := Value.int .i64) (h1 := fun _ => rfl) (ok := fun _ => True) (World.ownsRow_nil w b 3 1) (fun _ _ => trivial)
/-- What is new memory of list, bool and error, of world w. -/
def LBE (l : List Int) (b : Bool) (e : Int) (w : World) (en : Ending) (w' : World) : Prop :=
  ∃ v0_ : Value, en = .returned (.tuple #[v0_, .bool b, .int .i64 e]) ∧ Kd.R (Kd.int .i64) 3 w' w.heap.size (fun _ => True) v0_ l ∧ Below w.heap.size w w'
set_option maxRecDepth 100000 in
set_option maxHeartbeats 8000000 in
theorem hall_walk (A0 : Option Addr) (c0 : Nat) (F : List Int) (A1 : Option Addr) (c1 : Nat) (S : List S50) (A2 : Option Addr) (c2 : Nat) (T : List (List Int)) (r1 : List Int) (r2 : Bool) (r3 : Int) (w : World)
    (hr0 : Kd.C (Kd.int .i64) w A0 F.length F) (hc0 : F.length ≤ c0) (hr1 : Kd.C k50 w A1 S.length S) (hr2 : Kd.C (Kd.slice 3 (Kd.int .i64)) w A2 T.length T) (h : match_Hall.f F S T = some (r1, r2, r3)) :
    Calls Try.prog 38 #[.agg #[.slice A0 F.length c0, .slice A1 S.length c1, .slice A2 T.length c2]] w (LBE r1 r2 r3 w) := by
  have hB0 := (Below.refl w.heap.size w).alloc (Nat.le_refl _) (.cells #[.slice A0 F.length c0, .slice A1 S.length c1, .slice A2 T.length c2] 26)
  have CB := checkboard_calls A0 c0 F A1 c1 S A2 c2 T _ (Kd.C_below hr0 hB0) hc0 (Kd.C_below hr1 hB0) (Kd.C_below hr2 hB0)
  unfold match_Hall.f at h
  obtain ⟨q, hq⟩ : ∃ q, checkB F S T = q := ⟨_, rfl⟩
  rw [hq] at h CB
  have HB0 := Go.Lib.hid hB0
  have HR := Go.Lib.hid (And.intro hr1 hr2)
  have HQ := Go.Lib.hid hq
  have HH := Go.Lib.hid h
  clear hr0 hr1 hr2 hB0 hq h
  go_enter Try.func38, Try.ntmps38
  go_wp2_with fail
  refine CB.mono ?_
  clear CB
  rintro e w1 ⟨rfl, hB1⟩
  have b1 : w1.heap[w.heap.size]? = some (.cells #[.slice A0 F.length c0, .slice A1 S.length c1, .slice A2 T.length c2] 26 (0, 0)) := by
    rw [hB1.block w.heap.size (by simp)]
    exact World.alloc_heap_new w _
  have hW1 : Below w.heap.size w w1 := HB0.out.trans (hB1.mono HB0.out.size)
  have k0 := cell_of_heap b1 (j := 0) rfl
  have k1 := cell_of_heap b1 (j := 1) rfl
  have k2 := cell_of_heap b1 (j := 2) rfl
  have HW1 := Go.Lib.hid hW1
  clear hB1 b1 hW1
  by_cases hq0 : q = 0
  · subst hq0
    have hk := bok_of_check HQ.out
    have TC := tried_calls2 A0 c0 F A1 c1 S A2 c2 T w1 hk (Kd.C_below HR.out.1 HW1.out) (Kd.C_below HR.out.2 HW1.out)
    have hf := HH.out
    rw [if_neg (by simp)] at hf
    injection hf with hf
    obtain ⟨rr, hrr⟩ : ∃ rr, hallR F S T (-1) (rooms S) = rr := ⟨_, rfl⟩
    rw [hrr] at hf
    injection hf with hf1 hf
    injection hf with hf2 hf3
    subst hf2 hf3
    have HRR := Go.Lib.hid hrr
    have HF1 := Go.Lib.hid hf1
    clear hk hrr hf1 HH HQ
    go_wp2_with fail
    refine TC.mono ?_
    clear TC
    rintro e w2 ⟨t, rfl, e1, e2, e3, hT, hB, _⟩
    have FC := fill_calls t T (rooms S) hT.fit (-1) _ hT.len w2 hT.st hT.row
    rw [e1, show fillF T (rooms S) S.length (-1) (List.replicate F.length (-1)) = rr from HRR.out] at FC
    have HT := Go.Lib.hid hT
    have HB := Go.Lib.hid hB
    clear hT hB e1 e2 e3
    go_wp2_with fail
    refine FC.mono ?_
    clear FC
    rintro e w3 ⟨v, rfl, hag, _, how⟩
    have HAG := Go.Lib.hid hag
    have HOW := Go.Lib.hid how
    clear hag how
    go_wp2_with fail
    go_ret3
    have hb2 : Below w.heap.size w w2 := HW1.out.trans (HB.out.mono HW1.out.size)
    have hbl : w.heap.size ≤ t.bh := Nat.le_trans HW1.out.size HT.out.bl
    refine ⟨v, rfl, ?_, HAG.out.below hb2 hb2.size hbl hbl⟩
    rw [← HF1.out]
    exact Kd.R_of_own (enc := Value.int .i64) (h1 := fun _ => rfl) (ok := fun _ => True) (own_weaken HOW.out hb2.size) (fun _ _ => trivial)
  · have g9 : decide (q = 0) = false := by simpa using hq0
    have hf := HH.out
    rw [if_pos hq0] at hf
    injection hf with hf
    injection hf with hf1 hf
    injection hf with hf2 hf3
    subst hf1 hf2 hf3
    go_wp2_with fail
    go_ret3
    exact ⟨_, rfl, R_nil _ _, HW1.out⟩
theorem PM.match_Hall.calls (A0 : Option Addr) (c0 : Nat) (F : List Int) (A1 : Option Addr) (c1 : Nat) (S : List S50) (A2 : Option Addr) (c2 : Nat) (T : List (List Int)) (r1 : List Int) (r2 : Bool) (r3 : Int) (w : World)
    (hr0 : Kd.C (Kd.int .i64) w A0 F.length F) (hc0 : F.length ≤ c0) (hr1 : Kd.C k50 w A1 S.length S) (hc1 : S.length ≤ c1) (hr2 : Kd.C (Kd.slice 3 (Kd.int .i64)) w A2 T.length T) (hc2 : T.length ≤ c2) (h : match_Hall.f F S T = some (r1, r2, r3)) :
    Calls Try.prog 38 #[.agg #[.slice A0 F.length c0, .slice A1 S.length c1, .slice A2 T.length c2]] w (LBE r1 r2 r3 w) := hall_walk A0 c0 F A1 c1 S A2 c2 T r1 r2 r3 w hr0 hc0 hr1 hr2 h
end Go.Proofs.Ytkmmihadcbfkoaa
end

section
namespace Go.Proofs.Ytkmmihadcbfkoaa
open Go.RowKit Go.Proofs.YtkmmihadcbfkoaaW.PrintWords PM
set_option linter.unusedVariables false
set_option linter.unusedSimpArgs false
/-- The rooms, one slot having one less. -/
def roomsLess (S : List S50) (slot : Int) : List Int := (rooms S).set slot.toNat ((rooms S).getD slot.toNat 0 - 1)
def PM.match_Refuse.f (F : List Int) (S : List S50) (T : List (List Int)) (find slot : Int) : Option (List Int × Bool × Int) :=
  if askB F S T find slot false false ≠ 0 then some ([], false, askB F S T find slot false false)
  else if isF F S T = false then some ([], false, 40)
  else if slot ∉ T.getD find.toNat [] then some ([], true, 0)
  else some ((hallR F S T find (roomsLess S slot)).hall, !(hallR F S T find (roomsLess S slot)).ok, 0)
set_option maxRecDepth 100000 in
set_option maxHeartbeats 8000000 in
theorem refuse_walk (A0 : Option Addr) (c0 : Nat) (F : List Int) (A1 : Option Addr) (c1 : Nat) (S : List S50) (A2 : Option Addr) (c2 : Nat) (T : List (List Int)) (find slot : Int) (r1 : List Int) (r2 : Bool) (r3 : Int) (w : World)
    (hr0 : Kd.C (Kd.int .i64) w A0 F.length F) (hc0 : F.length ≤ c0) (hr1 : Kd.C k50 w A1 S.length S) (hr2 : Kd.C (Kd.slice 3 (Kd.int .i64)) w A2 T.length T) (h : match_Refuse.f F S T find slot = some (r1, r2, r3)) :
    Calls Try.prog 31 #[.agg #[.slice A0 F.length c0, .slice A1 S.length c1, .slice A2 T.length c2], .int .i64 find, .int .i64 slot] w (LBE r1 r2 r3 w) := by
  have hB0 := (Below.refl w.heap.size w).alloc (Nat.le_refl _) (.cells #[.slice A0 F.length c0, .slice A1 S.length c1, .slice A2 T.length c2] 26)
  have CB := both_calls A0 c0 F A1 c1 S A2 c2 T find slot _ (Kd.C_below hr0 hB0) hc0 (Kd.C_below hr1 hB0) (Kd.C_below hr2 hB0)
  unfold match_Refuse.f at h
  obtain ⟨q, hq⟩ : ∃ q, askB F S T find slot false false = q := ⟨_, rfl⟩
  rw [hq] at h CB
  have HB0 := Go.Lib.hid hB0
  have HR := Go.Lib.hid (And.intro hr1 hr2)
  have HQ := Go.Lib.hid hq
  have HH := Go.Lib.hid h
  clear hr0 hr1 hr2 hB0 hq h
  go_enter Try.func31, Try.ntmps31
  go_wp2_with fail
  refine CB.mono ?_
  clear CB
  rintro e w1 ⟨rfl, hB1⟩
  have b1 : w1.heap[w.heap.size]? = some (.cells #[.slice A0 F.length c0, .slice A1 S.length c1, .slice A2 T.length c2] 26 (0, 0)) := by
    rw [hB1.block w.heap.size (by simp)]
    exact World.alloc_heap_new w _
  have hW1 : Below w.heap.size w w1 := HB0.out.trans (hB1.mono HB0.out.size)
  have k0 := cell_of_heap b1 (j := 0) rfl
  have k1 := cell_of_heap b1 (j := 1) rfl
  have k2 := cell_of_heap b1 (j := 2) rfl
  have HW1 := Go.Lib.hid hW1
  have BX1 := Go.Lib.hid b1
  clear hB1 b1 hW1
  by_cases hq0 : q = 0
  · subst hq0
    obtain ⟨hcb, hfd, hsl⟩ := ask_parts HQ.out
    obtain ⟨hfd0, hfd1⟩ := hfd rfl
    obtain ⟨hsl0, hsl1⟩ := hsl rfl
    have hk := bok_of_check hcb
    have hfd2 : find < (T.length : Int) := by rw [hk.nt]; exact hfd1
    have hf := HH.out
    rw [if_neg (by simp)] at hf
    have HK := Go.Lib.hid hk
    have HCB := Go.Lib.hid hcb
    clear HH HQ hk hcb
    cases hok : isF F S T with
    | false =>
      have MC := matched_no A0 c0 F A1 c1 S A2 c2 T w1 HK.out (Kd.C_below HR.out.1 HW1.out) (Kd.C_below HR.out.2 HW1.out) hok
      rw [if_pos hok] at hf
      injection hf with hf
      injection hf with hf1 hf
      injection hf with hf2 hf3
      subst hf1 hf2 hf3
      clear hok
      go_wp2_with fail
      refine MC.mono ?_
      clear MC
      rintro e w2 ⟨rfl, hB2⟩
      have HB2 := Go.Lib.hid (HW1.out.trans (hB2.mono HW1.out.size))
      clear hB2
      go_wp2_with fail
      go_ret3
      exact ⟨_, rfl, R_nil _ _, HB2.out⟩
    | true =>
      have MC := matched_yes A0 c0 F A1 c1 S A2 c2 T w1 HK.out (Kd.C_below HR.out.1 HW1.out) (Kd.C_below HR.out.2 HW1.out) hok
      rw [if_neg (by rw [hok]; simp)] at hf
      have HF := Go.Lib.hid hf
      clear hok hf
      go_wp2_with fail
      refine MC.mono ?_
      clear MC
      rintro e w2 ⟨tm, rfl, _, _, _, _, hB2⟩
      have hW2 := HW1.out.trans (hB2.mono HW1.out.size)
      have b2 := (hB2.block w.heap.size (Array.getElem?_eq_some_iff.1 BX1.out).1).trans BX1.out
      have k0 := cell_of_heap b2 (j := 0) rfl
      have k1 := cell_of_heap b2 (j := 1) rfl
      have k2 := cell_of_heap b2 (j := 2) rfl
      obtain ⟨a, Ar, cr, e2, hx, hlc, hC⟩ := rows_at (Kd.C_below HR.out.2 hW2) find hfd0 hfd2
      obtain ⟨row, hrw⟩ : ∃ row, T.getD find.toNat [] = row := ⟨_, rfl⟩
      rw [hrw] at hx hlc hC
      have CC := contains_calls Ar cr row slot w2 hC hlc
      have HF2 := HF.out
      rw [hrw] at HF2
      have HF := Go.Lib.hid HF2
      have HW2 := Go.Lib.hid hW2
      have BX2 := Go.Lib.hid b2
      have e2' := e2
      clear hB2 hW2 b2 hC hrw HF2 e2
      subst e2'
      go_wp2_with fail
      refine CC.mono ?_
      clear CC
      rintro e w3 ⟨rfl, hd⟩
      have hW3 := HW2.out.trans (hd.below.mono HW2.out.size)
      have b3 := (hd.below.block w.heap.size (Array.getElem?_eq_some_iff.1 BX2.out).1).trans BX2.out
      have k0 := cell_of_heap b3 (j := 0) rfl
      have k1 := cell_of_heap b3 (j := 1) rfl
      have k2 := cell_of_heap b3 (j := 2) rfl
      have HW3 := Go.Lib.hid hW3
      clear hW3 b3 hd
      by_cases hin : slot ∈ row
      · rw [decide_eq_true hin]
        have hf := HF.out
        rw [if_neg (by simpa using hin)] at hf
        injection hf with hf
        obtain ⟨rr, hrr⟩ : ∃ rr, hallR F S T find (roomsLess S slot) = rr := ⟨_, rfl⟩
        rw [hrr] at hf
        injection hf with hf1 hf
        injection hf with hf2 hf3
        subst hf2 hf3
        have HRR := Go.Lib.hid hrr
        have HF1 := Go.Lib.hid hf1
        have TC := tried_calls3 A0 c0 F A1 c1 S (some a) c2 T w3 HK.out (Kd.C_below HR.out.1 HW3.out) (Kd.C_below HR.out.2 HW3.out)
        have hrb := room_bound HCB.out slot.toNat (by omega)
        clear hrr hf1 hin
        go_wp2_with fail
        refine TC.mono ?_
        clear TC
        rintro e w4 ⟨t, rfl, hN, en1, en2⟩
        have hlr : (rooms S).length = S.length := by simp [rooms]
        obtain ⟨Ab, eA, hc, hfz, hN2⟩ := hN.set slot hsl0 (by omega) ((rooms S).getD slot.toNat 0 - 1)
        have y3 := cell_of_heap hN.gb (j := 3) rfl
        rw [eA, hlr] at y3
        have FC := fill_calls t T _ hN2.fit find _ hN2.len _ hN2.stands hN2.row
        rw [en1, show fillF T ((rooms S).set slot.toNat ((rooms S).getD slot.toNat 0 - 1)) S.length find (List.replicate F.length (-1)) = rr from HRR.out] at FC
        obtain ⟨v, hv⟩ : ∃ v, (rooms S).getD slot.toNat 0 = v := ⟨_, rfl⟩
        rw [hv] at hrb hc FC hN2
        obtain ⟨hv1, hv2⟩ := hrb
        have HB2 := Go.Lib.hid hN2.B
        have HL2 := Go.Lib.hid hN2.hl
        clear hN hN2 en1 en2 hlr hv eA
        go_wp2_with fail
        refine FC.mono ?_
        clear FC
        rintro e w5 ⟨vh, rfl, hag, _, how⟩
        have hsz := HW3.out.size
        have hb5 := hag.below (HW3.out.trans (HB2.out.mono hsz)) (Nat.le_trans hsz HB2.out.size) (Nat.le_trans hsz HL2.out) (Nat.le_trans hsz HL2.out)
        have hR := Kd.R_of_own (enc := Value.int .i64) (h1 := fun _ => rfl) (ok := fun _ => True) (own_weaken how (Nat.le_trans hsz HB2.out.size)) (fun _ _ => trivial)
        rw [HF1.out] at hR
        have HB5 := Go.Lib.hid hb5
        have HR5 := Go.Lib.hid hR
        clear hag how hb5 hR hsz
        go_wp2_with fail
        go_ret3
        exact ⟨vh, rfl, HR5.out, HB5.out⟩
      · rw [decide_eq_false hin]
        have hf := HF.out
        rw [if_pos hin] at hf
        injection hf with hf
        injection hf with hf1 hf
        injection hf with hf2 hf3
        subst hf1 hf2 hf3
        clear hin
        go_wp2_with fail
        go_ret3
        exact ⟨_, rfl, R_nil _ _, HW3.out⟩
  · have g9 : decide (q = 0) = false := by simpa using hq0
    have hf := HH.out
    rw [if_pos hq0] at hf
    injection hf with hf
    injection hf with hf1 hf
    injection hf with hf2 hf3
    subst hf1 hf2 hf3
    go_wp2_with fail
    go_ret3
    exact ⟨_, rfl, R_nil _ _, HW1.out⟩
theorem PM.match_Refuse.calls (A0 : Option Addr) (c0 : Nat) (F : List Int) (A1 : Option Addr) (c1 : Nat) (S : List S50) (A2 : Option Addr) (c2 : Nat) (T : List (List Int)) (find slot : Int) (r1 : List Int) (r2 : Bool) (r3 : Int) (w : World)
    (hr0 : Kd.C (Kd.int .i64) w A0 F.length F) (hc0 : F.length ≤ c0) (hr1 : Kd.C k50 w A1 S.length S) (hc1 : S.length ≤ c1) (hr2 : Kd.C (Kd.slice 3 (Kd.int .i64)) w A2 T.length T) (hc2 : T.length ≤ c2) (h : match_Refuse.f F S T find slot = some (r1, r2, r3)) :
    Calls Try.prog 31 #[.agg #[.slice A0 F.length c0, .slice A1 S.length c1, .slice A2 T.length c2], .int .i64 find, .int .i64 slot] w (LBE r1 r2 r3 w) := refuse_walk A0 c0 F A1 c1 S A2 c2 T find slot r1 r2 r3 w hr0 hc0 hr1 hr2 h
end Go.Proofs.Ytkmmihadcbfkoaa
end

section
namespace Go.Proofs.Ytkmmihadcbfkoaa
open PM
set_option linter.unusedVariables false
set_option linter.unusedSimpArgs false
/-- A list is an assignment of the board. -/
abbrev AsgB (S : List S50) (T : List (List Int)) (l : List Int) : Prop := Asg T (rooms S) S.length (-1) l
section
variable {F : List Int} {S : List S50} {T : List (List Int)}
theorem fitsok_of (hc : checkB F S T = 0) : FitsOk T S.length := fun f hf s hs => fits_mem (bok_of_check hc) f hf s hs
theorem rooms_len (S : List S50) : (rooms S).length = S.length := by simp [rooms]
theorem rooms_one (hc : checkB F S T = 0) : ∀ s : Nat, s < S.length → 1 ≤ (rooms S).getD s 0 := fun s hs => (room_bound hc s hs).1
theorem rooms_nn (hc : checkB F S T = 0) : ∀ s : Nat, s < S.length → 0 ≤ (rooms S).getD s 0 := fun s hs => by have := rooms_one hc s hs; omega
theorem meets_iff (hc : checkB F S T = 0) (l : List Int) : meetsB F S T l = true ↔ AsgB S T l := by
  have hf := fitsok_of hc
  have hnt := (bok_of_check hc).nt
  unfold meetsB
  rw [Bool.and_eq_true, decide_eq_true_eq, List.all_eq_true]
  constructor
  · rintro ⟨hl, hall⟩
    have hlen : l.length = T.length := by omega
    have hat : ∀ f : Nat, f < T.length → meetAt T (rooms S) l f = true := fun f h => hall f (List.mem_range.2 (by omega))
    refine ⟨hlen, fun f h k => ?_, fun f h k _ => ?_, fun s hs => ?_⟩
    · rcases k with k | k
      · have := hat f h
        unfold meetAt at this
        rw [if_pos k] at this
        simpa using this
      · omega
    · have := hat f h
      unfold meetAt at this
      rw [if_neg k, Bool.and_eq_true] at this
      simpa using this.1
    · by_cases e : atOf l s = []
      · have h0 : ld l s = 0 := by unfold ld; rw [e]; rfl
        have := rooms_nn hc s hs
        omega
      · obtain ⟨g, gs, eg⟩ := List.exists_cons_of_ne_nil e
        obtain ⟨g0, g1, g2⟩ := mem_atOf.1 (show g ∈ atOf l (s : Int) by rw [eg]; simp)
        rw [← List.getD_eq_getElem?_getD] at g2
        have := hat g.toNat (by omega)
        unfold meetAt at this
        rw [g2] at this
        by_cases k : T.getD g.toNat [] = []
        · rw [if_pos k] at this
          simp only [decide_eq_true_eq] at this
          omega
        · rw [if_neg k, Bool.and_eq_true, decide_eq_true_eq, decide_eq_true_eq, Int.toNat_natCast] at this
          exact this.2
  · intro ha
    refine ⟨by have := ha.len; omega, fun f hfm => ?_⟩
    have h : f < T.length := by have := List.mem_range.1 hfm; have := ha.len; omega
    unfold meetAt
    by_cases k : T.getD f [] = []
    · rw [if_pos k, decide_eq_true_eq]
      exact ha.none f h (Or.inl k)
    · rw [if_neg k, Bool.and_eq_true, decide_eq_true_eq, decide_eq_true_eq]
      have hin := ha.some f h k (by omega)
      obtain ⟨h0, h1⟩ := hf f h _ hin
      refine ⟨hin, ?_⟩
      have := ha.load (l.getD f 0).toNat (by omega)
      rwa [Int.toNat_of_nonneg h0] at this
theorem isF_iff (hc : checkB F S T = 0) : isF F S T = true ↔ ∃ l, AsgB S T l := by
  unfold isF
  rw [← (bok_of_check hc).nt]
  exact fill_iff (fitsok_of hc) (rooms_nn hc)
theorem hallR_iff (hc : checkB F S T = 0) {out : Int} {room : List Int} (hr : ∀ s : Nat, s < S.length → 0 ≤ room.getD s 0) : (hallR F S T out room).ok = true ↔ ∃ l, Asg T room S.length out l := by
  unfold hallR
  rw [← (bok_of_check hc).nt]
  exact fill_iff (fitsok_of hc) hr
end
end Go.Proofs.Ytkmmihadcbfkoaa
end

section
namespace Go.Proofs.Ytkmmihadcbfkoaa
open Go.RowKit Go.Proofs.YtkmmihadcbfkoaaW.PrintWords PM
set_option linter.unusedVariables false
set_option linter.unusedSimpArgs false
/-- The slots of one find are tried one after another. -/
def tryRow (F : List Int) (S : List S50) (f : Nat) : List Int → List (List Int) → List Int → List (List Int) × List Int
  | [], T, out => (T, out)
  | s :: ss, T, out => if isF F S (T.set f [s]) = true then (T.set f [s], out.set f s) else tryRow F S f ss (T.set f [s]) out
def nextF (F : List Int) (S : List S50) (T0 : List (List Int)) : Nat → Nat → List (List Int) → List Int → List Int
  | 0, _, _, out => out
  | n + 1, f, T, out => nextF F S T0 n (f + 1) (tryRow F S f (T0.getD f []) T out).1 (tryRow F S f (T0.getD f []) T out).2
/-- Apart from the rows of the fits and of the slots found, what lay lies as it lay. -/
structure AG (Cf Bo : Nat) (w w' : World) : Prop where
  os : w'.os = w.os
  tape : w'.tape = w.tape
  output : w'.output = w.output
  size : w.heap.size ≤ w'.heap.size
  block : ∀ k, k < w.heap.size → k ≠ Cf → k ≠ Bo → w'.heap[k]? = w.heap[k]?
  cells : szOf (w'.heap[Bo]?) = szOf (w.heap[Bo]?)
theorem AG.refl (Cf Bo : Nat) (w : World) : AG Cf Bo w w := ⟨rfl, rfl, rfl, Nat.le_refl _, fun _ _ _ _ => rfl, rfl⟩
theorem AG.trans {Cf Bo : Nat} {a b c : World} (h : AG Cf Bo a b) (k : AG Cf Bo b c) : AG Cf Bo a c :=
  ⟨k.os.trans h.os, k.tape.trans h.tape, k.output.trans h.output, Nat.le_trans h.size k.size, fun i hi h1 h2 => (k.block i (Nat.lt_of_lt_of_le hi h.size) h1 h2).trans (h.block i hi h1 h2), k.cells.trans h.cells⟩
theorem AG.of_below {Cf Bo : Nat} {w w' : World} (h : Below w.heap.size w w') (hB : Bo < w.heap.size) : AG Cf Bo w w' := ⟨h.os, h.tape, h.output, h.size, fun k hk _ _ => h.block k hk, by rw [h.block Bo hB]⟩
theorem AG.of_grown {Cf Bo : Nat} {w w' : World} (h : w.grownBy w' (some Cf)) (hB : Bo < w.heap.size) (hne : Bo ≠ Cf) : AG Cf Bo w w' := ⟨h.os, h.tape, h.output, h.size, fun k hk h1 _ => h.block k hk (by simpa using h1), by rw [h.block Bo hB (by simpa using hne)]⟩
theorem AG.put {Cf Bo : Nat} (w : World) (o : Nat) (v : Value) : AG Cf Bo w (w.setCell ⟨Bo, o, none⟩ v) := ⟨rfl, rfl, rfl, by simp [World.setCell], fun k _ _ h => Below.heap_setCell _ _ _ _ h, szOf_setCell _ _ _ _⟩
structure AL where
  A0 : Option Addr
  c0 : Nat
  A1 : Option Addr
  c1 : Nat
  A2 : Option Addr
  c2 : Nat
  Bc : Nat
  Bb : Nat
  Bq : Nat
  Bn : Nat
  Cf : Nat
  cf : Nat
  Bo : Nat
  base : Nat
  ra : Nat → Option Addr
  rc : Nat → Nat
structure AStill (L : AL) (F : List Int) (S : List S50) (T : List (List Int)) (w : World) : Prop where
  cb : w.heap[L.Bb]? = some (.cells #[.slice L.A0 F.length L.c0, .slice L.A1 S.length L.c1, .slice L.A2 T.length L.c2] 26 (0, 0))
  cc : w.heap[L.Bc]? = some (.cells #[.slice L.A0 F.length L.c0, .slice L.A1 S.length L.c1, .slice (some ⟨L.Cf, 0, none⟩) T.length L.cf] 26 (0, 0))
  cq : w.heap[L.Bq]? = some (.cells #[.slice (some ⟨L.Bo, 0, none⟩) F.length F.length] 22 (0, 0))
  cn : w.heap[L.Bn]? = some (.cells #[.func (.func 55) #[] #[.pointer (some ⟨L.Bc, 0, none⟩), .pointer (some ⟨L.Bb, 0, none⟩), .pointer (some ⟨L.Bq, 0, none⟩), .pointer (some ⟨L.Bn, 0, none⟩)]] 73 (0, 0))
  slots : Kd.C k50 w L.A1 S.length S
  fits : RowsAt w L.A2 L.ra L.rc T
def AStands (L : AL) (F : List Int) (S : List S50) (T : List (List Int)) (w : World) : Prop := ∀ w', AG L.Cf L.Bo w w' → AStill L F S T w'
theorem AStands.still {L : AL} {F : List Int} {S : List S50} {T : List (List Int)} {w : World} (h : AStands L F S T w) : AStill L F S T w := h w (AG.refl _ _ _)
theorem AStands.later {L : AL} {F : List Int} {S : List S50} {T : List (List Int)} {w w' : World} (h : AStands L F S T w) (a : AG L.Cf L.Bo w w') : AStands L F S T w' := fun w2 k => h w2 (a.trans k)
/-- The fits as they stand now, and the slots found. -/
structure ATurn (L : AL) (F : List Int) (S : List S50) (T0 T : List (List Int)) (out : List Int) (w : World) : Prop where
  fits : Kd.N (Kd.slice 3 (Kd.int .i64)) 22 w L.base (fun k => k ≠ L.Bo) (.slice (some ⟨L.Cf, 0, none⟩) T0.length L.cf) T
  row : RowAt w L.Bo 3 (Value.int .i64) out
  lt : T.length = T0.length
  lo : out.length = F.length
  ok : BOK F S T
theorem BOK.set {F : List Int} {S : List S50} {T : List (List Int)} (h : BOK F S T) (f : Nat) (s : Int) (h0 : 0 ≤ s) (h1 : s < S.length) : BOK F S (T.set f [s]) := by
  have hg : ∀ i : Nat, i < T.length → (T.set f [s]).getD i [] = if f = i then [s] else T.getD i [] := fun i hi => by
    rw [List.getD_eq_getElem?_getD, List.getElem?_set]
    by_cases e : f = i
    · rw [if_pos e, if_pos e, if_pos (by omega)]; rfl
    · rw [if_neg e, if_neg e, List.getD_eq_getElem?_getD]
  refine ⟨h.nf, h.ns, by rw [List.length_set]; exact h.nt, fun i hi => ?_, fun i hi j hj => ?_⟩
  · rw [List.length_set] at hi
    rw [hg i hi]
    split
    · simp
    · exact h.row i hi
  · rw [List.length_set] at hi
    rw [hg i hi] at hj ⊢
    split at hj
    · rename_i e
      rw [if_pos e]
      have : j = 0 := by simpa using hj
      subst this
      exact ⟨h0, h1⟩
    · rename_i e
      rw [if_neg e]
      exact h.slot i hi j hj
theorem C_of_row' {w : World} {b n : Nat} {xs : List Int} (h : RowAt w b 3 (Value.int .i64) xs) (hl : xs.length = n) (hn : n ≤ 9223372036854775807) : Kd.C (Kd.int .i64) w (some ⟨b, 0, none⟩) n xs :=
  Kd.C_of_reads (enc := Value.int .i64) (d := (0 : Int)) (h1 := fun _ => rfl) ⟨hl, hn, fun _ => ⟨⟨b, 0, none⟩, rfl, fun j hj => by
    rw [add_plain, h.cell j (by omega)]
    simp [List.getD_eq_getElem?_getD, List.getElem?_eq_getElem (show j < xs.length by omega)]⟩⟩
theorem ATurn.below {L : AL} {F : List Int} {S : List S50} {T0 T : List (List Int)} {out : List Int} {w w' : World} (h : ATurn L F S T0 T out w) (hb : Below w.heap.size w w') : ATurn L F S T0 T out w' :=
  ⟨Kd.N_below h.fits hb, h.row.below hb, h.lt, h.lo, h.ok⟩
theorem ATurn.put {L : AL} {F : List Int} {S : List S50} {T0 T : List (List Int)} {out : List Int} {w : World} (h : ATurn L F S T0 T out w) (f : Nat) (s : Int) : ATurn L F S T0 T (out.set f s) (w.setCell ⟨L.Bo, f, none⟩ (.int .i64 s)) :=
  ⟨Kd.N_far (p := ⟨L.Bo, f, none⟩) h.fits (fun k hk => hk) _, h.row.set f s, h.lt, by rw [List.length_set]; exact h.lo, h.ok⟩
def NextPost (L : AL) (F : List Int) (S : List S50) (r : List Int) (w : World) (e : Ending) (w' : World) : Prop := e = .returned (.tuple #[]) ∧ AG L.Cf L.Bo w w' ∧ RowAt w' L.Bo 3 (Value.int .i64) r
set_option maxRecDepth 100000 in
set_option maxHeartbeats 8000000 in
theorem next_calls (L : AL) (F : List Int) (S : List S50) (T0 : List (List Int)) (hne : L.Bo ≠ L.Cf) (hk0 : BOK F S T0) (n : Nat) : ∀ (f : Nat) (T : List (List Int)) (out : List Int) (w : World), f + n = T0.length → AStands L F S T0 w → ATurn L F S T0 T out w →
    Calls Try.prog 55 #[.int .i64 f, .pointer (some ⟨L.Bc, 0, none⟩), .pointer (some ⟨L.Bb, 0, none⟩), .pointer (some ⟨L.Bq, 0, none⟩), .pointer (some ⟨L.Bn, 0, none⟩)] w (NextPost L F S (nextF F S T0 n f T out) w) := by
  induction n with
  | zero =>
    intro f T out w hfn hS hT
    have hst := hS.still
    have d2 := cell_of_heap hst.cc (j := 2) rfl
    obtain rfl : f = T0.length := by omega
    have HT := Go.Lib.hid hT
    clear hst hS hT hfn
    unfold nextF
    go_enter Try.func55, Try.ntmps55
    go_wp2_with fail
    go_step3
    go_wp2_with fail
    rw [Exit.noGoto_ret]
    go_end0
    exact ⟨rfl, AG.refl _ _ _, HT.out.row⟩
  | succ n ih =>
    intro f T out w hfn hS hT
    have hst := hS.still
    have d2 := cell_of_heap hst.cc (j := 2) rfl
    have b2 := cell_of_heap hst.cb (j := 2) rfl
    have hft : f < T0.length := by omega
    have g1 : ((f : Int) == (T0.length : Int)) = false := by
      rw [beq_eq_false_iff_ne]; omega
    obtain ⟨a8, e8, hx8, hC⟩ := hst.fits f hft
    obtain ⟨res, hres⟩ : ∃ res, nextF F S T0 (n + 1) f T out = res := ⟨_, rfl⟩
    rw [hres]
    unfold nextF at hres
    have hslot := hk0.slot f hft
    have hrl := hk0.row f hft
    have hno := hk0.nt
    have lT0 : T0.length ≤ 60 := by rw [hno]; exact hk0.nf
    obtain ⟨row, hrw⟩ : ∃ row, T0.getD f [] = row := ⟨_, rfl⟩
    rw [hrw] at hx8 hC hslot hres hrl
    rw [e8] at b2
    have hSt : ∀ w', AG L.Cf L.Bo w w' → Kd.C (Kd.int .i64) w' (L.ra f) row.length row := by
      intro w' a
      obtain ⟨_, _, _, hC'⟩ := (hS w' a).fits f hft
      rwa [hrw] at hC'
    have HT := Go.Lib.hid hT
    have HS := Go.Lib.hid hS
    have HRES := Go.Lib.hid hres
    have HSL := Go.Lib.hid hslot
    have HST := Go.Lib.hid hSt
    have IH := Go.Lib.hid ih
    have HK0 := Go.Lib.hid hk0
    have HFN := Go.Lib.hid hfn
    have HNO := Go.Lib.hid hno
    have hfn1 : f + 1 ≤ T0.length := by omega
    clear hst hS hT hfn hres hslot ih hk0 hC hrw e8 hno hSt
    go_enter Try.func55, Try.ntmps55
    go_wp2_with fail
    go_step3
    go_wp2_with fail
    go_step3
    go_wp2_with fail
    go_loopw [21] (fun i wr => ∃ k : Nat, k ≤ row.length ∧ i = .int .i64 k ∧ Hid (∃ T' out', nextF F S T0 n (f + 1) (tryRow F S f (row.drop k) T' out').1 (tryRow F S f (row.drop k) T' out').2 = res ∧ ATurn L F S T0 T' out' wr ∧ AG L.Cf L.Bo w wr)) (fun i _ => row.length - (intOf i).toNat)
    case atStart => exact ⟨0, Nat.zero_le _, rfl, T, out, HRES.out, HT.out, AG.refl _ _ _⟩
    case round =>
      obtain ⟨k, hk, rfl, HID⟩ := hrel
      obtain ⟨T', out', hre, hT, hag⟩ := HID.out
      by_cases hlt : k < row.length
      · obtain ⟨a9, e9, x9⟩ := Kd.at_int (HST.out wr hag) (k : Int) (by omega) (by omega)
        rw [Int.toNat_natCast, show rd row (k : Int) = row.getD k 0 from by simp [rd]] at x9
        rw [show row.drop k = row.getD k 0 :: row.drop (k + 1) from by rw [List.drop_eq_getElem_cons hlt]; simp [List.getD_eq_getElem?_getD, List.getElem?_eq_getElem hlt]] at hre
        have hsb := HSL.out k hlt
        obtain ⟨s9, hs9⟩ : ∃ s9, row.getD k 0 = s9 := ⟨_, rfl⟩
        rw [hs9] at x9 hre hsb
        obtain ⟨hs0, hs1⟩ := hsb
        unfold tryRow at hre
        have hst := (HS.out.later hag).still
        have d2 := cell_of_heap hst.cc (j := 2) rfl
        have hBl := hT.row.lt
        have hal := (Below.refl wr.heap.size wr).alloc (Nat.le_refl _) (.cells #[.int .i64 s9] 3)
        have dd2 := pw_cell_below hal d2
        have hN1 := Kd.N_alloc hT.fits (.cells #[.int .i64 s9] 3)
        have hbase : L.base ≤ wr.heap.size := Nat.le_trans (Kd.N_base hT.fits L.Cf rfl) (Nat.le_of_lt (Kd.N_lt hT.fits L.Cf rfl))
        obtain ⟨c, hcl, _, hcc⟩ := Kd.N_get hN1 ([] : List Int) (f : Int) (by omega) (by omega)
        have hcl : c.length = 1 := hcl
        obtain ⟨c0, rfl⟩ : ∃ c0, c = [c0] := List.length_eq_one_iff.1 hcl
        have hcc : ∀ j u, [c0][j]? = some u → (wr.alloc (.cells #[.int .i64 s9] 3)).cell? ⟨L.Cf, (f : Int).toNat * (Kd.slice 3 (Kd.int .i64)).sz + j, none⟩ = some u := fun j u hu => by
          have := hcc j u hu
          rwa [add_plain] at this
        have hrow1 : RowAt (wr.alloc (.cells #[.int .i64 s9] 3)) wr.heap.size 3 (Value.int .i64) [s9] := ⟨_, World.alloc_heap_new _ _, fun j hj => by
          have : j = 0 := by simpa using hj
          subst this; rfl⟩
        have hM : Kd.FK (Kd.slice 3 (Kd.int .i64)) (wr.alloc (.cells #[.int .i64 s9] 3)) (fun q => q = wr.heap.size) [s9] [.slice (some ⟨wr.heap.size, 0, none⟩) 1 1] :=
          Kd.FK_slice_mk (c := 1) (by simp) (fun W' hW => C_of_row' (hrow1.same (hW wr.heap.size rfl (by simp))) rfl (by simp))
        have HP := Go.Lib.hid (And.intro hN1 (And.intro hM (And.intro hcc hbase)))
        have HRE := Go.Lib.hid hre
        have HT' := Go.Lib.hid hT
        have HAG := Go.Lib.hid hag
        have HAL := Go.Lib.hid hal
        have hclf : L.Cf < wr.heap.size := Kd.N_lt hT.fits L.Cf rfl
        have PREP : ∀ w2, Kd.N (Kd.slice 3 (Kd.int .i64)) 22 w2 L.base (fun k => k ≠ L.Bo) (.slice (some ⟨L.Cf, 0, none⟩) T0.length L.cf) (T'.set f [s9]) → (wr.alloc (.cells #[.int .i64 s9] 3)).grownBy w2 (some L.Cf) →
            w2.cell? ⟨L.Bc, 0, none⟩ = some (.slice L.A0 F.length L.c0) ∧ w2.cell? ⟨L.Bc, 1, none⟩ = some (.slice L.A1 S.length L.c1) ∧ w2.cell? ⟨L.Bc, 2, none⟩ = some (.slice (some ⟨L.Cf, 0, none⟩) T0.length L.cf) ∧
            Calls Try.prog 52 #[.agg #[.slice L.A0 F.length L.c0, .slice L.A1 S.length L.c1, .slice (some ⟨L.Cf, 0, none⟩) T0.length L.cf]] w2 (SomePost F S (T'.set f [s9]) (.slice L.A0 F.length L.c0) w2) ∧
            Hid (ATurn L F S T0 (T'.set f [s9]) out' w2 ∧ AG L.Cf L.Bo wr w2) := by
          intro w2 hN2 hg2
          have hag2 : AG L.Cf L.Bo wr w2 := (AG.of_below hal hBl).trans (AG.of_grown hg2 (by simp; omega) hne)
          have hst2 := (HS.out.later (hag.trans hag2)).still
          have hbok := BOK.set hT.ok f s9 hs0 hs1
          have hlen2 : (T'.set f [s9]).length = T0.length := by rw [List.length_set, hT.lt]
          have hC2 := (Kd.N_reads' hN2).2.2
          have SC := some_calls L.A0 L.c0 F L.A1 L.c1 S (some ⟨L.Cf, 0, none⟩) L.cf (T'.set f [s9]) w2 hbok hst2.slots hC2
          rw [hlen2] at SC
          exact ⟨cell_of_heap hst2.cc rfl, cell_of_heap hst2.cc rfl, cell_of_heap hst2.cc rfl, SC, ⟨hN2, hT.row.same ((hg2.block L.Bo (by simp; omega) (by simpa using hne)).trans (hal.block L.Bo hBl)), hlen2, hT.lo, hbok⟩, hag2⟩
        clear hre hT hag hst hal hN1 hM hcc hrow1 hs9 hbase HID hcl
        rw [e9] at *
        go_wp2_with (first | (refine Kd.N_store (Kd.slice 3 (Kd.int .i64)) (w0 := wr) L.base rfl rfl 22 (.tmp 30) (.tmp 29) rfl 22 (g := L.Cf) (n := T0.length) (cap := L.cf) (o' := f) (f : Int) 0 T' [s9] (.slice (some ⟨wr.heap.size, 0, none⟩) 1 1) [.slice (some ⟨wr.heap.size, 0, none⟩) 1 1] [c0] (fun q => q ≠ L.Bo) (fun q => q = wr.heap.size) rfl (by show f = (f : Int).toNat * 1 + 0; omega) rfl rfl rfl (by intro q hq; rw [List.mem_singleton.1 hq]; rfl) HP.out.1 (by omega) (by omega) rfl HP.out.2.2.1 (by show 0 + 1 ≤ 1; omega) HP.out.2.1 (fun q hq => ⟨by omega, by omega⟩) (HAL.out.mono HP.out.2.2.2) ?_; intro w2 hN2 hb2 hg2; obtain ⟨p0, p1, p2, SC, HX2⟩ := PREP w2 hN2 hg2; clear hN2 hb2 hg2))
        refine SC.mono ?_
        clear SC
        rintro e w3 ⟨t, rfl, _, _, _, _, hb3⟩
        have hT3 := HX2.out.1.below hb3
        have hbo2 : L.Bo < w2.heap.size := HX2.out.1.row.lt
        have hag3 := HAG.out.trans (HX2.out.2.trans (AG.of_below hb3 hbo2))
        have hst3 := (HS.out.later hag3).still
        have q0 := cell_of_heap hst3.cq (j := 0) rfl
        have q1 := cell_of_heap hst3.cn (j := 0) rfl
        obtain ⟨ok, hok⟩ : ∃ ok, (fillF (T'.set f [s9]) (rooms S) S.length (-1) (List.replicate F.length (-1))).ok = ok := ⟨_, rfl⟩
        rw [hok]
        have hre := HRE.out
        rw [show isF F S (T'.set f [s9]) = ok from hok] at hre
        have HAG3 := Go.Lib.hid hag3
        have HT3 := Go.Lib.hid hT3
        clear hok hT3 hag3 hst3 hb3 p0 p1 p2 PREP HX2 HRE
        cases ok with
        | false =>
          rw [if_neg (by simp)] at hre
          have HRE2 := Go.Lib.hid hre
          clear hre
          go_wp2_with fail
          go_roundw
          case rel => exact ⟨k + 1, by omega, by simp, _, _, HRE2.out, HT3.out, HAG3.out⟩
          case measure => simp [intOf]; omega
        | true =>
          rw [if_pos rfl] at hre
          have HRE2 := Go.Lib.hid hre
          clear hre
          have hfF : (f : Int) < (F.length : Int) := by have := HNO.out; omega
          have fz := HT3.out.row.frozen f
          have cf := HT3.out.row.cellD 0 (f : Int) (by omega) (by rw [HT3.out.lo]; exact hfF)
          rw [Int.toNat_natCast] at cf
          have hT4 := HT3.out.put f s9
          have hag4 : AG L.Cf L.Bo w3 (w3.setCell ⟨L.Bo, f, none⟩ (.int .i64 s9)) := AG.put _ _ _
          have hst4 := (HS.out.later (HAG3.out.trans hag4)).still
          have q4 := cell_of_heap hst4.cn (j := 0) rfl
          have NC := IH.out (f + 1) _ _ _ (by have := HFN.out; omega) (HS.out.later (HAG3.out.trans hag4)) hT4
          rw [HRE2.out, show ((f + 1 : Nat) : Int) = (f : Int) + 1 from by omega] at NC
          have HAG4 := Go.Lib.hid (HAG3.out.trans hag4)
          clear hT4 hag4 hst4
          go_wp2_with fail
          refine NC.mono ?_
          clear NC
          rintro e w5 ⟨rfl, hag5, hrow5⟩
          have HX5 := Go.Lib.hid (And.intro hag5 hrow5)
          clear hag5 hrow5
          go_wp2_with fail
          change bodyPost Try.prog Try.f55 (NextPost L F S res w) Exit.normal _ _
          go_end0
          exact ⟨rfl, HAG4.out.trans HX5.out.1, HX5.out.2⟩
      · obtain rfl : k = row.length := by omega
        rw [List.drop_length] at hre
        have hst := (HS.out.later hag).still
        have q4 := cell_of_heap hst.cn (j := 0) rfl
        have NC := IH.out (f + 1) T' out' wr (by have := HFN.out; omega) (HS.out.later hag) hT
        rw [show nextF F S T0 n (f + 1) T' out' = res from hre, show ((f + 1 : Nat) : Int) = (f : Int) + 1 from by omega] at NC
        have HAG := Go.Lib.hid hag
        clear hre hT hag hst HID
        go_wp2_with fail
        refine NC.mono ?_
        clear NC
        rintro e w5 ⟨rfl, hag5, hrow5⟩
        have HX5 := Go.Lib.hid (And.intro hag5 hrow5)
        clear hag5 hrow5
        go_wp2_with fail
        change bodyPost Try.prog Try.f55 (NextPost L F S res w) Exit.normal _ _
        go_end0
        exact ⟨rfl, HAG.out.trans HX5.out.1, HX5.out.2⟩
end Go.Proofs.Ytkmmihadcbfkoaa
end

section
namespace Go.Proofs.Ytkmmihadcbfkoaa
open Go.RowKit Go.Proofs.YtkmmihadcbfkoaaW.PrintWords PM
set_option linter.unusedVariables false
set_option linter.unusedSimpArgs false
theorem tryRow_len (F : List Int) (S : List S50) (f : Nat) : ∀ (row : List Int) (T : List (List Int)) (out : List Int), (tryRow F S f row T out).2.length = out.length
  | [], _, _ => rfl
  | s :: ss, T, out => by
    unfold tryRow
    split
    · simp
    · exact tryRow_len F S f ss _ out
theorem nextF_len (F : List Int) (S : List S50) (T0 : List (List Int)) : ∀ (n f : Nat) (T : List (List Int)) (out : List Int), (nextF F S T0 n f T out).length = out.length
  | 0, _, _, _ => rfl
  | n + 1, f, T, out => by
    unfold nextF
    rw [nextF_len F S T0 n, tryRow_len]
def firstF (F : List Int) (S : List S50) (T : List (List Int)) : List Int := nextF F S T T.length 0 T (List.replicate F.length (-1))
def PM.match_Assign.f (F : List Int) (S : List S50) (T : List (List Int)) : Option (List Int × Bool × Int) :=
  if checkB F S T ≠ 0 then some ([], false, checkB F S T) else if isF F S T = false then some ([], false, 0) else some (firstF F S T, true, 0)
theorem AG.below {Cf Bo B : Nat} {w0 w w' : World} (h0 : Below B w0 w) (hB : B ≤ w.heap.size) (h : AG Cf Bo w w') (h1 : B ≤ Cf) (h2 : B ≤ Bo) : Below B w0 w' :=
  h0.trans ⟨h.os, h.tape, h.output, h.size, fun k hk => h.block k (by omega) (by omega) (by omega)⟩
set_option maxRecDepth 100000 in
theorem next_zero (Bc Bb Bq Bn c : Nat) (A : Option Addr) (w : World) (h : w.cell? ⟨Bc, 2, none⟩ = some (.slice A 0 c)) :
    Calls Try.prog 55 #[.int .i64 0, .pointer (some ⟨Bc, 0, none⟩), .pointer (some ⟨Bb, 0, none⟩), .pointer (some ⟨Bq, 0, none⟩), .pointer (some ⟨Bn, 0, none⟩)] w fun e w' => e = .returned (.tuple #[]) ∧ w' = w := by
  go_enter Try.func55, Try.ntmps55
  go_wp2_with fail
  go_step3
  go_wp2_with fail
  rw [Exit.noGoto_ret]
  refine bodyPost_ret (results_none rfl _ _ _) rfl ?_
  exact ⟨rfl, rfl⟩
theorem copiedT_calls (B : Nat) (A : Option Addr) (c : Nat) (T : List (List Int)) (w : World) (hr : Kd.F (Kd.slice 3 (Kd.int .i64)) w (fun k => k < B) A T.length T) (hc : T.length ≤ c) (hl : T.length ≤ 1000) :
    Calls Try.prog 53 #[.slice A T.length c] w fun e w' => ∃ v, e = .returned v ∧ Kd.N (Kd.slice 3 (Kd.int .i64)) 22 w' w.heap.size (fun k => k < B ∨ w.heap.size ≤ k) v T ∧ Below w.heap.size w w' :=
  match_copied_int_53.calls (fun k => k < B) A c T T w (Kd.V_mk hc hr) (by
    unfold match_copied_int_53.f
    rw [Option.bind_some, if_pos (by simp; omega)]
    rfl)
theorem box3_set {w : World} {b t : Nat} {a0 a1 a2 : Value} (h : w.heap[b]? = some (.cells #[a0, a1, a2] t (0, 0))) (u0 u1 u2 : Value) :
    (((w.setCell ⟨b, 0, none⟩ u0).setCell ⟨b, 1, none⟩ u1).setCell ⟨b, 2, none⟩ u2).heap[b]? = some (.cells #[u0, u1, u2] t (0, 0)) := by
  simp [World.setCell, Array.getElem?_modify, h]
def StartPost (F : List Int) (S : List S50) (T : List (List Int)) (Bo Bq : Nat) (w : World) (e : Ending) (w' : World) : Prop :=
  e = .returned (.tuple #[]) ∧ w'.cell? ⟨Bq, 0, none⟩ = some (.slice (some ⟨Bo, 0, none⟩) F.length F.length) ∧ Kd.R (Kd.int .i64) 3 w' w.heap.size (fun _ => True) (.slice (some ⟨Bo, 0, none⟩) F.length F.length) (firstF F S T) ∧ Below w.heap.size w w'
/-- The first call of 'next', in the world in which Assign calls it. -/
theorem start_next {A0 : Option Addr} {c0 : Nat} {F : List Int} {A1 : Option Addr} {c1 : Nat} {S : List S50} {A2 : Option Addr} {c2 : Nat} {T : List (List Int)} {w w2 W4 w6 : World} {Ac : Option Addr} {cf Bc Bo : Nat}
    (hk : BOK F S T) (hr1 : Kd.C k50 w A1 S.length S) (hr2 : Kd.C (Kd.slice 3 (Kd.int .i64)) w A2 T.length T) (hW2 : Below w.heap.size w w2)
    (b2 : w2.heap[w.heap.size]? = some (.cells #[.slice A0 F.length c0, .slice A1 S.length c1, .slice A2 T.length c2] 26 (0, 0)))
    (hBc : W4.heap[Bc]? = some (.cells #[.slice A0 F.length c0, .slice A1 S.length c1, .slice Ac T.length cf] 26 (0, 0)))
    (hN : Kd.N (Kd.slice 3 (Kd.int .i64)) 22 W4 w2.heap.size (fun _ => True) (.slice Ac T.length cf) T) (hb4 : Below w2.heap.size w2 W4)
    (hbo : (W4.alloc (.cells #[.int .i64 (-1)] 3)).heap.size ≤ Bo) (hrow6 : w6.heap[Bo]? = some (.cells (List.replicate F.length (Value.int .i64 (-1))).toArray 3 (0, 0))) (hb6 : Below (W4.alloc (.cells #[.int .i64 (-1)] 3)).heap.size (W4.alloc (.cells #[.int .i64 (-1)] 3)) w6) :
    Calls Try.prog 55 #[.int .i64 0, .pointer (some ⟨Bc, 0, none⟩), .pointer (some ⟨w.heap.size, 0, none⟩), .pointer (some ⟨w6.heap.size, 0, none⟩), .pointer (some ⟨w6.heap.size + 1, 0, none⟩)]
      ((w6.alloc (.cells #[.slice (some ⟨Bo, 0, none⟩) F.length F.length] 22)).alloc (.cells #[.func (.func 55) #[] #[.pointer (some ⟨Bc, 0, none⟩), .pointer (some ⟨w.heap.size, 0, none⟩), .pointer (some ⟨w6.heap.size, 0, none⟩), .pointer (some ⟨w6.heap.size + 1, 0, none⟩)]] 73))
      (StartPost F S T Bo w6.heap.size w) := by
  have hal := (Below.refl W4.heap.size W4).alloc (Nat.le_refl _) (.cells #[.int .i64 (-1)] 3)
  have hb46 : Below W4.heap.size W4 w6 := hal.trans (hb6.mono hal.size)
  have ha1 := (Below.refl w6.heap.size w6).alloc (Nat.le_refl _) (.cells #[.slice (some ⟨Bo, 0, none⟩) F.length F.length] 22)
  have n1 := World.alloc_heap_new w6 (.cells #[.slice (some ⟨Bo, 0, none⟩) F.length F.length] 22)
  have n2 := World.alloc_heap_new (w6.alloc (.cells #[.slice (some ⟨Bo, 0, none⟩) F.length F.length] 22)) (.cells #[.func (.func 55) #[] #[.pointer (some ⟨Bc, 0, none⟩), .pointer (some ⟨w.heap.size, 0, none⟩), .pointer (some ⟨w6.heap.size, 0, none⟩), .pointer (some ⟨w6.heap.size + 1, 0, none⟩)]] 73)
  have ha2 := (Below.refl (w6.alloc (.cells #[.slice (some ⟨Bo, 0, none⟩) F.length F.length] 22)).heap.size (w6.alloc (.cells #[.slice (some ⟨Bo, 0, none⟩) F.length F.length] 22))).alloc (Nat.le_refl _) (.cells #[.func (.func 55) #[] #[.pointer (some ⟨Bc, 0, none⟩), .pointer (some ⟨w.heap.size, 0, none⟩), .pointer (some ⟨w6.heap.size, 0, none⟩), .pointer (some ⟨w6.heap.size + 1, 0, none⟩)]] 73)
  generalize hW8 : ((w6.alloc (.cells #[.slice (some ⟨Bo, 0, none⟩) F.length F.length] 22)).alloc (.cells #[.func (.func 55) #[] #[.pointer (some ⟨Bc, 0, none⟩), .pointer (some ⟨w.heap.size, 0, none⟩), .pointer (some ⟨w6.heap.size, 0, none⟩), .pointer (some ⟨w6.heap.size + 1, 0, none⟩)]] 73)) = W8 at *
  have s1 : (w6.alloc (.cells #[.slice (some ⟨Bo, 0, none⟩) F.length F.length] 22)).heap.size = w6.heap.size + 1 := by simp
  rw [s1] at n2 ha2
  have n1 := (ha2.block w6.heap.size (by omega)).trans n1
  have hb68 : Below w6.heap.size w6 W8 := ha1.trans (ha2.mono (by omega))
  have hb48 : Below W4.heap.size W4 W8 := hb46.trans (hb68.mono hb46.size)
  have hb28 : Below w2.heap.size w2 W8 := hb4.trans (hb48.mono hb4.size)
  have hb8 : Below w.heap.size w W8 := hW2.trans (hb28.mono hW2.size)
  have hBol : Bo < w6.heap.size := (Array.getElem?_eq_some_iff.1 hrow6).1
  have hbo' : W4.heap.size < Bo := by
    have : (W4.alloc (.cells #[.int .i64 (-1)] 3)).heap.size = W4.heap.size + 1 := by simp
    omega
  have row8 := (hb68.block Bo hBol).trans hrow6
  have hR8 : RowAt W8 Bo 3 (Value.int .i64) (List.replicate F.length (-1)) := ⟨_, row8, fun j hj => by
    simp at hj
    simp [hj]⟩
  have hS8 : szOf (W8.heap[Bo]?) = F.length := by rw [row8]; simp [szOf]
  have hwBo : w.heap.size ≤ Bo := Nat.le_trans hW2.size (Nat.le_trans hb4.size (Nat.le_of_lt hbo'))
  have lF := hk.nf
  by_cases hT0 : T.length = 0
  · have hF0 : F.length = 0 := by rw [← hk.nt]; exact hT0
    have hc := pw_cell_below hb48 (cell_of_heap hBc (j := 2) rfl)
    have hc : W8.cell? ⟨Bc, 2, none⟩ = some (.slice Ac 0 cf) := by
      rw [← hT0]; exact hc
    refine (next_zero Bc w.heap.size w6.heap.size (w6.heap.size + 1) cf Ac W8 hc).mono ?_
    rintro e w' ⟨rfl, rfl⟩
    refine ⟨rfl, cell_of_heap n1 rfl, ?_, hb8⟩
    have : firstF F S T = List.replicate F.length (-1) := by unfold firstF; rw [hT0]; rfl
    rw [this]
    exact row_result hR8 hS8 (by simp) (Nat.le_refl _) (by rw [hF0]; exact Nat.zero_le _) hwBo
  · obtain ⟨Cf, cap, e, hCb, hCl, cells, hCh⟩ := Kd.N_form hN (by omega)
    injection e with e1 e2 e3
    subst e1
    have hne : Bo ≠ Cf := by omega
    have hBcf : Bc ≠ Cf := by
      rintro rfl
      rw [hBc] at hCh
      injection hCh with hCh
      injection hCh with _ hCh
      exact absurd hCh (by decide)
    obtain ⟨ra, rc, hra⟩ := RowsAt.of_C hr2
    have hBcl := (Array.getElem?_eq_some_iff.1 hBc).1
    have hwl := (Array.getElem?_eq_some_iff.1 b2).1
    have h48 := hb48.size
    have h68 := hb68.size
    have h24 := hb4.size
    have h46 := hb46.size
    have hlast : w6.heap.size + 1 < W8.heap.size := (Array.getElem?_eq_some_iff.1 n2).1
    have NC := next_calls { A0 := A0, c0 := c0, A1 := A1, c1 := c1, A2 := A2, c2 := c2, Bc := Bc, Bb := w.heap.size, Bq := w6.heap.size, Bn := w6.heap.size + 1, Cf := Cf, cf := cf, Bo := Bo, base := w2.heap.size, ra := ra, rc := rc } F S T hne hk T.length 0 T (List.replicate F.length (-1)) W8 (by omega)
      (fun w' a => by
        have hb' : Below w.heap.size w w' := AG.below hb8 hb8.size a (Nat.le_trans hW2.size hCb) hwBo
        exact ⟨((a.block w.heap.size (by omega) (by show w.heap.size ≠ Cf; omega) (by show w.heap.size ≠ Bo; omega)).trans (hb28.block _ hwl)).trans b2,
          ((a.block Bc (by omega) hBcf (by show Bc ≠ Bo; omega)).trans (hb48.block _ hBcl)).trans hBc,
          (a.block w6.heap.size (by omega) (by show w6.heap.size ≠ Cf; omega) (by show w6.heap.size ≠ Bo; omega)).trans n1,
          (a.block (w6.heap.size + 1) (by omega) (by show w6.heap.size + 1 ≠ Cf; omega) (by show w6.heap.size + 1 ≠ Bo; omega)).trans n2,
          Kd.C_below hr1 hb', hra.below hb'⟩)
      ⟨Kd.N_mono (Kd.N_old hN hb48) (fun q hq => by show q ≠ Bo; have := hq.2; omega), hR8, rfl, by simp, hk⟩
    refine Calls.mono NC ?_
    rintro e w' ⟨rfl, a, hrow⟩
    refine ⟨rfl, cell_of_heap ((a.block w6.heap.size (by omega) (by show w6.heap.size ≠ Cf; omega) (by show w6.heap.size ≠ Bo; omega)).trans n1) rfl, ?_, AG.below hb8 hb8.size a (Nat.le_trans hW2.size hCb) hwBo⟩
    exact row_result hrow (a.cells.trans hS8) (by unfold firstF; rw [nextF_len]; simp) (Nat.le_refl _) (by show F.length ≤ maxLen; unfold maxLen; omega) hwBo
set_option maxRecDepth 100000 in
set_option maxHeartbeats 8000000 in
theorem PM.match_Assign.calls (A0 : Option Addr) (c0 : Nat) (F : List Int) (A1 : Option Addr) (c1 : Nat) (S : List S50) (A2 : Option Addr) (c2 : Nat) (T : List (List Int)) (r1 : List Int) (r2 : Bool) (r3 : Int) (w : World)
    (hr0 : Kd.C (Kd.int .i64) w A0 F.length F) (hc0 : F.length ≤ c0) (hr1 : Kd.C k50 w A1 S.length S) (hc1 : S.length ≤ c1) (hr2 : Kd.C (Kd.slice 3 (Kd.int .i64)) w A2 T.length T) (hc2 : T.length ≤ c2) (h : match_Assign.f F S T = some (r1, r2, r3)) :
    Calls Try.prog 15 #[.agg #[.slice A0 F.length c0, .slice A1 S.length c1, .slice A2 T.length c2]] w (LBE r1 r2 r3 w) := by
  have hB0 := (Below.refl w.heap.size w).alloc (Nat.le_refl _) (.cells #[.slice A0 F.length c0, .slice A1 S.length c1, .slice A2 T.length c2] 26)
  have CB := checkboard_calls A0 c0 F A1 c1 S A2 c2 T _ (Kd.C_below hr0 hB0) hc0 (Kd.C_below hr1 hB0) (Kd.C_below hr2 hB0)
  unfold match_Assign.f at h
  obtain ⟨q, hq⟩ : ∃ q, checkB F S T = q := ⟨_, rfl⟩
  rw [hq] at h CB
  have HB0 := Go.Lib.hid hB0
  have HR := Go.Lib.hid (And.intro hr1 hr2)
  have HQ := Go.Lib.hid hq
  have HH := Go.Lib.hid h
  clear hr0 hr1 hr2 hB0 hq h
  go_enter Try.func15, Try.ntmps15
  go_wp2_with fail
  refine CB.mono ?_
  clear CB
  rintro e w1 ⟨rfl, hB1⟩
  have b1 : w1.heap[w.heap.size]? = some (.cells #[.slice A0 F.length c0, .slice A1 S.length c1, .slice A2 T.length c2] 26 (0, 0)) := by
    rw [hB1.block w.heap.size (by simp)]
    exact World.alloc_heap_new w _
  have hW1 : Below w.heap.size w w1 := HB0.out.trans (hB1.mono HB0.out.size)
  have k0 := cell_of_heap b1 (j := 0) rfl
  have k1 := cell_of_heap b1 (j := 1) rfl
  have k2 := cell_of_heap b1 (j := 2) rfl
  have HW1 := Go.Lib.hid hW1
  have BX1 := Go.Lib.hid b1
  clear hB1 b1 hW1
  by_cases hq0 : q = 0
  · subst hq0
    have hk := bok_of_check HQ.out
    have SC := some_calls A0 c0 F A1 c1 S A2 c2 T w1 hk (Kd.C_below HR.out.1 HW1.out) (Kd.C_below HR.out.2 HW1.out)
    have hf := HH.out
    rw [if_neg (by simp)] at hf
    have lT : T.length ≤ 60 := by rw [hk.nt]; exact hk.nf
    have lF : F.length ≤ 60 := hk.nf
    have HK := Go.Lib.hid hk
    unfold SomePost at SC
    obtain ⟨ok, hok⟩ : ∃ ok, (fillF T (rooms S) S.length (-1) (List.replicate F.length (-1))).ok = ok := ⟨_, rfl⟩
    rw [hok] at SC
    rw [show isF F S T = ok from hok] at hf
    clear hk hok HH HQ
    cases ok with
    | false =>
      rw [if_pos rfl] at hf
      injection hf with hf
      injection hf with hf1 hf
      injection hf with hf2 hf3
      subst hf1 hf2 hf3
      go_wp2_with fail
      refine SC.mono ?_
      clear SC
      rintro e w2 ⟨t, rfl, _, _, _, _, hB2⟩
      have HB2 := Go.Lib.hid (HW1.out.trans (hB2.mono HW1.out.size))
      clear hB2
      go_wp2_with fail
      go_ret3
      exact ⟨_, rfl, R_nil _ _, HB2.out⟩
    | true =>
      rw [if_neg (by simp)] at hf
      injection hf with hf
      injection hf with hf1 hf
      injection hf with hf2 hf3
      subst hf2 hf3
      have HF1 := Go.Lib.hid hf1
      clear hf1
      go_wp2_with fail
      refine SC.mono ?_
      clear SC
      rintro e w2 ⟨t, rfl, _, _, _, _, hB2⟩
      have hW2 := HW1.out.trans (hB2.mono HW1.out.size)
      have b2 := (hB2.block w.heap.size (Array.getElem?_eq_some_iff.1 BX1.out).1).trans BX1.out
      have hFT := Kd.C_F (Kd.heap_slice 3 (Kd.heap_int .i64)) (Kd.C_below HR.out.2 hW2)
      have CT : ∀ W, Below w2.heap.size w2 W → Calls Try.prog 53 #[.slice A2 T.length c2] W fun e w' => ∃ v, e = .returned v ∧ Kd.N (Kd.slice 3 (Kd.int .i64)) 22 w' W.heap.size (fun k => k < w2.heap.size ∨ W.heap.size ≤ k) v T ∧ Below W.heap.size W w' ∧ Below w2.heap.size w2 w' := fun W hb => by
        refine (copiedT_calls w2.heap.size A2 c2 T W (Kd.F_below hFT hb) hc2 (by omega)).mono ?_
        rintro e w' ⟨v, rfl, hN, h1⟩
        exact ⟨v, rfl, hN, h1, hb.trans (h1.mono hb.size)⟩
      have hb0 : Below w2.heap.size w2 w2.drew := (Below.refl _ _).drew
      have hb1 : ∀ o, Below w2.heap.size w2 (w2.alloc o).drew := fun o => ((Below.refl _ _).alloc (Nat.le_refl _) o).drew
      have k0 : w2.cell? ⟨w.heap.size, 0, none⟩ = some (.slice A0 F.length c0) := cell_of_heap b2 (j := 0) rfl
      have k1 : w2.cell? ⟨w.heap.size, 1, none⟩ = some (.slice A1 S.length c1) := cell_of_heap b2 (j := 1) rfl
      have k2 : w2.cell? ⟨w.heap.size, 2, none⟩ = some (.slice A2 T.length c2) := cell_of_heap b2 (j := 2) rfl
      have E := World.alloc_heap_new w2 (.cells #[.slice none 0 0, .slice none 0 0, .slice none 0 0] 26)
      have E0 : (w2.alloc (.cells #[.slice none 0 0, .slice none 0 0, .slice none 0 0] 26)).drew.cell? ⟨w2.heap.size, 0, none⟩ = some (.slice none 0 0) := cell_of_heap E (j := 0) rfl
      have E1 : (w2.alloc (.cells #[.slice none 0 0, .slice none 0 0, .slice none 0 0] 26)).drew.cell? ⟨w2.heap.size, 1, none⟩ = some (.slice none 0 0) := cell_of_heap E (j := 1) rfl
      have E2 : (w2.alloc (.cells #[.slice none 0 0, .slice none 0 0, .slice none 0 0] 26)).drew.cell? ⟨w2.heap.size, 2, none⟩ = some (.slice none 0 0) := cell_of_heap E (j := 2) rfl
      have Z0 : (w2.alloc (.cells #[.slice none 0 0, .slice none 0 0, .slice none 0 0] 26)).drew.frozen? ⟨w2.heap.size, 0, none⟩ = false := frozen_of_heap E
      have Z1 : (w2.alloc (.cells #[.slice none 0 0, .slice none 0 0, .slice none 0 0] 26)).drew.frozen? ⟨w2.heap.size, 1, none⟩ = false := frozen_of_heap E
      have Z2 : (w2.alloc (.cells #[.slice none 0 0, .slice none 0 0, .slice none 0 0] 26)).drew.frozen? ⟨w2.heap.size, 2, none⟩ = false := frozen_of_heap E
      have hne1 : w2.heap.size ≠ w.heap.size := by have := World.block_lt_of_cell? w2 _ k0; exact Nat.ne_of_gt this
      have hne2 : w.heap.size ≠ w2.heap.size := Ne.symm hne1
      have HK2 := Go.Lib.hid (And.intro k0 (And.intro k1 k2))
      have HW2 := Go.Lib.hid hW2
      have BX2 := Go.Lib.hid b2
      have HE := Go.Lib.hid E
      clear hB2 hW2 b2 E hFT
      go_wp2_with fail
      go_region_held3 (fun w' => w'.cell? ⟨w.heap.size, 0, none⟩ = some (.slice A0 F.length c0) ∧ w'.cell? ⟨w.heap.size, 1, none⟩ = some (.slice A1 S.length c1) ∧ w'.cell? ⟨w.heap.size, 2, none⟩ = some (.slice A2 T.length c2) ∧ Below w2.heap.size w2 w')
        (go_keep)
        (first
          | (go_at_call 53; refine (CT _ (by first | assumption | exact hb1 _)).mono ?_; rintro e w3 ⟨vc, rfl, hN, hbc, hb⟩; obtain ⟨Ac, cf, rfl⟩ := Kd.N_slice hN; have hba : ∀ o, Below w2.heap.size w2 (w3.alloc o) := fun o => hb.alloc hb.size o; have hbs : ∀ j u, Below w2.heap.size w2 (w3.setCell ⟨w2.heap.size, j, none⟩ u) := fun j u => setCell_below hb (Nat.le_refl _) u; have hbs3 : ∀ u1 u2 u3, Below w2.heap.size w2 (((w3.setCell ⟨w2.heap.size, 0, none⟩ u1).setCell ⟨w2.heap.size, 1, none⟩ u2).setCell ⟨w2.heap.size, 2, none⟩ u3) := fun u1 u2 u3 => setCell_below (setCell_below (setCell_below hb (Nat.le_refl _) u1) (Nat.le_refl _) u2) (Nat.le_refl _) u3; have f0 := pw_cell_below hb HK2.out.1; have f1 := pw_cell_below hb HK2.out.2.1; have f2 := pw_cell_below hb HK2.out.2.2; (try (have e0 := pw_cell_below hbc E0; have e1 := pw_cell_below hbc E1; have e2 := pw_cell_below hbc E2; have z0 := (hbc.frozen (p := ⟨w2.heap.size, 0, none⟩) (by simp)).trans Z0; have z1 := (hbc.frozen (p := ⟨w2.heap.size, 1, none⟩) (by simp)).trans Z1; have z2 := (hbc.frozen (p := ⟨w2.heap.size, 2, none⟩) (by simp)).trans Z2))))
      all_goals (first
        | (have hX4 : ∃ Bc W4, w2.heap.size = Bc ∧ (((w3.setCell ⟨w2.heap.size, 0, none⟩ (.slice A0 F.length c0)).setCell ⟨w2.heap.size, 1, none⟩ (.slice A1 S.length c1)).setCell ⟨w2.heap.size, 2, none⟩ (.slice Ac T.length cf)) = W4 ∧ W4.heap[Bc]? = some (.cells #[.slice A0 F.length c0, .slice A1 S.length c1, .slice Ac T.length cf] 26 (0, 0)) ∧ Kd.N (Kd.slice 3 (Kd.int .i64)) 22 W4 w2.heap.size (fun _ => True) (.slice Ac T.length cf) T ∧ Below w2.heap.size w2 W4 :=
            ⟨_, _, rfl, rfl, box3_set ((hbc.block w2.heap.size (by simp)).trans HE.out) _ _ _, Kd.N_mono (Kd.N_lower (Kd.N_far (p := ⟨w2.heap.size, 2, none⟩) (Kd.N_far (p := ⟨w2.heap.size, 1, none⟩) (Kd.N_far (p := ⟨w2.heap.size, 0, none⟩) hN (fun k hk => by simp at hk; show k ≠ w2.heap.size; omega) _) (fun k hk => by simp at hk; show k ≠ w2.heap.size; omega) _) (fun k hk => by simp at hk; show k ≠ w2.heap.size; omega) _) (by simp)) (fun _ _ => trivial), hbs3 _ _ _⟩
           obtain ⟨Bc, W4, hBc, hW4, hX4⟩ := hX4
           rw [hW4, hBc]
           clear hbs3 hbs hba hW4 hBc E0 E1 E2 Z0 Z1 Z2)
        | (have hX4 : ∃ Bc W4, w3.heap.size = Bc ∧ w3.alloc (.cells #[.slice A0 F.length c0, .slice A1 S.length c1, .slice Ac T.length cf] 26) = W4 ∧ W4.heap[Bc]? = some (.cells #[.slice A0 F.length c0, .slice A1 S.length c1, .slice Ac T.length cf] 26 (0, 0)) ∧ Kd.N (Kd.slice 3 (Kd.int .i64)) 22 W4 w2.heap.size (fun _ => True) (.slice Ac T.length cf) T ∧ Below w2.heap.size w2 W4 :=
            ⟨_, _, rfl, rfl, World.alloc_heap_new _ _, Kd.N_alloc (Kd.N_mono (Kd.N_lower hN (by simp)) (fun _ _ => trivial)) _, hba _⟩
           obtain ⟨Bc, W4, hBc, hW4, hX4⟩ := hX4
           rw [hW4, hBc]
           clear hbs3 hbs hba hW4 hBc E0 E1 E2 Z0 Z1 Z2))
      all_goals (
        have hb4 := hX4.2.2
        have j0 := pw_cell_below hb4 HK2.out.1
        have hal := (Below.refl W4.heap.size W4).alloc (Nat.le_refl _) (.cells #[.int .i64 (-1)] 3)
        have j1 := pw_cell_below hal j0
        have RP := repeat_calls W4.heap.size (-1) F.length (by omega) _ (cell_of_heap (World.alloc_heap_new W4 (.cells #[.int .i64 (-1)] 3)) (j := 0) rfl)
        have HX4 := Go.Lib.hid hX4
        have HAL := Go.Lib.hid hal
        clear hX4 hb4 hal k0 k1 k2 hN hbc hb f0 f1 f2 CT
        go_wp2_with fail
        refine RP.mono ?_
        clear RP
        rintro e w6 ⟨Bo, rfl, hbo, hrow6, hb6⟩
        have HR6 := Go.Lib.hid (And.intro hbo (And.intro hrow6 hb6))
        clear hbo hrow6 hb6
        go_wp2_with fail)
      all_goals (
        have SN := start_next HK.out HR.out.1 HR.out.2 HW2.out BX2.out HX4.out.1 HX4.out.2.1 HX4.out.2.2 HR6.out.1 HR6.out.2.1 HR6.out.2.2
        refine SN.mono ?_
        clear SN
        rintro e w9 ⟨rfl, hq9, hR9, hB9⟩
        have HX9 := Go.Lib.hid (And.intro hR9 hB9)
        clear hR9 hB9
        go_wp2_with fail
        go_ret3
        exact ⟨_, rfl, by rw [← HF1.out]; exact HX9.out.1, HX9.out.2⟩)
  · have g9 : decide (q = 0) = false := by simpa using hq0
    have hf := HH.out
    rw [if_pos hq0] at hf
    injection hf with hf
    injection hf with hf1 hf
    injection hf with hf2 hf3
    subst hf1 hf2 hf3
    go_wp2_with fail
    go_ret3
    exact ⟨_, rfl, R_nil _ _, HW1.out⟩
end Go.Proofs.Ytkmmihadcbfkoaa
end

section
namespace Go.Proofs.Ytkmmihadcbfkoaa
open Go.RowKit Go.Proofs.YtkmmihadcbfkoaaW.PrintWords PM
set_option linter.unusedVariables false
set_option linter.unusedSimpArgs false
theorem piece_bound {F : List Int} {S : List S50} {T : List (List Int)} (h : checkB F S T = 0) (i : Nat) (hi : i < S.length) : 1 ≤ (S.getD i z50).f2 ∧ (S.getD i z50).f2 ≤ 20 := by
  have := room_bound h i hi
  rwa [show (rooms S).getD i 0 = (S.getD i z50).f2 from by simp [rooms, List.getD_eq_getElem?_getD, List.getElem?_eq_getElem hi]] at this
def PM.match_CheckHall.f (_k : Nat) (F : List Int) (S : List S50) (T : List (List Int)) (finds : List Int) : Option (Bool × Int) :=
  if checkB F S T ≠ 0 then some (false, checkB F S T) else some (crowdedB F S T finds (-1) (-1), 0)
theorem PM.match_CheckHall.mono : ∀ a0 a1 a2 a3 k, LeO (match_CheckHall.f k a0 a1 a2 a3) (match_CheckHall.f (k + 1) a0 a1 a2 a3) := fun _ _ _ _ _ => LeO.refl _
set_option maxRecDepth 100000 in
set_option maxHeartbeats 8000000 in
theorem PM.match_CheckHall.calls (k : Nat) (A0 : Option Addr) (c0 : Nat) (F : List Int) (A1 : Option Addr) (c1 : Nat) (S : List S50) (A2 : Option Addr) (c2 : Nat) (T : List (List Int)) (A3 : Option Addr) (c3 : Nat) (finds : List Int) (r1 : Bool) (r2 : Int) (w : World) (hr0 : Kd.C (Kd.int .i64) w A0 F.length F) (hc0 : F.length ≤ c0) (hr1 : Kd.C k50 w A1 S.length S) (hc1 : S.length ≤ c1) (hr2 : Kd.C (Kd.slice 3 (Kd.int .i64)) w A2 T.length T) (hc2 : T.length ≤ c2) (hr3 : Kd.C (Kd.int .i64) w A3 finds.length finds) (hc3 : finds.length ≤ c3) (h : match_CheckHall.f k F S T finds = some (r1, r2)) :
    Calls Try.prog 39 #[.agg #[.slice A0 F.length c0, .slice A1 S.length c1, .slice A2 T.length c2], .slice A3 finds.length c3] w fun e w' => e = .returned (.tuple #[.bool r1, .int .i64 r2]) ∧ Below w.heap.size w w' := by
  have hB0 := (Below.refl w.heap.size w).alloc (Nat.le_refl _) (.cells #[.slice A0 F.length c0, .slice A1 S.length c1, .slice A2 T.length c2] 26)
  have CB := checkboard_calls A0 c0 F A1 c1 S A2 c2 T _ (Kd.C_below hr0 hB0) hc0 (Kd.C_below hr1 hB0) (Kd.C_below hr2 hB0)
  unfold match_CheckHall.f at h
  obtain ⟨q, hq⟩ : ∃ q, checkB F S T = q := ⟨_, rfl⟩
  rw [hq] at h CB
  have HB0 := Go.Lib.hid hB0
  have HR := Go.Lib.hid (And.intro hr1 (And.intro hr2 hr3))
  have HQ := Go.Lib.hid hq
  have HH := Go.Lib.hid h
  clear hr0 hr1 hr2 hr3 hB0 hq h
  go_enter Try.func39, Try.ntmps39
  go_wp2_with fail
  refine CB.mono ?_
  clear CB
  rintro e w1 ⟨rfl, hB1⟩
  have b1 : w1.heap[w.heap.size]? = some (.cells #[.slice A0 F.length c0, .slice A1 S.length c1, .slice A2 T.length c2] 26 (0, 0)) := by
    rw [hB1.block w.heap.size (by simp)]
    exact World.alloc_heap_new w _
  have hW1 : Below w.heap.size w w1 := HB0.out.trans (hB1.mono HB0.out.size)
  have k0 := cell_of_heap b1 (j := 0) rfl
  have k1 := cell_of_heap b1 (j := 1) rfl
  have k2 := cell_of_heap b1 (j := 2) rfl
  have HW1 := Go.Lib.hid hW1
  have BX1 := Go.Lib.hid b1
  clear hB1 b1 hW1
  by_cases hq0 : q = 0
  · subst hq0
    have CC := crowded_calls A0 c0 F A1 c1 S A2 c2 T A3 c3 finds (-1) (-1) w1 (bok_of_check HQ.out) (piece_bound HQ.out) (Kd.C_below HR.out.1 HW1.out) (Kd.C_below HR.out.2.1 HW1.out) (Kd.C_below HR.out.2.2 HW1.out) hc3
    have hf := HH.out
    rw [if_neg (by simp)] at hf
    injection hf with hf
    injection hf with hf1 hf2
    subst hf2
    rw [hf1] at CC
    clear hf1 HH
    go_wp2_with fail
    refine CC.mono ?_
    clear CC
    rintro e w2 ⟨rfl, hB2⟩
    have HB2 := Go.Lib.hid (HW1.out.trans (hB2.mono HW1.out.size))
    clear hB2
    go_wp2_with fail
    go_ret2
    exact ⟨rfl, HB2.out⟩
  · have g9 : decide (q = 0) = false := by simpa using hq0
    have hf := HH.out
    rw [if_pos hq0] at hf
    injection hf with hf
    injection hf with hf1 hf2
    subst hf1 hf2
    go_wp2_with fail
    go_ret2
    exact ⟨rfl, HW1.out⟩
end Go.Proofs.Ytkmmihadcbfkoaa
end

section
namespace Go.Proofs.Ytkmmihadcbfkoaa
open Go.RowKit Go.Proofs.YtkmmihadcbfkoaaW.PrintWords PM
set_option linter.unusedVariables false
set_option linter.unusedSimpArgs false
/-- The least number of finds that a slot must take, from l on. -/
def lowL (F : List Int) (S : List S50) (T : List (List Int)) (slot : Nat) : Nat → Nat → Nat
  | 0, l => l
  | n + 1, l => if (hallR F S T (-1) ((rooms S).set slot (l : Int))).ok then l else lowL F S T slot n (l + 1)
def fitCount (T : List (List Int)) (slot : Int) : Nat := T.countP fun l => decide (slot ∈ l)
def highN (S : List S50) (T : List (List Int)) (slot : Int) : Nat := min (fitCount T slot) ((rooms S).getD slot.toNat 0).toNat
def PM.match_Load.f (F : List Int) (S : List S50) (T : List (List Int)) (slot : Int) : Option (Int × Int × Int) :=
  if askB F S T 0 slot true false ≠ 0 then some (0, 0, askB F S T 0 slot true false)
  else if isF F S T = false then some (0, 0, 40)
  else some ((lowL F S T slot.toNat (highN S T slot) 0 : Nat), (highN S T slot : Nat), 0)
set_option maxRecDepth 100000 in
set_option maxHeartbeats 8000000 in
theorem PM.match_Load.calls (A0 : Option Addr) (c0 : Nat) (F : List Int) (A1 : Option Addr) (c1 : Nat) (S : List S50) (A2 : Option Addr) (c2 : Nat) (T : List (List Int)) (slot : Int) (r1 : Int) (r2 : Int) (r3 : Int) (w : World)
    (hr0 : Kd.C (Kd.int .i64) w A0 F.length F) (hc0 : F.length ≤ c0) (hr1 : Kd.C k50 w A1 S.length S) (hc1 : S.length ≤ c1) (hr2 : Kd.C (Kd.slice 3 (Kd.int .i64)) w A2 T.length T) (hc2 : T.length ≤ c2) (h : match_Load.f F S T slot = some (r1, r2, r3)) :
    Calls Try.prog 18 #[.agg #[.slice A0 F.length c0, .slice A1 S.length c1, .slice A2 T.length c2], .int .i64 slot] w fun e w' => e = .returned (.tuple #[.int .i64 r1, .int .i64 r2, .int .i64 r3]) ∧ Below w.heap.size w w' := by
  have CB := asked_boxed A0 c0 F A1 c1 S A2 c2 T 0 slot true false w hr0 hc0 hr1 hr2 (.cells #[.slice A0 F.length c0, .slice A1 S.length c1, .slice A2 T.length c2] 26)
  unfold match_Load.f at h
  obtain ⟨q, hq⟩ : ∃ q, askB F S T 0 slot true false = q := ⟨_, rfl⟩
  rw [hq] at h CB
  have HR := Go.Lib.hid (And.intro hr1 hr2)
  have HQ := Go.Lib.hid hq
  have HH := Go.Lib.hid h
  clear hr0 hr1 hr2 hq h
  go_enter Try.func18, Try.ntmps18
  go_wp2_with fail
  refine CB.mono ?_
  clear CB
  rintro e w1 ⟨⟨rfl, hW1⟩, b1⟩
  have k0 := cell_of_heap b1 (j := 0) rfl
  have k1 := cell_of_heap b1 (j := 1) rfl
  have k2 := cell_of_heap b1 (j := 2) rfl
  have HW1 := Go.Lib.hid hW1
  have BX1 := Go.Lib.hid b1
  clear b1 hW1
  by_cases hq0 : q = 0
  · subst hq0
    obtain ⟨hcb, _, hsl⟩ := ask_parts HQ.out
    obtain ⟨hsl0, hsl1⟩ := hsl rfl
    have hk := bok_of_check hcb
    have hf := HH.out
    rw [if_neg (by simp)] at hf
    have lT : T.length ≤ 60 := by rw [hk.nt]; exact hk.nf
    have HK := Go.Lib.hid hk
    have HCB := Go.Lib.hid hcb
    clear HH HQ hk hcb
    cases hok : isF F S T with
    | false =>
      have MC := matched_no A0 c0 F A1 c1 S A2 c2 T w1 HK.out (Kd.C_below HR.out.1 HW1.out) (Kd.C_below HR.out.2 HW1.out) hok
      rw [if_pos hok] at hf
      injection hf with hf
      injection hf with hf1 hf
      injection hf with hf2 hf3
      subst hf1 hf2 hf3
      clear hok
      go_wp2_with fail
      refine MC.mono ?_
      clear MC
      rintro e w2 ⟨rfl, hB2⟩
      have HB2 := Go.Lib.hid (HW1.out.trans (hB2.mono HW1.out.size))
      clear hB2
      go_wp2_with fail
      go_ret3
      exact ⟨rfl, HB2.out⟩
    | true =>
      have MC := matched_yes A0 c0 F A1 c1 S A2 c2 T w1 HK.out (Kd.C_below HR.out.1 HW1.out) (Kd.C_below HR.out.2 HW1.out) hok
      rw [if_neg (by rw [hok]; simp)] at hf
      injection hf with hf
      obtain ⟨hi, hhi⟩ : ∃ hi, highN S T slot = hi := ⟨_, rfl⟩
      rw [hhi] at hf
      injection hf with hf1 hf
      injection hf with hf2 hf3
      subst hf2 hf3
      have HF1 := Go.Lib.hid hf1
      have HHI := Go.Lib.hid hhi
      clear hok hf1 hhi
      go_wp2_with fail
      refine MC.mono ?_
      clear MC
      rintro e w2 ⟨t, rfl, _, _, _, _, hB2⟩
      have hW2 := HW1.out.trans (hB2.mono HW1.out.size)
      have b2 := (hB2.block w.heap.size (Array.getElem?_eq_some_iff.1 BX1.out).1).trans BX1.out
      have k2 := cell_of_heap b2 (j := 2) rfl
      have HW2 := Go.Lib.hid hW2
      have BX2 := Go.Lib.hid b2
      clear hB2 hW2 b2
      go_wp2_with fail
      go_loopw [5, 33] (fun n i wr => ∃ k : Nat, k ≤ T.length ∧ i = .int .i64 k ∧ n = .int .i64 ((fitCount (T.take k) slot : Nat) : Int) ∧ Hid (Below w2.heap.size w2 wr)) (fun _ i _ => T.length - (intOf i).toNat)
      case atStart => exact ⟨0, Nat.zero_le _, rfl, rfl, Below.refl _ _⟩
      case round =>
        obtain ⟨k, hk, rfl, rfl, HID⟩ := hrel
        by_cases hlt : k < T.length
        · have hW := HW2.out.trans (HID.out.mono HW2.out.size)
          obtain ⟨a8, Ar, cr, e8, hx8, hlc, hC⟩ := rows_at (Kd.C_below HR.out.2 hW) (k : Int) (by omega) (by omega)
          rw [Int.toNat_natCast] at hx8 hlc hC
          have hcnt : fitCount (T.take (k + 1)) slot = fitCount (T.take k) slot + if slot ∈ T.getD k [] then 1 else 0 := by
            unfold fitCount
            rw [List.take_succ_eq_append_getElem hlt, List.countP_append]
            simp [List.getD_eq_getElem?_getD, List.getElem?_eq_getElem hlt, List.countP_cons]
          have hcl : fitCount (T.take k) slot ≤ k := Nat.le_trans List.countP_le_length (by simp; omega)
          obtain ⟨row, hrw⟩ : ∃ row, T.getD k [] = row := ⟨_, rfl⟩
          rw [hrw] at hx8 hlc hC hcnt
          obtain ⟨n9, hn9⟩ : ∃ n9, fitCount (T.take k) slot = n9 := ⟨_, rfl⟩
          rw [hn9] at hcnt hcl ⊢
          have CC := contains_calls Ar cr row slot wr hC hlc
          have HCNT := Go.Lib.hid hcnt
          clear hW hC hcnt hrw hn9
          rw [e8] at *
          go_wp2_with fail
          refine CC.mono ?_
          clear CC
          rintro e w3 ⟨rfl, hd⟩
          have HB3 := Go.Lib.hid (HID.out.trans (hd.below.mono HID.out.size))
          clear hd
          by_cases hin : slot ∈ row
          · rw [decide_eq_true hin]
            have hcnt := HCNT.out
            rw [if_pos hin] at hcnt
            have HCN := Go.Lib.hid hcnt
            clear hcnt hin
            go_wp2_with fail
            go_roundw
            case rel => exact ⟨k + 1, by omega, by simp, by rw [HCN.out]; simp, HB3.out⟩
            case measure => simp [intOf]; omega
          · rw [decide_eq_false hin]
            have hcnt := HCNT.out
            rw [if_neg hin] at hcnt
            have HCN := Go.Lib.hid hcnt
            clear hcnt hin
            go_wp2_with fail
            go_roundw
            case rel => exact ⟨k + 1, by omega, by simp, by rw [HCN.out]; simp, HB3.out⟩
            case measure => simp [intOf]; omega
        · obtain rfl : k = T.length := by omega
          rw [List.take_length]
          have hW := HW2.out.trans (HID.out.mono HW2.out.size)
          have b3 := (HID.out.block w.heap.size (Array.getElem?_eq_some_iff.1 BX2.out).1).trans BX2.out
          have k1 := cell_of_heap b3 (j := 1) rfl
          obtain ⟨a7, e7, x0, x1, x2⟩ := at_T50 (Kd.C_below HR.out.1 hW) slot hsl0 hsl1
          have hpb := room_bound HCB.out slot.toNat (by omega)
          have hfc : fitCount T slot ≤ 60 := Nat.le_trans List.countP_le_length lT
          have hro : (rooms S).getD slot.toNat 0 = (rd_T50 S slot).f2 := by
            simp [rooms, rd_T50, List.getD_eq_getElem?_getD, List.getElem?_eq_getElem (show slot.toNat < S.length by omega)]
          rw [hro] at hpb
          have hh : highN S T slot = min (fitCount T slot) (rd_T50 S slot).f2.toNat := by unfold highN; rw [hro]
          rw [HHI.out] at hh
          obtain ⟨p9, hp9⟩ : ∃ p9, (rd_T50 S slot).f2 = p9 := ⟨_, rfl⟩
          obtain ⟨n9, hn9⟩ : ∃ n9, fitCount T slot = n9 := ⟨_, rfl⟩
          rw [hp9] at x2 hpb hh
          rw [hn9] at hfc hh ⊢
          obtain ⟨hp1, hp2⟩ := hpb
          have HHH := Go.Lib.hid hh
          have HW := Go.Lib.hid hW
          have BX3 := Go.Lib.hid b3
          clear hW b3 hro hh hn9 hp9 HID
          subst e7
          go_wp2_with fail
          have hmin : min (n9 : Int) p9 = (hi : Int) := by have := HHH.out; omega
          rw [hmin]
          have hhi60 : hi ≤ 60 := by omega
          have hlow := HF1.out
          obtain ⟨lo, hlo⟩ : ∃ lo, lowL F S T slot.toNat hi 0 = lo := ⟨_, rfl⟩
          rw [hlo] at hlow
          subst hlow
          have HLO := Go.Lib.hid hlo
          clear hmin hlo HF1 x0 x1 x2 k0 k1 k2
          go_loopw [4] (fun l wr => ∃ k : Nat, k ≤ hi ∧ l = .int .i64 k ∧ Hid (lowL F S T slot.toNat (hi - k) k = lo ∧ Below w.heap.size w wr ∧ wr.heap[w.heap.size]? = some (.cells #[.slice A0 F.length c0, .slice (some a7) S.length c1, .slice A2 T.length c2] 26 (0, 0)))) (fun l _ => hi - (intOf l).toNat)
          case atStart => exact ⟨0, Nat.zero_le _, rfl, HLO.out, HW.out, BX3.out⟩
          case round =>
            obtain ⟨k, hk, rfl, HID⟩ := hrel
            obtain ⟨hlk, hbl, hbx⟩ := HID.out
            by_cases hlt : k < hi
            · have k0 := cell_of_heap hbx (j := 0) rfl
              have k1 := cell_of_heap hbx (j := 1) rfl
              have k2 := cell_of_heap hbx (j := 2) rfl
              have TC := tried_calls3 A0 c0 F (some a7) c1 S A2 c2 T _ HK.out (Kd.C_below HR.out.1 hbl) (Kd.C_below HR.out.2 hbl)
              obtain ⟨n, hn⟩ : ∃ n, hi - k = n + 1 := ⟨hi - k - 1, by omega⟩
              rw [hn] at hlk
              unfold lowL at hlk
              have HLK := Go.Lib.hid hlk
              have HN := Go.Lib.hid hn
              have HBL := Go.Lib.hid hbl
              have HBX := Go.Lib.hid hbx
              clear hlk hn hbl hbx HID
              go_wp2_with fail
              refine TC.mono ?_
              clear TC
              rintro e w4 ⟨t, rfl, hN, en1, en2⟩
              have hlr : (rooms S).length = S.length := by simp [rooms]
              obtain ⟨Ab, eA, hc, hfz, hN2⟩ := hN.set slot hsl0 (by omega) (k : Int)
              have y3 := cell_of_heap hN.gb (j := 3) rfl
              rw [eA, hlr] at y3
              have FC := fill_calls t T _ hN2.fit (-1) _ hN2.len _ hN2.stands hN2.row
              obtain ⟨rr, hrr⟩ : ∃ rr, hallR F S T (-1) ((rooms S).set slot.toNat (k : Int)) = rr := ⟨_, rfl⟩
              rw [en1, show fillF T ((rooms S).set slot.toNat (k : Int)) S.length (-1) (List.replicate F.length (-1)) = rr from hrr] at FC
              have hlk := HLK.out
              rw [hrr] at hlk
              have HLK := Go.Lib.hid hlk
              unfold FillPost at FC
              obtain ⟨ok, hok⟩ : ∃ ok, rr.ok = ok := ⟨_, rfl⟩
              rw [hok] at FC
              have HOK := Go.Lib.hid hok
              have HB2 := Go.Lib.hid hN2.B
              have HL2 := Go.Lib.hid hN2.hl
              clear hN hN2 en1 en2 hlr eA hrr hlk hok
              go_wp2_with fail
              refine FC.mono ?_
              clear FC
              rintro e w5 ⟨vh, rfl, hag, _, how⟩
              have hsz := HBL.out.size
              have hb5 := hag.below HB2.out HB2.out.size HL2.out HL2.out
              have hbw := HBL.out.trans (hb5.mono hsz)
              have hbx5 := (hb5.block w.heap.size (Array.getElem?_eq_some_iff.1 HBX.out).1).trans HBX.out
              have HB5 := Go.Lib.hid (And.intro hbw hbx5)
              clear hag how hb5 hsz hbw hbx5
              cases ok with
              | true =>
                have hl : k = lo := by have := HLK.out; rw [HOK.out, if_pos rfl] at this; exact this
                subst hl
                go_wp2_with fail
                go_ret3
                exact ⟨rfl, HB5.out.1⟩
              | false =>
                have hl : lowL F S T slot.toNat n (k + 1) = lo := by have := HLK.out; rw [HOK.out, if_neg (by simp)] at this; exact this
                have HL := Go.Lib.hid hl
                clear hl
                go_wp2_with fail
                go_roundw
                case rel => exact ⟨k + 1, by omega, by simp, by rw [show hi - (k + 1) = n from by have := HN.out; omega]; exact HL.out, HB5.out.1, HB5.out.2⟩
                case measure => simp [intOf]; omega
            · obtain rfl : k = hi := by omega
              rw [Nat.sub_self] at hlk
              have hl : k = lo := hlk
              subst hl
              have HBL := Go.Lib.hid hbl
              clear hlk hbl hbx HID
              go_wp2_with fail
              go_ret3
              exact ⟨rfl, HBL.out⟩
  · have g9 : decide (q = 0) = false := by simpa using hq0
    have hf := HH.out
    rw [if_pos hq0] at hf
    injection hf with hf
    injection hf with hf1 hf
    injection hf with hf2 hf3
    subst hf1 hf2 hf3
    go_wp2_with fail
    go_ret3
    exact ⟨rfl, HW1.out⟩
end Go.Proofs.Ytkmmihadcbfkoaa
end

section
namespace Go.Proofs.Ytkmmihadcbfkoaa
open PM
set_option linter.unusedVariables false
set_option linter.unusedSimpArgs false
section
variable {F : List Int} {S : List S50} {T : List (List Int)}
theorem isF_rows (hnn : ∀ s : Nat, s < S.length → 0 ≤ (rooms S).getD s 0) {T' : List (List Int)} (hl : T'.length = F.length) (hf : FitsOk T' S.length) : isF F S T' = true ↔ ∃ l, AsgB S T' l := by
  unfold isF
  rw [← hl]
  exact fill_iff hf hnn
theorem getD_set_row (T : List (List Int)) (i : Nat) (x : List Int) (j : Nat) (h : i < T.length) : (T.set i x).getD j [] = if j = i then x else T.getD j [] := getD_set T i x [] j h
/-- Behind f finds: these have one slot alone, as found; there is an assignment still. -/
structure FirstInv (S : List S50) (T0 : List (List Int)) (f : Nat) (T : List (List Int)) (out : List Int) : Prop where
  len : T.length = T0.length
  olen : out.length = T0.length
  new : ∀ j : Nat, f ≤ j → j < T0.length → T.getD j [] = T0.getD j [] ∧ out.getD j 0 = -1
  old : ∀ j : Nat, j < f → j < T0.length → (T0.getD j [] = [] ∧ T.getD j [] = [] ∧ out.getD j 0 = -1) ∨ (out.getD j 0 ∈ T0.getD j [] ∧ T.getD j [] = [out.getD j 0])
  has : ∃ l, AsgB S T l
theorem FirstInv.fits {f : Nat} {T0 T : List (List Int)} {out : List Int} (h : FirstInv S T0 f T out) (hf : FitsOk T0 S.length) : FitsOk T S.length := by
  intro j hj s hs
  have hj0 : j < T0.length := by rw [← h.len]; exact hj
  by_cases hlt : j < f
  · rcases h.old j hlt hj0 with ⟨_, e, _⟩ | ⟨e1, e2⟩
    · rw [e] at hs; simp at hs
    · rw [e2] at hs
      have := List.mem_singleton.1 hs
      subst this
      exact hf j hj0 _ e1
  · rw [(h.new j (by omega) hj0).1] at hs
    exact hf j hj0 s hs
/-- An assignment of a board with a row that is longer is one of the board with the slot alone that it has. -/
theorem asg_row {T : List (List Int)} {f : Nat} (hf : f < T.length) {row : List Int} {l : List Int} {s : Int} (h : AsgB S T l) (he : T.getD f [] ≠ []) (hs : l.getD f 0 = s) : AsgB S (T.set f [s]) l := by
  refine ⟨by rw [List.length_set]; exact h.len, fun j hj k => ?_, fun j hj k1 k2 => ?_, h.load⟩
  · rw [List.length_set] at hj
    rw [getD_set_row T f [s] j hf] at k
    by_cases e : j = f
    · rw [if_pos e] at k
      rcases k with k | k
      · cases k
      · omega
    · rw [if_neg e] at k
      exact h.none j hj k
  · rw [List.length_set] at hj
    rw [getD_set_row T f [s] j hf] at k1 ⊢
    by_cases e : j = f
    · rw [if_pos e, e, hs]; exact List.mem_singleton.2 rfl
    · rw [if_neg e] at k1 ⊢
      exact h.some j hj k1 k2
/-- The first slot of a row with which there is an assignment. -/
theorem tryRow_is {f : Nat} {T0 : List (List Int)} (hf0 : FitsOk T0 S.length) (hnn : ∀ s : Nat, s < S.length → 0 ≤ (rooms S).getD s 0) (hF : T0.length = F.length) (hff : f < T0.length) (out : List Int) :
    ∀ (row : List Int) (T : List (List Int)), (∀ s, s ∈ row → s ∈ T0.getD f []) → T.length = T0.length → (∀ j : Nat, j < T0.length → j ≠ f → FitsOk [T.getD j []] S.length) → (∃ s, s ∈ row ∧ ∃ l, AsgB S (T.set f [s]) l) →
    ∃ pre s post, row = pre ++ s :: post ∧ (∀ t, t ∈ pre → ¬ ∃ l, AsgB S (T.set f [t]) l) ∧ (∃ l, AsgB S (T.set f [s]) l) ∧ tryRow F S f row T out = (T.set f [s], out.set f s)
  | [], T, _, _, _, h => by obtain ⟨s, hs, _⟩ := h; simp at hs
  | s :: row, T, hrow, hl, hfit, h => by
    unfold tryRow
    have hfs : FitsOk (T.set f [s]) S.length := by
      intro j hj t ht
      rw [List.length_set] at hj
      rw [getD_set_row T f [s] j (by omega)] at ht
      by_cases e : j = f
      · rw [if_pos e] at ht
        have := List.mem_singleton.1 ht
        subst this
        exact hf0 f hff _ (hrow _ List.mem_cons_self)
      · rw [if_neg e] at ht
        exact hfit j (by omega) e 0 (by simp) t (by simpa using ht)
    have hiff := isF_rows (F := F) hnn (T' := T.set f [s]) (by rw [List.length_set]; omega) hfs
    by_cases hok : isF F S (T.set f [s]) = true
    · rw [if_pos hok]
      exact ⟨[], s, row, rfl, fun t ht => by simp at ht, hiff.1 hok, rfl⟩
    · rw [if_neg hok]
      have hno : ¬ ∃ l, AsgB S (T.set f [s]) l := fun k => hok (hiff.2 k)
      have hset : ∀ t, (T.set f [s]).set f [t] = T.set f [t] := fun t => by rw [List.set_set]
      obtain ⟨pre, x, post, e1, e2, e3, e4⟩ := tryRow_is hf0 hnn hF hff out row (T.set f [s]) (fun t ht => hrow t (List.mem_cons_of_mem _ ht)) (by rw [List.length_set]; exact hl) (fun j hj hne => by
        rw [getD_set_row T f [s] j (by omega), if_neg hne]
        exact hfit j hj hne) (by
        obtain ⟨t, ht, hk⟩ := h
        rcases List.mem_cons.1 ht with e | ht
        · subst e; exact absurd hk hno
        · exact ⟨t, ht, by rw [hset]; exact hk⟩)
      refine ⟨s :: pre, x, post, by rw [e1]; rfl, fun t ht => ?_, by rw [hset] at e3; exact e3, by rw [e4, hset]⟩
      rcases List.mem_cons.1 ht with e | ht
      · rw [e]; exact hno
      · have := e2 t ht
        rwa [hset] at this
theorem tryRow_nil (F : List Int) (S : List S50) (f : Nat) (T : List (List Int)) (out : List Int) : tryRow F S f [] T out = (T, out) := rfl
/-- One find more. -/
theorem first_step {f : Nat} {T0 T : List (List Int)} {out : List Int} (hf0 : FitsOk T0 S.length) (hnn : ∀ s : Nat, s < S.length → 0 ≤ (rooms S).getD s 0) (hF : T0.length = F.length) (hff : f < T0.length) (h : FirstInv S T0 f T out) :
    FirstInv S T0 (f + 1) (tryRow F S f (T0.getD f []) T out).1 (tryRow F S f (T0.getD f []) T out).2 ∧
    (T0.getD f [] = [] ∧ (tryRow F S f (T0.getD f []) T out) = (T, out) ∨
     ∃ pre s post, T0.getD f [] = pre ++ s :: post ∧ (∀ t, t ∈ pre → ¬ ∃ l, AsgB S (T.set f [t]) l) ∧ (∃ l, AsgB S (T.set f [s]) l) ∧ tryRow F S f (T0.getD f []) T out = (T.set f [s], out.set f s)) := by
  obtain ⟨hT, ho⟩ := h.new f (Nat.le_refl _) hff
  have hfT : f < T.length := by rw [h.len]; exact hff
  have hfo : f < out.length := by rw [h.olen]; exact hff
  by_cases he : T0.getD f [] = []
  · rw [he, tryRow_nil]
    refine ⟨⟨h.len, h.olen, fun j h1 h2 => h.new j (by omega) h2, fun j h1 h2 => ?_, h.has⟩, Or.inl ⟨rfl, rfl⟩⟩
    by_cases e : j = f
    · subst e
      exact Or.inl ⟨he, by rw [hT]; exact he, ho⟩
    · exact h.old j (by omega) h2
  · have hfits := h.fits hf0
    obtain ⟨pre, s, post, e1, e2, e3, e4⟩ := tryRow_is (F := F) (T0 := T0) hf0 hnn hF hff out (T0.getD f []) T (fun _ k => k) h.len (fun j hj hne i hi s hs => by
      have : i = 0 := by simpa using hi
      subst this
      exact hfits j (by rw [h.len]; exact hj) s (by simpa using hs)) (by
      obtain ⟨l, hl⟩ := h.has
      have hin := hl.some f hfT (by rw [hT]; exact he) (by omega)
      rw [hT] at hin
      exact ⟨_, hin, l, asg_row (row := []) hfT hl (by rw [hT]; exact he) rfl⟩)
    rw [e4]
    refine ⟨⟨by rw [List.length_set]; exact h.len, by rw [List.length_set]; exact h.olen, fun j h1 h2 => ?_, fun j h1 h2 => ?_, e3⟩, Or.inr ⟨pre, s, post, e1, e2, e3, rfl⟩⟩
    · rw [getD_set_row T f [s] j hfT, getD_set out f s 0 j hfo, if_neg (by omega), if_neg (by omega)]
      exact h.new j (by omega) h2
    · rw [getD_set_row T f [s] j hfT, getD_set out f s 0 j hfo]
      by_cases e : j = f
      · rw [if_pos e, if_pos e]
        refine Or.inr ⟨?_, rfl⟩
        rw [e, e1]
        simp
      · rw [if_neg e, if_neg e]
        exact h.old j (by omega) h2
theorem nextF_inv {T0 : List (List Int)} (hf0 : FitsOk T0 S.length) (hnn : ∀ s : Nat, s < S.length → 0 ≤ (rooms S).getD s 0) (hF : T0.length = F.length) : ∀ (n f : Nat) (T : List (List Int)) (out : List Int), n + f = T0.length → FirstInv S T0 f T out →
    ∃ T', FirstInv S T0 T0.length T' (nextF F S T0 n f T out)
  | 0, f, T, out, hn, h => by
    have : f = T0.length := by omega
    subst this
    exact ⟨T, h⟩
  | n + 1, f, T, out, hn, h => by
    unfold nextF
    exact nextF_inv hf0 hnn hF n (f + 1) _ _ (by omega) (first_step hf0 hnn hF (by omega) h).1
theorem first_start {T0 : List (List Int)} (h : ∃ l, AsgB S T0 l) : FirstInv S T0 0 T0 (List.replicate T0.length (-1)) :=
  ⟨rfl, by simp, fun j _ h => ⟨rfl, by simp [List.getD_eq_getElem?_getD, List.getElem?_replicate, h]⟩, fun j h => absurd h (Nat.not_lt_zero _), h⟩
theorem inv_asg {T0 T : List (List Int)} {out : List Int} (h : FirstInv S T0 T0.length T out) : AsgB S T0 out := by
  obtain ⟨l, hl⟩ := h.has
  have hlen : l.length = T0.length := by rw [hl.len, h.len]
  have e : l = out := by
    refine List.ext_getElem (by rw [hlen, h.olen]) fun j h1 h2 => ?_
    have hj : j < T0.length := by omega
    have hjT : j < T.length := by rw [h.len]; exact hj
    have e1 : l.getD j 0 = l[j] := by simp [List.getD_eq_getElem?_getD, List.getElem?_eq_getElem h1]
    have e2 : out.getD j 0 = out[j] := by simp [List.getD_eq_getElem?_getD, List.getElem?_eq_getElem h2]
    rw [← e1, ← e2]
    rcases h.old j hj hj with ⟨_, k2, k3⟩ | ⟨_, k2⟩
    · rw [k3]; exact hl.none j hjT (Or.inl k2)
    · have := hl.some j hjT (by rw [k2]; simp) (by omega)
      rw [k2] at this
      exact List.mem_singleton.1 this
  subst e
  refine ⟨hlen, fun j hj k => ?_, fun j hj k1 k2 => ?_, hl.load⟩
  · rcases k with k | k
    · rcases h.old j hj hj with ⟨_, _, k3⟩ | ⟨k1, _⟩
      · exact k3
      · rw [k] at k1; simp at k1
    · omega
  · rcases h.old j hj hj with ⟨k3, _, _⟩ | ⟨k3, _⟩
    · exact absurd k3 k1
    · exact k3
/-- What Assign finds is an assignment. -/
theorem first_asg (hc : checkB F S T = 0) (h : isF F S T = true) : AsgB S T (firstF F S T) := by
  have hnt := (bok_of_check hc).nt
  obtain ⟨T', hT⟩ := nextF_inv (F := F) (fitsok_of hc) (rooms_nn hc) hnt T.length 0 T (List.replicate T.length (-1)) (by omega) (first_start ((isF_iff hc).1 h))
  unfold firstF
  rw [← hnt]
  exact inv_asg hT
end
end Go.Proofs.Ytkmmihadcbfkoaa
end

section
namespace Go.Proofs.Ytkmmihadcbfkoaa
open PM
set_option linter.unusedVariables false
set_option linter.unusedSimpArgs false
section
variable {F : List Int} {S : List S50} {T : List (List Int)}
theorem lowL_le (F : List Int) (S : List S50) (T : List (List Int)) (slot : Nat) : ∀ n l, lowL F S T slot n l ≤ l + n ∧ l ≤ lowL F S T slot n l
  | 0, l => ⟨Nat.le_refl _, Nat.le_refl _⟩
  | n + 1, l => by
    unfold lowL
    split
    · omega
    · have := lowL_le F S T slot n (l + 1); omega
theorem lowL_no (F : List Int) (S : List S50) (T : List (List Int)) (slot : Nat) : ∀ n l m, l ≤ m → m < lowL F S T slot n l → (hallR F S T (-1) ((rooms S).set slot (m : Int))).ok = false
  | 0, l, m, h1, h2 => by unfold lowL at h2; omega
  | n + 1, l, m, h1, h2 => by
    unfold lowL at h2
    split at h2
    · omega
    · rename_i hk
      by_cases e : m = l
      · subst e; simpa using hk
      · exact lowL_no F S T slot n (l + 1) m (by omega) h2
theorem asg_fit (hc : checkB F S T = 0) {l : List Int} (ha : AsgB S T l) {slot : Nat} : l.count (slot : Int) ≤ fitCount T (slot : Int) := by
  have h1 : l.count (slot : Int) = (List.range T.length).countP (fun j => l.getD j 0 == (slot : Int)) := by
    have := ld_countP l (slot : Int)
    rw [ld_cnt, ha.len] at this
    omega
  have h2 : fitCount T (slot : Int) = (List.range T.length).countP (fun j => decide ((slot : Int) ∈ T.getD j [])) := by
    unfold fitCount
    have e : T = (List.range T.length).map (fun j => T.getD j []) := by
      apply List.ext_getElem (by simp)
      intro i h1 h2
      simp [List.getD_eq_getElem?_getD, List.getElem?_eq_getElem h1]
    conv => lhs; rw [e]
    rw [List.countP_map]
    rfl
  rw [h1, h2]
  refine List.countP_mono_left fun j hj h => ?_
  have hj' := List.mem_range.1 hj
  have hl : l.getD j 0 = (slot : Int) := by simpa using h
  by_cases e : T.getD j [] = []
  · have := ha.none j hj' (Or.inl e)
    omega
  · have := ha.some j hj' e (by omega)
    rw [hl] at this
    exact decide_eq_true this
theorem room_set {slot : Nat} (hs : slot < S.length) (m : Int) (t : Nat) : ((rooms S).set slot m).getD t 0 = if t = slot then m else (rooms S).getD t 0 := getD_set (rooms S) slot m 0 t (by rw [rooms_len]; exact hs)
/-- Each assignment gives a slot a number of finds from low to high. -/
theorem load_between (hc : checkB F S T = 0) {l : List Int} (ha : AsgB S T l) {slot : Nat} (hs : slot < S.length) : (lowL F S T slot (highN S T slot) 0 : Int) ≤ ld l slot ∧ ld l slot ≤ (highN S T slot : Int) := by
  have hroom := ha.load slot hs
  have h1 := rooms_one hc slot hs
  constructor
  · refine Int.not_lt.1 fun h => ?_
    rw [ld_cnt] at h
    have hno := lowL_no F S T slot (highN S T slot) 0 (l.count (slot : Int)) (Nat.zero_le _) (by omega)
    have hyes : (hallR F S T (-1) ((rooms S).set slot ((l.count (slot : Int) : Nat) : Int))).ok = true := by
      refine (hallR_iff hc (fun s hs' => ?_)).2 ⟨l, ha.len, ha.none, ha.some, fun s hs' => ?_⟩
      · rw [room_set hs]
        have := rooms_one hc s hs'
        split <;> omega
      · rw [room_set hs]
        split
        · rename_i e; subst e; rw [ld_cnt]; exact Int.le_refl _
        · exact ha.load s hs'
    rw [hno] at hyes
    cases hyes
  · have h2 := asg_fit hc ha (slot := slot)
    rw [ld_cnt] at hroom ⊢
    unfold highN
    rw [Int.toNat_natCast]
    omega
theorem high_room (hc : checkB F S T = 0) {slot : Nat} (hs : slot < S.length) : (highN S T slot : Int) ≤ (S.getD slot z50).f2 := by
  have h1 := rooms_one hc slot hs
  rw [← rooms_at S slot hs]
  unfold highN
  rw [Int.toNat_natCast]
  omega
/-- The finds in the first slots. -/
def psum (a : List Int) (s : Nat) : Int := zsum s (fun _ => true) (fun t => ld a t)
theorem psum_step (a : List Int) (s : Nat) : psum a (s + 1) = psum a s + ld a s := by
  unfold psum zsum
  simp only [List.range_succ, List.map_append, List.sum_append, List.map_cons, List.map_nil, List.sum_cons, List.sum_nil]
  simp
theorem psum_bound (a : List Int) : ∀ s : Nat, 0 ≤ psum a s ∧ psum a s ≤ (a.length : Int) * s
  | 0 => ⟨Int.le_refl _, by show (0 : Int) ≤ _; simp⟩
  | s + 1 => by
    have ih := psum_bound a s
    have h1 : ld a s ≤ a.length := by rw [ld_cnt]; exact Int.ofNat_le.2 (List.count_le_length)
    have h0 := ld_nonneg a s
    rw [psum_step]
    have e : (a.length : Int) * ((s + 1 : Nat) : Int) = (a.length : Int) * s + a.length := by
      rw [Int.natCast_add, Int.mul_add]
      simp
    rw [e]
    omega
theorem psum_all (hc : checkB F S T = 0) {a : List Int} (ha : AsgB S T a) : psum a S.length = (F.length : Int) - (((List.range T.length).filter fun j => decide (T.getD j [] = [])).length : Int) := by
  have hnt := (bok_of_check hc).nt
  have hf := fitsok_of hc
  have hval : ∀ j : Nat, j < T.length → (T.getD j [] = [] ∧ a.getD j 0 = -1) ∨ (T.getD j [] ≠ [] ∧ 0 ≤ a.getD j 0 ∧ a.getD j 0 < S.length) := fun j hj => by
    by_cases e : T.getD j [] = []
    · exact Or.inl ⟨e, ha.none j hj (Or.inl e)⟩
    · have := hf j hj _ (ha.some j hj e (by omega))
      exact Or.inr ⟨e, this.1, this.2⟩
  have hmem : ∀ x, x ∈ a → ∃ j, j < T.length ∧ a.getD j 0 = x := fun x hx => by
    obtain ⟨j, hj, e⟩ := List.getElem_of_mem hx
    exact ⟨j, by rw [← ha.len]; exact hj, by rw [List.getD_eq_getElem?_getD, List.getElem?_eq_getElem hj]; exact e⟩
  have h1 := len_zsum (ns := S.length) (Z := fun _ => true) (a.filter fun x => decide (0 ≤ x)) (fun x hx => by
    obtain ⟨hx1, hx2⟩ := List.mem_filter.1 hx
    obtain ⟨j, hj, e⟩ := hmem x hx1
    have hp : 0 ≤ x := of_decide_eq_true hx2
    rcases hval j hj with ⟨_, k⟩ | ⟨_, k1, k2⟩
    · omega
    · exact ⟨hp, by omega, rfl⟩)
  have h2 : psum a S.length = zsum S.length (fun _ => true) (fun s => ((a.filter fun x => decide (0 ≤ x)).count (s : Int) : Nat)) := by
    unfold psum zsum
    congr 1
    refine List.map_congr_left fun s _ => ?_
    rw [if_pos rfl, if_pos rfl]
    show ld a (s : Int) = ((a.filter fun x => decide (0 ≤ x)).count (s : Int) : Nat)
    rw [ld_cnt, List.count_filter (by simp)]
  rw [h2, ← h1]
  have h3 : (a.filter fun x => decide (0 ≤ x)).length = (List.range T.length).countP (fun j => decide (T.getD j [] ≠ [])) := by
    rw [← List.countP_eq_length_filter]
    have e : a = (List.range T.length).map (fun j => a.getD j 0) := by rw [← ha.len]; exact (range_map_getD a).symm
    conv => lhs; rw [e]
    rw [List.countP_map]
    refine List.countP_congr fun j hj => ?_
    have hj' := List.mem_range.1 hj
    simp only [Function.comp, decide_eq_true_eq]
    rcases hval j hj' with ⟨k1, k2⟩ | ⟨k1, k2, _⟩
    · constructor
      · intro h; omega
      · intro h; exact absurd k1 h
    · exact ⟨fun _ => k1, fun _ => k2⟩
  have h4 := List.length_eq_countP_add_countP (fun j => decide (T.getD j [] = [])) (l := List.range T.length)
  rw [List.length_range] at h4
  rw [h3, ← List.countP_eq_length_filter]
  have h5 : (List.range T.length).countP (fun j => decide (T.getD j [] ≠ [])) = (List.range T.length).countP (fun a => decide (¬ (decide (T.getD a [] = [])) = true)) := List.countP_congr fun j _ => by simp
  rw [h5]
  omega
end
end Go.Proofs.Ytkmmihadcbfkoaa
end

section
namespace Go.Proofs.Ytkmmihadcbfkoaa
open Go.RowKit Go.Proofs.YtkmmihadcbfkoaaW.PrintWords PM
set_option linter.unusedVariables false
set_option linter.unusedSimpArgs false
def PM.match_CheckRefuse.f (_k : Nat) (F : List Int) (S : List S50) (T : List (List Int)) (find slot : Int) (finds : List Int) : Option (Bool × Int) :=
  if askB F S T find slot false false ≠ 0 then some (false, askB F S T find slot false false)
  else if slot ∉ T.getD find.toNat [] then some (decide (finds = []), 0)
  else some (crowdedB F S T finds find slot, 0)
theorem PM.match_CheckRefuse.mono : ∀ a0 a1 a2 a3 a4 a5 k, LeO (match_CheckRefuse.f k a0 a1 a2 a3 a4 a5) (match_CheckRefuse.f (k + 1) a0 a1 a2 a3 a4 a5) := fun _ _ _ _ _ _ _ => LeO.refl _
set_option maxRecDepth 100000 in
set_option maxHeartbeats 8000000 in
theorem PM.match_CheckRefuse.calls (k : Nat) (A0 : Option Addr) (c0 : Nat) (F : List Int) (A1 : Option Addr) (c1 : Nat) (S : List S50) (A2 : Option Addr) (c2 : Nat) (T : List (List Int)) (find slot : Int) (A3 : Option Addr) (c3 : Nat) (finds : List Int) (r1 : Bool) (r2 : Int) (w : World) (hr0 : Kd.C (Kd.int .i64) w A0 F.length F) (hc0 : F.length ≤ c0) (hr1 : Kd.C k50 w A1 S.length S) (hc1 : S.length ≤ c1) (hr2 : Kd.C (Kd.slice 3 (Kd.int .i64)) w A2 T.length T) (hc2 : T.length ≤ c2) (hr3 : Kd.C (Kd.int .i64) w A3 finds.length finds) (hc3 : finds.length ≤ c3) (h : match_CheckRefuse.f k F S T find slot finds = some (r1, r2)) :
    Calls Try.prog 46 #[.agg #[.slice A0 F.length c0, .slice A1 S.length c1, .slice A2 T.length c2], .int .i64 find, .int .i64 slot, .slice A3 finds.length c3] w fun e w' => e = .returned (.tuple #[.bool r1, .int .i64 r2]) ∧ Below w.heap.size w w' := by
  have hB0 := (Below.refl w.heap.size w).alloc (Nat.le_refl _) (.cells #[.slice A0 F.length c0, .slice A1 S.length c1, .slice A2 T.length c2] 26)
  have CB := both_calls A0 c0 F A1 c1 S A2 c2 T find slot _ (Kd.C_below hr0 hB0) hc0 (Kd.C_below hr1 hB0) (Kd.C_below hr2 hB0)
  have l3 : finds.length ≤ 9223372036854775807 := hr3.2.1
  unfold match_CheckRefuse.f at h
  obtain ⟨q, hq⟩ : ∃ q, askB F S T find slot false false = q := ⟨_, rfl⟩
  rw [hq] at h CB
  have HB0 := Go.Lib.hid hB0
  have HR := Go.Lib.hid (And.intro hr1 (And.intro hr2 hr3))
  have HQ := Go.Lib.hid hq
  have HH := Go.Lib.hid h
  clear hr0 hr1 hr2 hr3 hB0 hq h
  go_enter Try.func46, Try.ntmps46
  go_wp2_with fail
  refine CB.mono ?_
  clear CB
  rintro e w1 ⟨rfl, hB1⟩
  have b1 : w1.heap[w.heap.size]? = some (.cells #[.slice A0 F.length c0, .slice A1 S.length c1, .slice A2 T.length c2] 26 (0, 0)) := by
    rw [hB1.block w.heap.size (by simp)]
    exact World.alloc_heap_new w _
  have hW1 : Below w.heap.size w w1 := HB0.out.trans (hB1.mono HB0.out.size)
  have k0 := cell_of_heap b1 (j := 0) rfl
  have k1 := cell_of_heap b1 (j := 1) rfl
  have k2 := cell_of_heap b1 (j := 2) rfl
  have HW1 := Go.Lib.hid hW1
  have BX1 := Go.Lib.hid b1
  clear hB1 b1 hW1
  by_cases hq0 : q = 0
  · subst hq0
    obtain ⟨hcb, hfd, hsl⟩ := ask_parts HQ.out
    obtain ⟨hfd0, hfd1⟩ := hfd rfl
    obtain ⟨hsl0, hsl1⟩ := hsl rfl
    have hk := bok_of_check hcb
    have hfd2 : find < (T.length : Int) := by rw [hk.nt]; exact hfd1
    obtain ⟨a, Ar, cr, e2, hx, hlc, hC⟩ := rows_at (Kd.C_below HR.out.2.1 HW1.out) find hfd0 hfd2
    obtain ⟨row, hrw⟩ : ∃ row, T.getD find.toNat [] = row := ⟨_, rfl⟩
    rw [hrw] at hx hlc hC
    have CC := contains_calls Ar cr row slot w1 hC hlc
    have hf := HH.out
    rw [if_neg (by simp), hrw] at hf
    have HF := Go.Lib.hid hf
    have HK := Go.Lib.hid hk
    have HCB := Go.Lib.hid hcb
    clear hk hcb hC hrw hf HH HQ
    subst e2
    go_wp2_with fail
    refine CC.mono ?_
    clear CC
    rintro e w2 ⟨rfl, hd⟩
    have hW2 := HW1.out.trans (hd.below.mono HW1.out.size)
    have b2 := (hd.below.block w.heap.size (Array.getElem?_eq_some_iff.1 BX1.out).1).trans BX1.out
    have k0 := cell_of_heap b2 (j := 0) rfl
    have k1 := cell_of_heap b2 (j := 1) rfl
    have k2 := cell_of_heap b2 (j := 2) rfl
    have HW2 := Go.Lib.hid hW2
    clear hW2 b2 hd
    by_cases hin : slot ∈ row
    · rw [decide_eq_true hin]
      have hf := HF.out
      rw [if_neg (by simpa using hin)] at hf
      injection hf with hf
      injection hf with hf1 hf2
      subst hf2
      have CC := crowded_calls A0 c0 F A1 c1 S (some a) c2 T A3 c3 finds find slot w2 HK.out (piece_bound HCB.out) (Kd.C_below HR.out.1 HW2.out) (Kd.C_below HR.out.2.1 HW2.out) (Kd.C_below HR.out.2.2 HW2.out) hc3
      rw [hf1] at CC
      clear hf1 HF hin
      go_wp2_with fail
      refine CC.mono ?_
      clear CC
      rintro e w3 ⟨rfl, hB3⟩
      have HB3 := Go.Lib.hid (HW2.out.trans (hB3.mono HW2.out.size))
      clear hB3
      go_wp2_with fail
      go_ret2
      exact ⟨rfl, HB3.out⟩
    · rw [decide_eq_false hin]
      have hf := HF.out
      rw [if_pos hin] at hf
      injection hf with hf
      injection hf with hf1 hf2
      subst hf2
      have HF1 := Go.Lib.hid hf1
      clear hin hf1 HF
      go_wp2_with fail
      go_ret2
      exact ⟨by rw [← HF1.out]; congr 3; cases finds with | nil => rfl | cons _ _ => simp; omega, HW2.out⟩
  · have g9 : decide (q = 0) = false := by simpa using hq0
    have hf := HH.out
    rw [if_pos hq0] at hf
    injection hf with hf
    injection hf with hf1 hf2
    subst hf1 hf2
    go_wp2_with fail
    go_ret2
    exact ⟨rfl, HW1.out⟩
end Go.Proofs.Ytkmmihadcbfkoaa
end

section
namespace Go.Proofs.Ytkmmihadcbfkoaa
open Go.RowKit Go.Proofs.YtkmmihadcbfkoaaW.PrintWords PM
set_option linter.unusedVariables false
set_option linter.unusedSimpArgs false
theorem Ev.pos {α : Type} {c : Prop} [Decidable c] {f g : Nat → Option α} {r : α} (h : c) (hf : Ev f r) : Ev (fun k => if c then f k else g k) r := hf.congr fun _ => if_pos h
theorem Ev.neg {α : Type} {c : Prop} [Decidable c] {f g : Nat → Option α} {r : α} (h : ¬ c) (hg : Ev g r) : Ev (fun k => if c then f k else g k) r := hg.congr fun _ => if_neg h
theorem Ev.into {α : Type} {f g : Nat → Option α} {r : α} (hs : ∀ k, f (k + 1) = g k) (h : Ev g r) : Ev f r := h.step hs
end Go.Proofs.Ytkmmihadcbfkoaa
end

section
namespace Go.Proofs.Ytkmmihadcbfkoaa
open Go.RowKit Go.Proofs.YtkmmihadcbfkoaaW.PrintWords PM
set_option linter.unusedVariables false
set_option linter.unusedSimpArgs false
def PM.match_CheckBoard.f (_k : Nat) (F : List Int) (S : List S50) (T : List (List Int)) : Option Int := some (checkB F S T)
theorem PM.match_CheckBoard.mono : ∀ a0 a1 a2 k, LeO (match_CheckBoard.f k a0 a1 a2) (match_CheckBoard.f (k + 1) a0 a1 a2) := fun _ _ _ _ => LeO.refl _
theorem PM.match_CheckBoard.calls (k : Nat) (A0 : Option Addr) (c0 : Nat) (F : List Int) (A1 : Option Addr) (c1 : Nat) (S : List S50) (A2 : Option Addr) (c2 : Nat) (T : List (List Int)) (r : Int) (w : World) (hr0 : Kd.C (Kd.int .i64) w A0 F.length F) (hc0 : F.length ≤ c0) (hr1 : Kd.C k50 w A1 S.length S) (hc1 : S.length ≤ c1) (hr2 : Kd.C (Kd.slice 3 (Kd.int .i64)) w A2 T.length T) (hc2 : T.length ≤ c2) (h : match_CheckBoard.f k F S T = some r) :
    Calls Try.prog 47 #[.agg #[.slice A0 F.length c0, .slice A1 S.length c1, .slice A2 T.length c2]] w fun e w' => e = .returned (.int .i64 r) ∧ Below w.heap.size w w' := by
  injection h with h
  subst h
  exact checkboard_calls A0 c0 F A1 c1 S A2 c2 T w hr0 hc0 hr1 hr2
end Go.Proofs.Ytkmmihadcbfkoaa
end

section
namespace Go.Proofs.Ytkmmihadcbfkoaa.PM
open Go.RowKit Go.Proofs.YtkmmihadcbfkoaaW.PrintWords Go.Proofs.YtkmmihadcbfkoaaW.PrintLast Go.Proofs.YtkmmihadcbfkoaaW.PrintMore
set_option linter.unusedVariables false
set_option linter.unusedSimpArgs false
def match_Nobody.l0 : Nat → List Int → List (List Int) → Int → Int → Option (List Int × Int)
 | 0, _, _, _, _ => none
 | k + 1, x5, x14, x15, x16 => if x16 < x15 then (if 0 ≤ x16 then (if x16 < (x14.length : Int) then (if ((rd_L1 x14 x16).length : Int) = 0 then (if x5.length < 17592186044416 then (match_Nobody.l0 k (x5 ++ [x16]) x14 x15 (wrap64 (x16 + 1))) else (none)) else (match_Nobody.l0 k x5 x14 x15 (wrap64 (x16 + 1)))) else (none)) else (none)) else (some (x5, 0))
def match_Nobody.f (k : Nat) (l0_0 : List Int) (l0_1 : List (S50)) (l0_2 : List (List Int)) : Option (List Int × Int) := (match_CheckBoard.f k l0_0 l0_1 l0_2).bind fun t548 => (if t548 = 0 then (match_Nobody.l0 k ([] : List Int) l0_2 (l0_2.length : Int) 0) else (some (([] : List Int), t548)))
theorem match_Nobody.mono_l : ∀ k, (∀ y0 y1 y2 y3, LeO (match_Nobody.l0 k y0 y1 y2 y3) (match_Nobody.l0 (k + 1) y0 y1 y2 y3))
 | 0 => fun _ _ _ _ r h => by simp [match_Nobody.l0] at h
 | k + 1 => by
  have ih0 := match_Nobody.mono_l k
  ·
   intro y0 y1 y2 y3
   unfold match_Nobody.l0
   repeat' first
   | (with_reducible exact ih0 _ _ _ _)
   | (with_reducible exact match_CheckBoard.mono _ _ _ _)
   | (with_reducible exact LeO.refl _)
   | (with_reducible exact LeO.none _)
   | (with_reducible refine LeO.ite ?_ ?_)
   | (with_reducible refine LeO.bind ?_ (fun _ => ?_))
   | exact ih0 _ _ _ _
   | exact match_CheckBoard.mono _ _ _ _
   | exact LeO.none _
   | refine LeO.ite ?_ ?_
   | refine LeO.bind ?_ (fun _ => ?_)
theorem match_Nobody.mono : ∀ a0 a1 a2 k, LeO (match_Nobody.f k a0 a1 a2) (match_Nobody.f (k + 1) a0 a1 a2) := by
 intro a0 a1 a2 k
 have ih0 := match_Nobody.mono_l k
 unfold match_Nobody.f
 repeat' first
   | (with_reducible exact ih0 _ _ _ _)
   | (with_reducible exact match_CheckBoard.mono _ _ _ _)
   | (with_reducible exact LeO.refl _)
   | (with_reducible exact LeO.none _)
   | (with_reducible refine LeO.ite ?_ ?_)
   | (with_reducible refine LeO.bind ?_ (fun _ => ?_))
   | exact ih0 _ _ _ _
   | exact match_CheckBoard.mono _ _ _ _
   | exact LeO.none _
   | refine LeO.ite ?_ ?_
   | refine LeO.bind ?_ (fun _ => ?_)
set_option maxHeartbeats 8000000 in
set_option maxRecDepth 100000 in
theorem match_Nobody.calls (k : Nat) (A0_0 : Option Addr) (c0_0 : Nat) (l0_0 : List Int) (A0_1 : Option Addr) (c0_1 : Nat) (l0_1 : List (S50)) (A0_2 : Option Addr) (c0_2 : Nat) (l0_2 : List (List Int)) (r1 : List Int) (r2 : Int) (w : World) (hr0_0 : Kd.C (Kd.int .i64) w A0_0 l0_0.length l0_0) (hc0_0 : l0_0.length ≤ c0_0) (hr0_1 : Kd.C k50 w A0_1 l0_1.length l0_1) (hc0_1 : l0_1.length ≤ c0_1) (hr0_2 : Kd.C (Kd.slice 3 (Kd.int .i64)) w A0_2 l0_2.length l0_2) (hc0_2 : l0_2.length ≤ c0_2) (h : match_Nobody.f k l0_0 l0_1 l0_2 = some (r1, r2)) :
  Calls Try.prog 37 #[.agg #[.slice A0_0 l0_0.length c0_0, .slice A0_1 l0_1.length c0_1, .slice A0_2 l0_2.length c0_2]] w fun e w' => ∃ v0_ : Value, e = .returned (.tuple #[v0_, .int .i64 r2]) ∧ Kd.R (Kd.int .i64) 3 w' w.heap.size (fun _ => True) v0_ r1 ∧ Below w.heap.size w w' := by
 have hu26 := Try.underlying26
 have HR0_0 := Aside0.mk hr0_0
 have HC0_0 := Aside0.mk hc0_0
 clear hr0_0 hc0_0
 have HR0_1 := Aside0.mk hr0_1
 have HC0_1 := Aside0.mk hc0_1
 clear hr0_1 hc0_1
 have HR0_2 := Aside0.mk hr0_2
 have HC0_2 := Aside0.mk hc0_2
 clear hr0_2 hc0_2
 have HB := Aside0.mk (Below.refl w.heap.size w)
 have H : ((match_CheckBoard.f k l0_0 l0_1 l0_2).bind fun t548 => (if t548 = 0 then (match_Nobody.l0 k ([] : List Int) l0_2 (l0_2.length : Int) 0) else (some (([] : List Int), t548)))) = some (r1, r2) := h
 clear h
 replace H := Option.bind_eq_some_iff.mp H
 obtain ⟨t548, A20, H⟩ := H
 replace H : (if t548 = 0 then (match_Nobody.l0 k ([] : List Int) l0_2 (l0_2.length : Int) 0) else (some (([] : List Int), t548))) = some (r1, r2) := H
 have A2 := Aside0.mk A20
 clear A20
 by_cases c3 : t548 = 0
 ·
  rw [if_pos c3] at H
  have c3b0 : (t548 == 0) = true := beq_iff_eq.mpr c3
  have c3b1 : (t548 != 0) = false := bne_eq_false_iff_eq.mpr c3
  clear c3
  have H' := Aside0.mk H
  clear H
  go_enter Try.func37, Try.ntmps37
  go_wp2_with (first | ((with_reducible refine gate_dst (N := 1) rfl ?_); refine box_event ?hg (N := 1) ?hd (cs := #[.slice A0_0 l0_0.length c0_0, .slice A0_1 l0_1.length c0_1, .slice A0_2 l0_2.length c0_2]) (t := 26) ?hr ?_; (case hd => rfl); (case hg => rfl); (case hr => first | (go_simp; done) | (go_simp; rfl)); intro gb547 hg w4 hbox hb; have n0_ := Aside0.mk (below_step (by repeat (first | (with_reducible first | exact HB.out | apply below_alloc | apply pw_below_drewN | apply below_drew1) | exact HB.out)) hb); have n1_ := Aside0.mk (hbox); have n2_ := Aside0.mk ((by rw [hg]; exact (below_size (by repeat (first | (with_reducible first | exact HB.out | apply below_alloc | apply pw_below_drewN | apply below_drew1) | exact HB.out))) : w.heap.size ≤ gb547)); have n3_ := Aside0.mk ((by rw [hg]; exact (below_size (by repeat (first | (with_reducible first | exact HB.out | apply below_alloc | apply pw_below_drewN | apply below_drew1) | exact HB.out))) : w.heap.size ≤ gb547)); clear HB; have HB := n0_; have BK547 := n1_; have GW547 := n2_; have GE547 := n3_; clear n0_ n1_ n2_ n3_; clear hb hbox hg; have hcz5_0 : w4.cell? ⟨gb547, 0, none⟩ = some (.slice A0_0 l0_0.length c0_0) := (blk_cell BK547.out 0).trans rfl; have hcz5_1 : w4.cell? ⟨gb547, 1, none⟩ = some (.slice A0_1 l0_1.length c0_1) := (blk_cell BK547.out 1).trans rfl; have hcz5_2 : w4.cell? ⟨gb547, 2, none⟩ = some (.slice A0_2 l0_2.length c0_2) := (blk_cell BK547.out 2).trans rfl; have hfz5_0 := blk_frozen BK547.out 0; have hfz5_1 := blk_frozen BK547.out 1; have hfz5_2 := blk_frozen BK547.out 2) | ((with_reducible refine gate_callee (f := 47) rfl ?_); refine goesL_ (some 9) rfl rfl Try.func47 (by kernel_rfl) rfl #[.agg #[.slice A0_0 l0_0.length c0_0, .slice A0_1 l0_1.length c0_1, .slice A0_2 l0_2.length c0_2]] rfl (by (try simp only [List.map_toArray, List.map_cons, List.map_nil]); first | done | rfl | (simp only [List.length_drop, List.length_take]; rfl)) ?_; (with_reducible refine (match_CheckBoard.calls k _ _ l0_0 _ _ l0_1 _ _ l0_2 t548 _ ?side1 ?side2 ?side3 ?side4 ?side5 ?side6 A2.out).mono ?_); (case side1 => repeat (first | exact (Kd.C_below HR0_0.out HB.out) | (with_reducible refine Kd.C_alloc ?_ _) | (with_reducible refine Kd.C_drewN ?_ _) | (with_reducible refine Kd.C_drew ?_))); (case side2 => exact HC0_0.out); (case side3 => repeat (first | exact (Kd.C_below HR0_1.out HB.out) | (with_reducible refine Kd.C_alloc ?_ _) | (with_reducible refine Kd.C_drewN ?_ _) | (with_reducible refine Kd.C_drew ?_))); (case side4 => exact HC0_1.out); (case side5 => repeat (first | exact (Kd.C_below HR0_2.out HB.out) | (with_reducible refine Kd.C_alloc ?_ _) | (with_reducible refine Kd.C_drewN ?_ _) | (with_reducible refine Kd.C_drew ?_))); (case side6 => exact HC0_2.out); rintro e w6 ⟨rfl, hb⟩; refine ⟨_, rfl, ?_⟩; have n0_ := Aside0.mk (blk_below (g := gb547) (o := .cells #[.slice A0_0 l0_0.length c0_0, .slice A0_1 l0_1.length c0_1, .slice A0_2 l0_2.length c0_2] 26 (0, 0)) (by (with_reducible repeat (first | refine blk_drewN ?_ _ | refine blk_drew ?_ | refine blk_alloc ?_ _)); exact BK547.out) hb); have n1_ := Aside0.mk (below_step (by repeat (first | (with_reducible first | exact HB.out | apply below_alloc | apply pw_below_drewN | apply below_drew1 | refine below_set ?_ GE547.out) | exact HB.out)) hb); clear BK547; clear HB; have BK547 := n0_; have HB := n1_; clear n0_ n1_; (try clear hb); (try clear hb2); (try clear hk); (try clear hi); have hcz7_0 : w6.cell? ⟨gb547, 0, none⟩ = some (.slice A0_0 l0_0.length c0_0) := (blk_cell BK547.out 0).trans rfl; have hcz7_1 : w6.cell? ⟨gb547, 1, none⟩ = some (.slice A0_1 l0_1.length c0_1) := (blk_cell BK547.out 1).trans rfl; have hcz7_2 : w6.cell? ⟨gb547, 2, none⟩ = some (.slice A0_2 l0_2.length c0_2) := (blk_cell BK547.out 2).trans rfl; have hfz7_0 := blk_frozen BK547.out 0; have hfz7_1 := blk_frozen BK547.out 1; have hfz7_2 := blk_frozen BK547.out 2))
  go_loopg [5, 16] k (fun kq v5 v16 w' => ∃ (x5_1 : List Int) (x16_1 : Int), v16 = .int .i64 x16_1 ∧ Aside0 (match_Nobody.l0 kq x5_1 l0_2 (l0_2.length : Int) x16_1 = some (r1, r2)) ∧ Aside0 (kq ≤ k) ∧ Aside0 (Kd.R (Kd.int .i64) 3 w' w.heap.size (fun _ => True) v5 x5_1) ∧ Aside0 (w'.heap[gb547]? = some (.cells #[(.slice A0_0 l0_0.length c0_0), (.slice A0_1 l0_1.length c0_1), (.slice A0_2 l0_2.length c0_2)] 26 (0, 0))) ∧ Aside0 (Below w.heap.size w w'))
  case atStart => exact ⟨(([] : List Int)), (0), (by first | rfl | (simp; done) | (simp [*]; done)), H', ⟨Nat.le_refl _⟩, ⟨by first | exact Kd.R_nil _ _ _ _ _ | exact Kd.N_nil _ _ _ _ _ | exact Kd.V_nil _ _ _ _ _ | exact Kd.Q_nil _ _ _ _ _ | exact Kd.S_nil _ _ _ _ _⟩, ⟨by (with_reducible repeat (first | refine blk_drewN ?_ _ | refine blk_drew ?_ | refine blk_alloc ?_ _)); exact BK547.out⟩, ⟨by repeat (first | (with_reducible first | exact HB.out | apply below_alloc | apply pw_below_drewN | apply below_drew1 | refine below_set ?_ GE547.out) | exact HB.out)⟩⟩
  case round =>
   clear H'
   try clear p2
   try clear c3
   try clear c3b0
   try clear c3b1
   try clear c4
   try clear hcz5_0
   try clear hcz5_1
   try clear hcz5_2
   try clear hcz7_0
   try clear hcz7_1
   try clear hcz7_2
   try clear hfz5_0
   try clear hfz5_1
   try clear hfz5_2
   try clear hfz7_0
   try clear hfz7_1
   try clear hfz7_2
   obtain ⟨x5_1, x16_1, rfl, HA, HK1, HO_5, BK547, HB⟩ := hrel
   cases gk with
   | zero => exact absurd HA.out (by simp [match_Nobody.l0])
   | succ k1 =>
    have H := HA.out
    clear HA
    simp only [match_Nobody.l0] at H
    by_cases c8 : x16_1 < (l0_2.length : Int)
    ·
     rw [if_pos c8] at H
     have c8b0 : decide (x16_1 < (l0_2.length : Int)) = true := decide_eq_true c8
     clear c8
     by_cases c9 : 0 ≤ x16_1
     ·
      rw [if_pos c9] at H
      have c9b0 : decide (0 ≤ x16_1) = true := decide_eq_true c9
      clear c9
      by_cases c10 : x16_1 < (l0_2.length : Int)
      ·
       rw [if_pos c10] at H
       have c10b0 : decide (x16_1 < (l0_2.length : Int)) = true := decide_eq_true c10
       clear c10
       by_cases c11 : ((rd_L1 l0_2 x16_1).length : Int) = 0
       ·
        rw [if_pos c11] at H
        have c11b0 : (((rd_L1 l0_2 x16_1).length : Int) == 0) = true := beq_iff_eq.mpr c11
        have c11b1 : (((rd_L1 l0_2 x16_1).length : Int) != 0) = false := bne_eq_false_iff_eq.mpr c11
        clear c11
        by_cases c12 : x5_1.length < 17592186044416
        ·
         rw [if_pos c12] at H
         have LMc12 := Aside0.mk c12
         clear c12
         obtain ⟨y550, hy550⟩ : ∃ y_ : List Int, y_ = (x5_1 ++ [x16_1]) := ⟨_, rfl⟩
         replace H : (match_Nobody.l0 k1 y550 l0_2 (l0_2.length : Int) (wrap64 (x16_1 + 1))) = some (r1, r2) := by first | (rw [hy550]; with_reducible exact H) | (have H2_ := (Option.bind_some _ _).symm.trans H; rw [hy550]; with_reducible exact H2_) | (have H2_ := (Option.bind_some _ _).symm.trans H; with_reducible exact H2_) | with_reducible exact H | (rw [hy550]; exact H) | exact H
         have Ny550 := Aside0.mk hy550
         clear hy550
         have H' := Aside0.mk H
         clear H
         have p549 : 0 ≤ (x16_1 : Int) := of_decide_eq_true (by first | (with_reducible assumption) | assumption)
         have q549 : x16_1 < (l0_2.length : Int) := of_decide_eq_true (by first | (with_reducible assumption) | assumption)
         obtain ⟨ad549, A549_0, c549_0, e549, hx549_0, hl549_0, hi549_0⟩ := at_L1 HR0_2.out x16_1 p549 q549
         cases e549
         replace hx549_0 := (HB.out.cell (World.block_lt_of_cell? w _ hx549_0)).trans hx549_0
         have HR549_0 := Aside0.mk hi549_0
         have HC549_0 := Aside0.mk hl549_0
         clear hi549_0 hl549_0
         replace p549 := eq_true p549
         replace q549 := eq_true q549
         go_wp2_with (first | ((with_reducible refine gate_builtin (b := .append) (xs := #[.tmp 24, .tmp 26]) rfl ?_); at_builtin; refine Kd.R_append (Kd.int .i64) (w0 := w) w.heap.size rfl (.tmp 24) (.tmp 26) 22 3 (.int .i64 0) 8 rfl Try.underlying22 info3 rfl (by decide) (by omega) u5 x5_1 x16_1 [.int .i64 x16_1] (fun _ => True) (fun _ => False) rfl rfl ?aP (fun _ hk => hk.elim) ?aF ?aO ?aB ?aS ?aL ?_; (case aP => exact rfl); (case aB => exact (by repeat (first | (with_reducible first | exact HB.out | apply below_alloc | apply pw_below_drewN | apply below_drew1 | refine below_set ?_ GE547.out) | exact HB.out))); (case aF => exact (fun _ _ => trivial)); (case aO => exact (by (with_reducible repeat (first | apply Kd.R_alloc | apply Kd.R_drewN | apply Kd.R_drew)); exact HO_5.out)); (case aS => exact (below_size (by repeat (first | (with_reducible first | exact HB.out | apply below_alloc | apply pw_below_drewN | apply below_drew1 | refine below_set ?_ GE547.out) | exact HB.out)))); (case aL => have := LMc12.out; omega); intro v551 w13 ho hb hg hat; rw [← Ny550.out] at ho; have n0_ := Aside0.mk (blk_grown (g := gb547) (o := .cells #[.slice A0_0 l0_0.length c0_0, .slice A0_1 l0_1.length c0_1, .slice (some ad549) l0_2.length c0_2] 26 (0, 0)) (by (with_reducible repeat (first | refine blk_drewN ?_ _ | refine blk_drew ?_ | refine blk_alloc ?_ _)); exact BK547.out) hg (Kd.R_ne HO_5.out BK547.out (by decide))); have n1_ := Aside0.mk (hb); have n2_ := Aside0.mk (ho); clear BK547; clear HB; clear HO_5; have BK547 := n0_; have HB := n1_; have HO552 := n2_; clear n0_ n1_ n2_; clear ho hb hg hat))
         go_roundg k1
         case measure => have := HK1.out; omega
         case rel => exact ⟨(y550), (wrap64 (x16_1 + 1)), (by first | rfl | (simp; done) | (simp [*]; done)), H', ⟨by have := HK1.out; omega⟩, ⟨by (with_reducible repeat (first | apply Kd.R_alloc | apply Kd.R_drewN | apply Kd.R_drew)); exact HO552.out⟩, ⟨by (with_reducible repeat (first | refine blk_drewN ?_ _ | refine blk_drew ?_ | refine blk_alloc ?_ _)); exact BK547.out⟩, ⟨by repeat (first | (with_reducible first | exact HB.out | apply below_alloc | apply pw_below_drewN | apply below_drew1 | refine below_set ?_ GE547.out) | exact HB.out)⟩⟩
        ·
         rw [if_neg c12] at H
         exact absurd H (by simp)
       ·
        rw [if_neg c11] at H
        have c11b0 : (((rd_L1 l0_2 x16_1).length : Int) == 0) = false := beq_eq_false_iff_ne.mpr c11
        have c11b1 : (((rd_L1 l0_2 x16_1).length : Int) != 0) = true := bne_iff_ne.mpr c11
        have c11b2 : ¬ ((rd_L1 l0_2 x16_1) = []) := fun h_ => c11 (by rw [h_]; rfl)
        have H' := Aside0.mk H
        clear H
        have p549 : 0 ≤ (x16_1 : Int) := of_decide_eq_true (by first | (with_reducible assumption) | assumption)
        have q549 : x16_1 < (l0_2.length : Int) := of_decide_eq_true (by first | (with_reducible assumption) | assumption)
        obtain ⟨ad549, A549_0, c549_0, e549, hx549_0, hl549_0, hi549_0⟩ := at_L1 HR0_2.out x16_1 p549 q549
        cases e549
        replace hx549_0 := (HB.out.cell (World.block_lt_of_cell? w _ hx549_0)).trans hx549_0
        have HR549_0 := Aside0.mk hi549_0
        have HC549_0 := Aside0.mk hl549_0
        clear hi549_0 hl549_0
        replace p549 := eq_true p549
        replace q549 := eq_true q549
        go_wp2
        go_roundg k1
        case measure => have := HK1.out; omega
        case rel => exact ⟨(x5_1), (wrap64 (x16_1 + 1)), (by first | rfl | (simp; done) | (simp [*]; done)), H', ⟨by have := HK1.out; omega⟩, ⟨by (with_reducible repeat (first | apply Kd.R_alloc | apply Kd.R_drewN | apply Kd.R_drew)); exact HO_5.out⟩, ⟨by (with_reducible repeat (first | refine blk_drewN ?_ _ | refine blk_drew ?_ | refine blk_alloc ?_ _)); exact BK547.out⟩, ⟨by repeat (first | (with_reducible first | exact HB.out | apply below_alloc | apply pw_below_drewN | apply below_drew1 | refine below_set ?_ GE547.out) | exact HB.out)⟩⟩
      ·
       rw [if_neg c10] at H
       exact absurd H (by simp)
     ·
      rw [if_neg c9] at H
      exact absurd H (by simp)
    ·
     rw [if_neg c8] at H
     have c8b0 : decide (x16_1 < (l0_2.length : Int)) = false := decide_eq_false c8
     clear c8
     simp only [Option.some.injEq, Prod.mk.injEq] at H
     obtain ⟨rfl, rfl⟩ := H
     go_wp2
     go_ret2
     exact ⟨_, by first | rfl | (simp [errW_none, errW_some] <;> rfl) | (simp [*, errW_none, errW_some] <;> rfl), by (with_reducible repeat (first | apply Kd.R_alloc | apply Kd.R_drewN | apply Kd.R_drew)); exact HO_5.out, by repeat (first | (with_reducible first | exact HB.out | apply below_alloc | apply pw_below_drewN | apply below_drew1 | refine below_set ?_ GE547.out) | exact HB.out)⟩
 ·
  rw [if_neg c3] at H
  have c3b0 : (t548 == 0) = false := beq_eq_false_iff_ne.mpr c3
  have c3b1 : (t548 != 0) = true := bne_iff_ne.mpr c3
  simp only [Option.some.injEq, Prod.mk.injEq] at H
  obtain ⟨rfl, rfl⟩ := H
  go_enter Try.func37, Try.ntmps37
  go_wp2_with (first | ((with_reducible refine gate_dst (N := 1) rfl ?_); refine box_event ?hg (N := 1) ?hd (cs := #[.slice A0_0 l0_0.length c0_0, .slice A0_1 l0_1.length c0_1, .slice A0_2 l0_2.length c0_2]) (t := 26) ?hr ?_; (case hd => rfl); (case hg => rfl); (case hr => first | (go_simp; done) | (go_simp; rfl)); intro gb547 hg w14 hbox hb; have n0_ := Aside0.mk (below_step (by repeat (first | (with_reducible first | exact HB.out | apply below_alloc | apply pw_below_drewN | apply below_drew1) | exact HB.out)) hb); have n1_ := Aside0.mk (hbox); have n2_ := Aside0.mk ((by rw [hg]; exact (below_size (by repeat (first | (with_reducible first | exact HB.out | apply below_alloc | apply pw_below_drewN | apply below_drew1) | exact HB.out))) : w.heap.size ≤ gb547)); have n3_ := Aside0.mk ((by rw [hg]; exact (below_size (by repeat (first | (with_reducible first | exact HB.out | apply below_alloc | apply pw_below_drewN | apply below_drew1) | exact HB.out))) : w.heap.size ≤ gb547)); clear HB; have HB := n0_; have BK547 := n1_; have GW547 := n2_; have GE547 := n3_; clear n0_ n1_ n2_ n3_; clear hb hbox hg; have hcz15_0 : w14.cell? ⟨gb547, 0, none⟩ = some (.slice A0_0 l0_0.length c0_0) := (blk_cell BK547.out 0).trans rfl; have hcz15_1 : w14.cell? ⟨gb547, 1, none⟩ = some (.slice A0_1 l0_1.length c0_1) := (blk_cell BK547.out 1).trans rfl; have hcz15_2 : w14.cell? ⟨gb547, 2, none⟩ = some (.slice A0_2 l0_2.length c0_2) := (blk_cell BK547.out 2).trans rfl; have hfz15_0 := blk_frozen BK547.out 0; have hfz15_1 := blk_frozen BK547.out 1; have hfz15_2 := blk_frozen BK547.out 2) | ((with_reducible refine gate_callee (f := 47) rfl ?_); refine goesL_ (some 9) rfl rfl Try.func47 (by kernel_rfl) rfl #[.agg #[.slice A0_0 l0_0.length c0_0, .slice A0_1 l0_1.length c0_1, .slice A0_2 l0_2.length c0_2]] rfl (by (try simp only [List.map_toArray, List.map_cons, List.map_nil]); first | done | rfl | (simp only [List.length_drop, List.length_take]; rfl)) ?_; (with_reducible refine (match_CheckBoard.calls k _ _ l0_0 _ _ l0_1 _ _ l0_2 t548 _ ?side1 ?side2 ?side3 ?side4 ?side5 ?side6 A2.out).mono ?_); (case side1 => repeat (first | exact (Kd.C_below HR0_0.out HB.out) | (with_reducible refine Kd.C_alloc ?_ _) | (with_reducible refine Kd.C_drewN ?_ _) | (with_reducible refine Kd.C_drew ?_))); (case side2 => exact HC0_0.out); (case side3 => repeat (first | exact (Kd.C_below HR0_1.out HB.out) | (with_reducible refine Kd.C_alloc ?_ _) | (with_reducible refine Kd.C_drewN ?_ _) | (with_reducible refine Kd.C_drew ?_))); (case side4 => exact HC0_1.out); (case side5 => repeat (first | exact (Kd.C_below HR0_2.out HB.out) | (with_reducible refine Kd.C_alloc ?_ _) | (with_reducible refine Kd.C_drewN ?_ _) | (with_reducible refine Kd.C_drew ?_))); (case side6 => exact HC0_2.out); rintro e w16 ⟨rfl, hb⟩; refine ⟨_, rfl, ?_⟩; have n0_ := Aside0.mk (blk_below (g := gb547) (o := .cells #[.slice A0_0 l0_0.length c0_0, .slice A0_1 l0_1.length c0_1, .slice A0_2 l0_2.length c0_2] 26 (0, 0)) (by (with_reducible repeat (first | refine blk_drewN ?_ _ | refine blk_drew ?_ | refine blk_alloc ?_ _)); exact BK547.out) hb); have n1_ := Aside0.mk (below_step (by repeat (first | (with_reducible first | exact HB.out | apply below_alloc | apply pw_below_drewN | apply below_drew1 | refine below_set ?_ GE547.out) | exact HB.out)) hb); clear BK547; clear HB; have BK547 := n0_; have HB := n1_; clear n0_ n1_; (try clear hb); (try clear hb2); (try clear hk); (try clear hi)))
  go_ret2
  exact ⟨_, by first | rfl | (simp [errW_none, errW_some] <;> rfl) | (simp [*, errW_none, errW_some] <;> rfl), by first | exact Kd.R_nil _ _ _ _ _ | exact Kd.N_nil _ _ _ _ _ | exact Kd.V_nil _ _ _ _ _ | exact Kd.Q_nil _ _ _ _ _ | exact Kd.S_nil _ _ _ _ _, by repeat (first | (with_reducible first | exact HB.out | apply below_alloc | apply pw_below_drewN | apply below_drew1 | refine below_set ?_ GE547.out) | exact HB.out)⟩
end Go.Proofs.Ytkmmihadcbfkoaa.PM
end

section
namespace Go.Proofs.Ytkmmihadcbfkoaa
open Go.RowKit Go.Proofs.YtkmmihadcbfkoaaW.PrintWords PM
set_option linter.unusedVariables false
set_option linter.unusedSimpArgs false
/-- The finds from i on that fit no slot. -/
def nobodyFrom (T : List (List Int)) (i : Nat) : List Int := (((List.range T.length).drop i).filter fun j => decide (T.getD j [] = [])).map Int.ofNat
theorem nobody_step {T : List (List Int)} {i : Nat} (h : i < T.length) : nobodyFrom T i = (if T.getD i [] = [] then [(i : Int)] else []) ++ nobodyFrom T (i + 1) := by
  unfold nobodyFrom
  rw [List.drop_eq_getElem_cons (by simpa using h), List.getElem_range]
  by_cases e : T.getD i [] = []
  · rw [if_pos e, List.filter_cons_of_pos (by rw [decide_eq_true e])]
    rfl
  · rw [if_neg e, List.filter_cons_of_neg (by rw [decide_eq_false e]; simp)]
    rfl
theorem nobody_end {T : List (List Int)} {i : Nat} (h : T.length ≤ i) : nobodyFrom T i = [] := by
  unfold nobodyFrom
  rw [List.drop_of_length_le (by simpa using h)]
  rfl
theorem nobody_ev {T : List (List Int)} (hT : T.length ≤ 1000) (d : Nat) : ∀ (i : Nat) (acc : List Int), T.length - i = d → i ≤ T.length → acc.length ≤ i →
    Ev (fun k => match_Nobody.l0 k acc T (T.length : Int) (i : Int)) (acc ++ nobodyFrom T i, 0) := by
  induction d with
  | zero =>
    intro i acc hd hi ha
    rw [nobody_end (by omega), List.append_nil]
    exact Ev.into (fun k => by rw [match_Nobody.l0]) (Ev.neg (by omega) (Ev.const _))
  | succ d ih =>
    intro i acc hd hi ha
    have hlt : i < T.length := by omega
    have hw := wrap_pm (i := (i : Int)) (by omega) (by omega)
    rw [nobody_step hlt]
    refine Ev.into (fun k => by rw [match_Nobody.l0]) (Ev.pos (by omega) (Ev.pos (by omega) (Ev.pos (by omega) ?_)))
    rw [hw.1, show (i : Int) + 1 = ((i + 1 : Nat) : Int) by omega]
    have hrd : rd_L1 T (i : Int) = T.getD i [] := by simp [rd_L1]
    rw [hrd]
    by_cases e : T.getD i [] = []
    · rw [if_pos e, ← List.append_assoc]
      exact Ev.pos (by rw [e]; rfl) (Ev.pos (by omega) (ih (i + 1) (acc ++ [(i : Int)]) (by omega) (by omega) (by simp; omega)))
    · rw [if_neg e, List.nil_append]
      exact Ev.neg (fun h => e (List.length_eq_zero_iff.1 (by omega))) (ih (i + 1) acc (by omega) (by omega) (by omega))
/-- What Nobody comes to. -/
def nobodyP (F : List Int) (S : List S50) (T : List (List Int)) : List Int × Int := if checkB F S T ≠ 0 then ([], checkB F S T) else (nobodyFrom T 0, 0)
theorem nobody_is (F : List Int) (S : List S50) (T : List (List Int)) : Ev (fun k => match_Nobody.f k F S T) (nobodyP F S T) := by
  refine Ev.bind (Ev.const (checkB F S T)) ?_
  unfold nobodyP
  by_cases hc : checkB F S T = 0
  · rw [if_neg (show ¬ checkB F S T ≠ 0 from fun h => h hc)]
    have hk := bok_of_check hc
    have := hk.nf
    have := hk.nt
    refine Ev.pos hc ?_
    have := nobody_ev (T := T) (by omega) T.length 0 [] (by omega) (by omega) (by simp)
    simpa using this
  · rw [if_pos hc]
    exact Ev.neg hc (Ev.const _)
theorem wide_ev {F : List Int} {S : List S50} {T : List (List Int)} (hT : T.length ≤ 9223372036854775807) (d : Nat) : ∀ i : Nat, T.length - i = d → i ≤ T.length → ∃ b, Ev (fun k => laganlaw04_wide.l0 k (i : Int) F S T) b := by
  induction d with
  | zero =>
    intro i hd hi
    have h : ∃ b : Bool, Ev (fun _ => if (F.length : Int) ≤ 30 then (if (S.length : Int) ≤ 40 then (some true) else (if (F.length : Int) > 60 then (some true) else (some (decide ((S.length : Int) > 200))))) else (if (F.length : Int) > 60 then (some true) else (some (decide ((S.length : Int) > 200))))) b := by
      by_cases h1 : (F.length : Int) ≤ 30
      · by_cases h2 : (S.length : Int) ≤ 40
        · exact ⟨_, Ev.pos h1 (Ev.pos h2 (Ev.const _))⟩
        · by_cases h3 : (F.length : Int) > 60
          · exact ⟨_, Ev.pos h1 (Ev.neg h2 (Ev.pos h3 (Ev.const _)))⟩
          · exact ⟨_, Ev.pos h1 (Ev.neg h2 (Ev.neg h3 (Ev.const _)))⟩
      · by_cases h3 : (F.length : Int) > 60
        · exact ⟨_, Ev.neg h1 (Ev.pos h3 (Ev.const _))⟩
        · exact ⟨_, Ev.neg h1 (Ev.neg h3 (Ev.const _))⟩
    obtain ⟨b, hb⟩ := h
    exact ⟨b, Ev.into (fun k => by rw [laganlaw04_wide.l0]) (Ev.neg (by omega) hb)⟩
  | succ d ih =>
    intro i hd hi
    have hw := wrap_pm (i := (i : Int)) (by omega) (by omega)
    obtain ⟨b, hb⟩ := ih (i + 1) (by omega) (by omega)
    rw [show ((i + 1 : Nat) : Int) = (i : Int) + 1 by omega, ← hw.1] at hb
    by_cases h : ((rd_L1 T (i : Int)).length : Int) > 60
    · exact ⟨_, Ev.into (fun k => by rw [laganlaw04_wide.l0]) (Ev.pos (by omega) (Ev.pos (by omega) (Ev.pos h (Ev.const _))))⟩
    · exact ⟨b, Ev.into (fun k => by rw [laganlaw04_wide.l0]) (Ev.pos (by omega) (Ev.pos (by omega) (Ev.neg h hb)))⟩
theorem wide_is (F : List Int) (S : List S50) (T : List (List Int)) (hT : T.length ≤ 9223372036854775807) : ∃ b, Ev (fun k => laganlaw04_wide.f k F S T) b := by
  have hj : ∀ x, ∃ b, Ev (fun k => laganlaw04_wide.j0 k x F S T) b := fun x => by
    cases x with
    | true => exact ⟨_, Ev.into (fun k => by rw [laganlaw04_wide.j0]) (Ev.pos rfl (Ev.const _))⟩
    | false =>
      obtain ⟨b, hb⟩ := wide_ev (F := F) (S := S) hT T.length 0 (by omega) (by omega)
      rw [show ((0 : Nat) : Int) = 0 from rfl] at hb
      exact ⟨b, Ev.into (fun k => by rw [laganlaw04_wide.j0]) (Ev.neg (by simp) hb)⟩
  by_cases h1 : (F.length : Int) > 70
  · obtain ⟨b, hb⟩ := hj true
    exact ⟨b, Ev.pos h1 hb⟩
  · by_cases h2 : (S.length : Int) > 210
    · obtain ⟨b, hb⟩ := hj true
      exact ⟨b, Ev.neg h1 (Ev.pos h2 hb)⟩
    · obtain ⟨b, hb⟩ := hj (decide ((T.length : Int) > 70))
      exact ⟨b, Ev.neg h1 (Ev.neg h2 hb)⟩
end Go.Proofs.Ytkmmihadcbfkoaa
end
