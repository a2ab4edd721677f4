/-
  MatchBoards holds: for every board, find and slot, the law returns true and what it is given reads as it did. (part 4 of 4 of the texts that it stands on)
-/
import Derived.Shelf.SlicesE.DeleteFunc
import Derived.Lib.SmallJoins
import Derived.Deep.Matrix
import Derived.Deep.Slices
import Derived.Deep.Strs
import Derived.ChangeSlices
import Derived.ProofKit
import Derived.OpenShut
import Derived.ChangeOld
import Derived.Below
import Derived.WalkKit
import Derived.Test.YtkmmihadcbfkoaaRows
import Derived.Test.YtkmmihadcbfkoaaZBoardsc
section
namespace Go.Proofs.Ytkmmihadcbfkoaa.PM
open Go.RowKit Go.Proofs.YtkmmihadcbfkoaaW.PrintWords Go.Proofs.YtkmmihadcbfkoaaW.PrintLast Go.Proofs.YtkmmihadcbfkoaaW.PrintMore
set_option linter.unusedVariables false
set_option linter.unusedSimpArgs false
def match_other.l0 : Nat → List (List Int) → Int → Int → List Int → List (S50) → List (List Int) → Option (List Int × (List (S50)) × (List (List Int)))
 | 0, _, _, _, _, _, _ => none
 | k + 1, x14, x15, x16, x528000, x528001, x528002 => if x16 < x15 then (if 0 ≤ x16 then (if x16 < (x14.length : Int) then ((match_copied_int_88.f (rd_L1 x14 x16)).bind fun t529 => (if x528002.length < 5864062014805 then (match_other.l0 k x14 x15 (wrap64 (x16 + 1)) x528000 x528001 (x528002 ++ [t529])) else (none))) else (none)) else (none)) else (some (x528000, x528001, x528002))
def match_other.f (k : Nat) (l0_0 : List Int) (l0_1 : List (S50)) (l0_2 : List (List Int)) : Option (List Int × (List (S50)) × (List (List Int))) := (match_copied_int_88.f l0_0).bind fun t521 => ((api_Slot.f l0_1).bind fun t524 => (match_other.l0 k l0_2 (l0_2.length : Int) 0 t521 t524 ([] : List (List Int))))
def match_other.T1 : Bool × List (List Nat × List Nat) := (true, [([], []), ([0], [0]), ([1], [1]), ([], []), ([3], [3]), ([4, 2], [4]), ([2, 5], [2, 5]), ([], []), ([7, 6, 5, 0, 1, 2, 3, 4, 5, 6, 7], [6, 7])])
def match_other.B1 : List Nat := [0, 1, 3, 0, 8, 31, 63, 0, 255]
theorem match_other.tab1 : rtab .any (opsOf Try.f76 1) = match_other.T1 := by kernel_rfl
theorem match_other.bits1 : waitsOk match_other.T1.2 match_other.B1 = true := by kernel_rfl
def match_other.T5 : Bool × List (List Nat × List Nat) := (true, [([], []), ([0], [0]), ([], []), ([2], [2]), ([3], [3]), ([1, 4, 3], [1, 4]), ([0, 1, 2, 3, 4, 5], []), ([6, 5, 5, 0, 1, 2, 3, 4, 5], [5, 6])])
def match_other.B5 : List Nat := [0, 1, 0, 4, 12, 31, 63, 127]
theorem match_other.tab5 : rtab .any (opsOf Try.f76 5) = match_other.T5 := by kernel_rfl
theorem match_other.bits5 : waitsOk match_other.T5.2 match_other.B5 = true := by kernel_rfl
set_option maxHeartbeats 8000000 in
set_option maxRecDepth 100000 in
theorem match_other.calls (k : Nat) (A0_0 : Option Addr) (c0_0 : Nat) (l0_0 : List Int) (A0_1 : Option Addr) (c0_1 : Nat) (l0_1 : List (S50)) (A0_2 : Option Addr) (c0_2 : Nat) (l0_2 : List (List Int)) (r1 : List Int) (r2 : List (S50)) (r3 : List (List Int)) (w : World) (hr0_0 : Kd.C (Kd.int .i64) w A0_0 l0_0.length l0_0) (hc0_0 : l0_0.length ≤ c0_0) (hr0_1 : Kd.C k50 w A0_1 l0_1.length l0_1) (hc0_1 : l0_1.length ≤ c0_1) (hr0_2 : Kd.C (Kd.slice 3 (Kd.int .i64)) w A0_2 l0_2.length l0_2) (hc0_2 : l0_2.length ≤ c0_2) (h : match_other.f k l0_0 l0_1 l0_2 = some (r1, r2, r3)) :
  Calls Try.prog 76 #[.agg #[.slice A0_0 l0_0.length c0_0, .slice A0_1 l0_1.length c0_1, .slice A0_2 l0_2.length c0_2]] w fun e w' => ∃ v0_ v1_ v2_ : Value, e = .returned (.agg #[v0_, v1_, v2_]) ∧ Kd.R (Kd.int .i64) 3 w' w.heap.size (fun _ => True) v0_ r1 ∧ Kd.R k50 50 w' w.heap.size (fun _ => True) v1_ r2 ∧ Kd.S (Kd.slice 3 (Kd.int .i64)) 22 w' w.heap.size (fun k_ => some k_ ≠ (v0_ : Value).ownBlock) v2_ r3 ∧ Below w.heap.size w w' := by
 have hu26 := Try.underlying26
 have HR0_0 := Aside0.mk hr0_0
 have HC0_0 := Aside0.mk hc0_0
 clear hr0_0 hc0_0
 have HR0_1 := Aside0.mk hr0_1
 have HC0_1 := Aside0.mk hc0_1
 clear hr0_1 hc0_1
 have HR0_2 := Aside0.mk hr0_2
 have HC0_2 := Aside0.mk hc0_2
 clear hr0_2 hc0_2
 have HB := Aside0.mk (Below.refl w.heap.size w)
 have H : ((match_copied_int_88.f l0_0).bind fun t521 => ((api_Slot.f l0_1).bind fun t524 => (match_other.l0 k l0_2 (l0_2.length : Int) 0 t521 t524 ([] : List (List Int))))) = some (r1, r2, r3) := h
 clear h
 replace H := Option.bind_eq_some_iff.mp H
 obtain ⟨t521, A20, H⟩ := H
 replace H : ((api_Slot.f l0_1).bind fun t524 => (match_other.l0 k l0_2 (l0_2.length : Int) 0 t521 t524 ([] : List (List Int)))) = some (r1, r2, r3) := H
 have A2 := Aside0.mk A20
 clear A20
 replace H := Option.bind_eq_some_iff.mp H
 obtain ⟨t524, A30, H⟩ := H
 replace H : (match_other.l0 k l0_2 (l0_2.length : Int) 0 t521 t524 ([] : List (List Int))) = some (r1, r2, r3) := H
 have A3 := Aside0.mk A30
 clear A30
 have H' := Aside0.mk H
 clear H
 go_enter Try.func76, Try.ntmps76
 try go_wp2_with (first | ((with_reducible refine gate_dst (N := 1) rfl ?_); refine box_event ?hg (N := 1) ?hd (cs := #[.slice A0_0 l0_0.length c0_0, .slice A0_1 l0_1.length c0_1, .slice A0_2 l0_2.length c0_2]) (t := 26) ?hr ?_; (case hd => rfl); (case hg => rfl); (case hr => first | (go_simp; done) | (go_simp; rfl)); intro gb519 hg w4 hbox hb; have n0_ := Aside0.mk (below_step (by repeat (first | (with_reducible first | exact HB.out | apply below_alloc | apply pw_below_drewN | apply below_drew1) | exact HB.out)) hb); have n1_ := Aside0.mk (hbox); have n2_ := Aside0.mk ((by rw [hg]; exact (below_size (by repeat (first | (with_reducible first | exact HB.out | apply below_alloc | apply pw_below_drewN | apply below_drew1) | exact HB.out))) : w.heap.size ≤ gb519)); have n3_ := Aside0.mk ((by rw [hg]; exact (below_size (by repeat (first | (with_reducible first | exact HB.out | apply below_alloc | apply pw_below_drewN | apply below_drew1) | exact HB.out))) : w.heap.size ≤ gb519)); clear HB; have HB := n0_; have BK519 := n1_; have GW519 := n2_; have GE519 := n3_; clear n0_ n1_ n2_ n3_; clear hb hbox hg) | ((with_reducible refine gate_dst (N := 2) rfl ?_); refine box_event ?hg (N := 2) ?hd (cs := #[.slice none 0 0, .slice none 0 0, .slice none 0 0]) (t := 26) ?hr ?_; (case hd => rfl); (case hg => rfl); (case hr => first | (go_simp; done) | (go_simp; rfl)); intro gb520 hg w5 hbox hb; have n0_ := Aside0.mk (blk_below (g := gb519) (o := .cells #[.slice A0_0 l0_0.length c0_0, .slice A0_1 l0_1.length c0_1, .slice A0_2 l0_2.length c0_2] 26 (0, 0)) (by (with_reducible repeat (first | refine blk_drewN ?_ _ | refine blk_drew ?_ | refine blk_alloc ?_ _)); exact BK519.out) hb); have n1_ := Aside0.mk (below_step (by repeat (first | (with_reducible first | exact HB.out | apply below_alloc | apply pw_below_drewN | apply below_drew1 | refine below_set ?_ GE519.out) | exact HB.out)) hb); have n2_ := Aside0.mk (hbox); have n3_ := Aside0.mk ((by rw [hg]; exact (below_size (by repeat (first | (with_reducible first | exact HB.out | apply below_alloc | apply pw_below_drewN | apply below_drew1 | refine below_set ?_ GE519.out) | exact HB.out))) : w.heap.size ≤ gb520)); have n4_ := Aside0.mk ((by rw [hg]; exact (below_size (by repeat (first | (with_reducible first | exact HB.out | apply below_alloc | apply pw_below_drewN | apply below_drew1 | refine below_set ?_ GE519.out) | exact HB.out))) : w.heap.size ≤ gb520)); have n5_ := Aside0.mk ((by rw [hg]; exact Nat.ne_of_lt (blk_lt (g := gb519) (o := .cells #[.slice A0_0 l0_0.length c0_0, .slice A0_1 l0_1.length c0_1, .slice A0_2 l0_2.length c0_2] 26 (0, 0)) (by (with_reducible repeat (first | refine blk_drewN ?_ _ | refine blk_drew ?_ | refine blk_alloc ?_ _)); exact BK519.out)) : gb519 ≠ gb520)); have n6_ := Aside0.mk ((by rw [hg]; exact Nat.ne_of_gt (blk_lt (g := gb519) (o := .cells #[.slice A0_0 l0_0.length c0_0, .slice A0_1 l0_1.length c0_1, .slice A0_2 l0_2.length c0_2] 26 (0, 0)) (by (with_reducible repeat (first | refine blk_drewN ?_ _ | refine blk_drew ?_ | refine blk_alloc ?_ _)); exact BK519.out)) : gb520 ≠ gb519)); clear BK519; clear HB; have BK519 := n0_; have HB := n1_; have BK520 := n2_; have GW520 := n3_; have GE520 := n4_; have NB519_520 := n5_; have NB520_519 := n6_; clear n0_ n1_ n2_ n3_ n4_ n5_ n6_; clear hb hbox hg))
 have n0_ := Aside0.mk (blk_drew BK519.out)
 have n1_ := Aside0.mk (blk_drew BK520.out)
 have n2_ := Aside0.mk (below_drew1 HB.out)
 clear BK519
 clear BK520
 clear HB
 have BK519 := n0_
 have BK520 := n1_
 have HB := n2_
 clear n0_ n1_ n2_
 refine start_ (n := 9) (S := fun w' => w'.cell? ⟨gb519, 0, none⟩ = some (.slice A0_0 l0_0.length c0_0) ∧ w'.cell? ⟨gb519, 1, none⟩ = some (.slice A0_1 l0_1.length c0_1) ∧ w'.cell? ⟨gb519, 2, none⟩ = some (.slice A0_2 l0_2.length c0_2)) (ds := []) #[false, false, false, false, false, false, false, false, false] (by kernel_rfl) rfl rfl ⟨(blk_cell BK519.out 0).trans rfl, (blk_cell BK519.out 1).trans rfl, (blk_cell BK519.out 2).trans rfl⟩ (fun hHeld => ?_); refine with_tabW match_other.tab1 match_other.bits1 (fun HT_ HW_ => ?_)
 generalize w5.drew = w6 at BK519 BK520 HB hHeld ⊢
 refine pure_ (i := 0) (N := some 6) (v := ?_) (a' := ?_) #[true, false, false, false, false, false, false, false, false] rfl rfl (any_of HT_.out (by kernel_rfl)) (fun _ _ _ h => h) (Or.inl ⟨by rfl, ?_⟩) ?_ ?_
 rotate_left
 ·
  intro w'
  go_simp
  with_reducible rfl
 rotate_left
 ·
  simp only [Act.put, List.setIfInBounds_toArray, List.set_cons_zero, List.set_cons_succ, i64_w, i32_w]
  rfl
 refine pure_ (i := 3) (N := some 9) (v := ?_) (a' := ?_) #[true, false, false, true, false, false, false, false, false] rfl rfl (any_of HT_.out (by kernel_rfl)) (fun _ _ _ h => h) (Or.inl ⟨by rfl, ?_⟩) ?_ ?_
 rotate_left
 ·
  intro w'
  go_simp
  with_reducible rfl
 rotate_left
 ·
  simp only [Act.put, List.setIfInBounds_toArray, List.set_cons_zero, List.set_cons_succ, i64_w, i32_w]
  rfl
 refine take_ (i := 1) (N := some 7) (v := ?_) (a' := ?_) #[true, true, false, true, false, false, false, false, false] rfl rfl (take_ofW HT_.out HW_.out (by kernel_rfl)) (fun _ _ _ h => h) (Or.inl ⟨by rfl, ?_⟩) hHeld ?_ ?_
 rotate_left
 ·
  rintro w' ⟨s0, s1, s2⟩
  go_simp
  with_reducible rfl
 rotate_left
 ·
  simp only [Act.put, List.setIfInBounds_toArray, List.set_cons_zero, List.set_cons_succ, i64_w, i32_w]
  rfl
 refine take_ (i := 4) (N := some 10) (v := ?_) (a' := ?_) #[true, true, false, true, true, false, false, false, false] rfl rfl (take_ofW HT_.out HW_.out (by kernel_rfl)) (fun _ _ _ h => h) (Or.inl ⟨by rfl, ?_⟩) hHeld ?_ ?_
 rotate_left
 ·
  rintro w' ⟨s0, s1, s2⟩
  go_simp
  with_reducible rfl
 rotate_left
 ·
  simp only [Act.put, List.setIfInBounds_toArray, List.set_cons_zero, List.set_cons_succ, i64_w, i32_w]
  rfl
 refine join_ (σ := Value × Value × Nat) 1 #[true, true, true, true, true, true, true, true, false] (fun s_ => [(8, s_.1), (11, s_.2.1), (3, .pointer (some ⟨s_.2.2, 0, none⟩)), (12, .agg #[s_.1, s_.2.1, .slice none 0 0])]) (fun s_ w' => (w'.cell? ⟨gb519, 0, none⟩ = some (.slice A0_0 l0_0.length c0_0) ∧ w'.cell? ⟨gb519, 1, none⟩ = some (.slice A0_1 l0_1.length c0_1) ∧ w'.cell? ⟨gb519, 2, none⟩ = some (.slice A0_2 l0_2.length c0_2)) ∧ (Kd.R (Kd.int .i64) 3 w' w.heap.size (fun _ => True) s_.1 t521) ∧ (Kd.R k50 50 w' w.heap.size (fun _ => True) s_.2.1 t524) ∧ (w'.heap[gb519]? = some (.cells #[.slice A0_0 l0_0.length c0_0, .slice A0_1 l0_1.length c0_1, .slice A0_2 l0_2.length c0_2] 26 (0, 0))) ∧ (w'.heap[gb520]? = some (.cells #[.slice none 0 0, .slice none 0 0, .slice none 0 0] 26 (0, 0))) ∧ (w'.heap[s_.2.2]? = some (.cells #[.slice none 0 0, .slice none 0 0, .slice none 0 0] 26 (0, 0))) ∧ (w.heap.size ≤ s_.2.2) ∧ (w.heap.size ≤ s_.2.2) ∧ (gb519 ≠ s_.2.2) ∧ (s_.2.2 ≠ gb519) ∧ (gb520 ≠ s_.2.2) ∧ (s_.2.2 ≠ gb520) ∧ (Below w.heap.size w w')) ?_ ?_
 rotate_left
 ·
  intro hCont
  refine two_ (i := 2) (j := 7) (Ni := some 8) (Nj := some 3) #[true, true, true, true, true, false, false, false, false] #[true, true, false, true, true, false, false, true, false] rfl rfl rfl rfl (two_of HT_.out (by kernel_rfl)) (by decide) (by decide) (fun K hK => ?_) (fun K hK => ?_)
  ·
   skip
   refine goes_ Try.func88 (by kernel_rfl) rfl #[.slice A0_0 l0_0.length c0_0] (by rfl) rfl rfl (by (try simp only [List.map_toArray, List.map_cons, List.map_nil]); first | done | rfl | (simp only [List.length_drop, List.length_take]; rfl)) ?_
   with_reducible refine (match_copied_int_88.calls _ _ l0_0 t521 _ ?side1 ?side2 A2.out).mono ?_
   (case side1 => repeat (first | exact (Kd.C_below HR0_0.out HB.out) | (with_reducible refine Kd.C_alloc ?_ _) | (with_reducible refine Kd.C_drewN ?_ _) | (with_reducible refine Kd.C_drew ?_)))
   (case side2 => exact HC0_0.out)
   rintro e w7 ⟨v522, rfl, ho0, hb⟩
   refine ⟨_, rfl, ?_⟩
   have n0_ := Aside0.mk (Kd.R_lower ho0 (below_size (by repeat (first | (with_reducible first | exact HB.out | apply below_alloc | apply pw_below_drewN | apply below_drew1 | refine below_set ?_ GE519.out | refine below_set ?_ GE520.out) | exact HB.out))))
   have n1_ := Aside0.mk (blk_below (g := gb519) (o := .cells #[.slice A0_0 l0_0.length c0_0, .slice A0_1 l0_1.length c0_1, .slice A0_2 l0_2.length c0_2] 26 (0, 0)) (by (with_reducible repeat (first | refine blk_drewN ?_ _ | refine blk_drew ?_ | refine blk_alloc ?_ _)); exact BK519.out) hb)
   have n2_ := Aside0.mk (blk_below (g := gb520) (o := .cells #[.slice none 0 0, .slice none 0 0, .slice none 0 0] 26 (0, 0)) (by (with_reducible repeat (first | refine blk_drewN ?_ _ | refine blk_drew ?_ | refine blk_alloc ?_ _)); exact BK520.out) hb)
   have n3_ := Aside0.mk (below_step (by repeat (first | (with_reducible first | exact HB.out | apply below_alloc | apply pw_below_drewN | apply below_drew1 | refine below_set ?_ GE519.out | refine below_set ?_ GE520.out) | exact HB.out)) hb)
   clear BK519
   clear BK520
   clear HB
   have HO523 := n0_
   have BK519 := n1_
   have BK520 := n2_
   have HB := n3_
   clear n0_ n1_ n2_ n3_
   (try clear hb)
   (try clear hb2)
   (try clear hk)
   (try clear hi)
   (try clear ho0)
   refine hK.out _ _ ⟨(blk_cell BK519.out 0).trans rfl, (blk_cell BK519.out 1).trans rfl, (blk_cell BK519.out 2).trans rfl⟩ (fun hHeld => ?_)
   clear hK K
   refine norm_ (a' := ?_) ?_ ?_
   rotate_left
   ·
    show Act.put _ (some 8) _ = _
    simp only [Act.put, List.setIfInBounds_toArray, List.set_cons_zero, List.set_cons_succ, i64_w, i32_w]
    rfl
   refine two_ (i := 5) (j := 7) (Ni := some 11) (Nj := some 3) #[true, true, true, true, true, true, false, false, false] #[true, true, true, true, true, false, false, true, false] rfl rfl rfl rfl (two_of HT_.out (by kernel_rfl)) (by decide) (by decide) (fun K hK => ?_) (fun K hK => ?_)
   ·
    skip
    refine goes_ Try.func92 (by kernel_rfl) rfl #[.slice A0_1 l0_1.length c0_1] (by rfl) rfl rfl (by (try simp only [List.map_toArray, List.map_cons, List.map_nil]); first | done | rfl | (simp only [List.length_drop, List.length_take]; rfl)) ?_
    with_reducible refine (api_Slot.calls _ _ l0_1 t524 _ ?side1 ?side2 A3.out).mono ?_
    (case side1 => repeat (first | exact (Kd.C_below HR0_1.out HB.out) | (with_reducible refine Kd.C_alloc ?_ _) | (with_reducible refine Kd.C_drewN ?_ _) | (with_reducible refine Kd.C_drew ?_)))
    (case side2 => exact HC0_1.out)
    rintro e w8 ⟨v525, rfl, ho0, hb⟩
    refine ⟨_, rfl, ?_⟩
    have n0_ := Aside0.mk (Kd.R_below (by (with_reducible repeat (first | apply Kd.R_alloc | apply Kd.R_drewN | apply Kd.R_drew)); exact HO523.out) hb)
    have n1_ := Aside0.mk (Kd.R_lower ho0 (below_size (by repeat (first | (with_reducible first | exact HB.out | apply below_alloc | apply pw_below_drewN | apply below_drew1 | refine below_set ?_ GE519.out | refine below_set ?_ GE520.out) | exact HB.out))))
    have n2_ := Aside0.mk (blk_below (g := gb519) (o := .cells #[.slice A0_0 l0_0.length c0_0, .slice A0_1 l0_1.length c0_1, .slice A0_2 l0_2.length c0_2] 26 (0, 0)) (by (with_reducible repeat (first | refine blk_drewN ?_ _ | refine blk_drew ?_ | refine blk_alloc ?_ _)); exact BK519.out) hb)
    have n3_ := Aside0.mk (blk_below (g := gb520) (o := .cells #[.slice none 0 0, .slice none 0 0, .slice none 0 0] 26 (0, 0)) (by (with_reducible repeat (first | refine blk_drewN ?_ _ | refine blk_drew ?_ | refine blk_alloc ?_ _)); exact BK520.out) hb)
    have n4_ := Aside0.mk (below_step (by repeat (first | (with_reducible first | exact HB.out | apply below_alloc | apply pw_below_drewN | apply below_drew1 | refine below_set ?_ GE519.out | refine below_set ?_ GE520.out) | exact HB.out)) hb)
    clear HO523
    clear BK519
    clear BK520
    clear HB
    have HO523 := n0_
    have HO526 := n1_
    have BK519 := n2_
    have BK520 := n3_
    have HB := n4_
    clear n0_ n1_ n2_ n3_ n4_
    (try clear hb)
    (try clear hb2)
    (try clear hk)
    (try clear hi)
    (try clear ho0)
    obtain ⟨Ao9, co9, eo9⟩ := Kd.R_slice HO526.out
    (first | subst eo9 | (injection eo9 with f1_ f2_ f3_; have f4_ := f1_.symm; have f5_ := f3_.symm; clear f1_ f2_ f3_; subst f4_; subst f5_))
    obtain ⟨Ao10, co10, eo10⟩ := Kd.R_slice HO523.out
    (first | subst eo10 | (injection eo10 with f1_ f2_ f3_; have f4_ := f1_.symm; have f5_ := f3_.symm; clear f1_ f2_ f3_; subst f4_; subst f5_))
    refine hK.out _ _ ⟨(blk_cell BK519.out 0).trans rfl, (blk_cell BK519.out 1).trans rfl, (blk_cell BK519.out 2).trans rfl⟩ (fun hHeld => ?_)
    clear hK K
    refine norm_ (a' := ?_) ?_ ?_
    rotate_left
    ·
     show Act.put _ (some 11) _ = _
     simp only [Act.put, List.setIfInBounds_toArray, List.set_cons_zero, List.set_cons_succ, i64_w, i32_w]
     rfl
    refine pure_ (i := 6) (N := some 12) (v := ?_) (a' := ?_) #[true, true, true, true, true, true, true, false, false] rfl rfl (any_of HT_.out (by kernel_rfl)) (fun _ _ _ h => h) (Or.inl ⟨by rfl, ?_⟩) ?_ ?_
    rotate_left
    ·
     intro w'
     go_simp
     with_reducible rfl
    rotate_left
    ·
     simp only [Act.put, List.setIfInBounds_toArray, List.set_cons_zero, List.set_cons_succ, i64_w, i32_w]
     rfl
    refine one_ (i := 7) (N := some 3) #[true, true, true, true, true, true, true, true, false] rfl rfl (one_of HT_.out (by kernel_rfl)) (by decide) (fun K hK => ?_)
    refine box_step ?hg (N := 3) ?hd (cs := #[.slice none 0 0, .slice none 0 0, .slice none 0 0]) (t := 26) ?hr ?_; (case hd => rfl); (case hg => rfl); (case hr => first | (go_simp; done) | (go_simp; rfl))
    intro gb527 hg w11 hbox hb
    have n0_ := Aside0.mk (Kd.R_below (by (with_reducible repeat (first | apply Kd.R_alloc | apply Kd.R_drewN | apply Kd.R_drew)); exact HO523.out) hb)
    have n1_ := Aside0.mk (Kd.R_below (by (with_reducible repeat (first | apply Kd.R_alloc | apply Kd.R_drewN | apply Kd.R_drew)); exact HO526.out) hb)
    have n2_ := Aside0.mk (blk_below (g := gb519) (o := .cells #[.slice A0_0 l0_0.length c0_0, .slice A0_1 l0_1.length c0_1, .slice A0_2 l0_2.length c0_2] 26 (0, 0)) (by (with_reducible repeat (first | refine blk_drewN ?_ _ | refine blk_drew ?_ | refine blk_alloc ?_ _)); exact BK519.out) hb)
    have n3_ := Aside0.mk (blk_below (g := gb520) (o := .cells #[.slice none 0 0, .slice none 0 0, .slice none 0 0] 26 (0, 0)) (by (with_reducible repeat (first | refine blk_drewN ?_ _ | refine blk_drew ?_ | refine blk_alloc ?_ _)); exact BK520.out) hb)
    have n4_ := Aside0.mk (below_step (by repeat (first | (with_reducible first | exact HB.out | apply below_alloc | apply pw_below_drewN | apply below_drew1 | refine below_set ?_ GE519.out | refine below_set ?_ GE520.out) | exact HB.out)) hb)
    have n5_ := Aside0.mk (hbox)
    have n6_ := Aside0.mk ((by rw [hg]; exact (below_size (by repeat (first | (with_reducible first | exact HB.out | apply below_alloc | apply pw_below_drewN | apply below_drew1 | refine below_set ?_ GE519.out | refine below_set ?_ GE520.out) | exact HB.out))) : w.heap.size ≤ gb527))
    have n7_ := Aside0.mk ((by rw [hg]; exact (below_size (by repeat (first | (with_reducible first | exact HB.out | apply below_alloc | apply pw_below_drewN | apply below_drew1 | refine below_set ?_ GE519.out | refine below_set ?_ GE520.out) | exact HB.out))) : w.heap.size ≤ gb527))
    have n8_ := Aside0.mk ((by rw [hg]; exact Nat.ne_of_lt (blk_lt (g := gb519) (o := .cells #[.slice A0_0 l0_0.length c0_0, .slice A0_1 l0_1.length c0_1, .slice A0_2 l0_2.length c0_2] 26 (0, 0)) (by (with_reducible repeat (first | refine blk_drewN ?_ _ | refine blk_drew ?_ | refine blk_alloc ?_ _)); exact BK519.out)) : gb519 ≠ gb527))
    have n9_ := Aside0.mk ((by rw [hg]; exact Nat.ne_of_gt (blk_lt (g := gb519) (o := .cells #[.slice A0_0 l0_0.length c0_0, .slice A0_1 l0_1.length c0_1, .slice A0_2 l0_2.length c0_2] 26 (0, 0)) (by (with_reducible repeat (first | refine blk_drewN ?_ _ | refine blk_drew ?_ | refine blk_alloc ?_ _)); exact BK519.out)) : gb527 ≠ gb519))
    have n10_ := Aside0.mk ((by rw [hg]; exact Nat.ne_of_lt (blk_lt (g := gb520) (o := .cells #[.slice none 0 0, .slice none 0 0, .slice none 0 0] 26 (0, 0)) (by (with_reducible repeat (first | refine blk_drewN ?_ _ | refine blk_drew ?_ | refine blk_alloc ?_ _)); exact BK520.out)) : gb520 ≠ gb527))
    have n11_ := Aside0.mk ((by rw [hg]; exact Nat.ne_of_gt (blk_lt (g := gb520) (o := .cells #[.slice none 0 0, .slice none 0 0, .slice none 0 0] 26 (0, 0)) (by (with_reducible repeat (first | refine blk_drewN ?_ _ | refine blk_drew ?_ | refine blk_alloc ?_ _)); exact BK520.out)) : gb527 ≠ gb520))
    clear HO523
    clear HO526
    clear BK519
    clear BK520
    clear HB
    have HO523 := n0_
    have HO526 := n1_
    have BK519 := n2_
    have BK520 := n3_
    have HB := n4_
    have BK527 := n5_
    have GW527 := n6_
    have GE527 := n7_
    have NB519_527 := n8_
    have NB527_519 := n9_
    have NB520_527 := n10_
    have NB527_520 := n11_
    clear n0_ n1_ n2_ n3_ n4_ n5_ n6_ n7_ n8_ n9_ n10_ n11_
    clear hb hbox hg
    refine hK.out _ _ ⟨(blk_cell BK519.out 0).trans rfl, (blk_cell BK519.out 1).trans rfl, (blk_cell BK519.out 2).trans rfl⟩ (fun hHeld => ?_)
    clear hK K
    refine norm_ (a' := ?_) ?_ ?_
    rotate_left
    ·
     show Act.put _ (some 3) _ = _
     simp only [Act.put, List.setIfInBounds_toArray, List.set_cons_zero, List.set_cons_succ, i64_w, i32_w]
     rfl
    exact norm_ (by simp only [putAll, Act.put, List.setIfInBounds_toArray, List.set_cons_zero, List.set_cons_succ]) (hCont (.slice Ao10 t521.length co10, .slice Ao9 t524.length co9, gb527) _ ⟨hHeld, (by (with_reducible repeat (first | apply Kd.R_alloc | apply Kd.R_drewN | apply Kd.R_drew)); exact HO523.out), (by (with_reducible repeat (first | apply Kd.R_alloc | apply Kd.R_drewN | apply Kd.R_drew)); exact HO526.out), (by (with_reducible repeat (first | refine blk_drewN ?_ _ | refine blk_drew ?_ | refine blk_alloc ?_ _)); exact BK519.out), (by (with_reducible repeat (first | refine blk_drewN ?_ _ | refine blk_drew ?_ | refine blk_alloc ?_ _)); exact BK520.out), (by (with_reducible repeat (first | refine blk_drewN ?_ _ | refine blk_drew ?_ | refine blk_alloc ?_ _)); exact BK527.out), GW527.out, GE527.out, NB519_527.out, NB527_519.out, NB520_527.out, NB527_520.out, (by repeat (first | (with_reducible first | exact HB.out | apply below_alloc | apply pw_below_drewN | apply below_drew1 | refine below_set ?_ GE519.out | refine below_set ?_ GE520.out | refine below_set ?_ GE527.out) | exact HB.out))⟩)
   skip
   refine box_step ?hg (N := 3) ?hd (cs := #[.slice none 0 0, .slice none 0 0, .slice none 0 0]) (t := 26) ?hr ?_; (case hd => rfl); (case hg => rfl); (case hr => first | (go_simp; done) | (go_simp; rfl))
   intro gb527 hg w8 hbox hb
   have n0_ := Aside0.mk (Kd.R_below (by (with_reducible repeat (first | apply Kd.R_alloc | apply Kd.R_drewN | apply Kd.R_drew)); exact HO523.out) hb)
   have n1_ := Aside0.mk (blk_below (g := gb519) (o := .cells #[.slice A0_0 l0_0.length c0_0, .slice A0_1 l0_1.length c0_1, .slice A0_2 l0_2.length c0_2] 26 (0, 0)) (by (with_reducible repeat (first | refine blk_drewN ?_ _ | refine blk_drew ?_ | refine blk_alloc ?_ _)); exact BK519.out) hb)
   have n2_ := Aside0.mk (blk_below (g := gb520) (o := .cells #[.slice none 0 0, .slice none 0 0, .slice none 0 0] 26 (0, 0)) (by (with_reducible repeat (first | refine blk_drewN ?_ _ | refine blk_drew ?_ | refine blk_alloc ?_ _)); exact BK520.out) hb)
   have n3_ := Aside0.mk (below_step (by repeat (first | (with_reducible first | exact HB.out | apply below_alloc | apply pw_below_drewN | apply below_drew1 | refine below_set ?_ GE519.out | refine below_set ?_ GE520.out) | exact HB.out)) hb)
   have n4_ := Aside0.mk (hbox)
   have n5_ := Aside0.mk ((by rw [hg]; exact (below_size (by repeat (first | (with_reducible first | exact HB.out | apply below_alloc | apply pw_below_drewN | apply below_drew1 | refine below_set ?_ GE519.out | refine below_set ?_ GE520.out) | exact HB.out))) : w.heap.size ≤ gb527))
   have n6_ := Aside0.mk ((by rw [hg]; exact (below_size (by repeat (first | (with_reducible first | exact HB.out | apply below_alloc | apply pw_below_drewN | apply below_drew1 | refine below_set ?_ GE519.out | refine below_set ?_ GE520.out) | exact HB.out))) : w.heap.size ≤ gb527))
   have n7_ := Aside0.mk ((by rw [hg]; exact Nat.ne_of_lt (blk_lt (g := gb519) (o := .cells #[.slice A0_0 l0_0.length c0_0, .slice A0_1 l0_1.length c0_1, .slice A0_2 l0_2.length c0_2] 26 (0, 0)) (by (with_reducible repeat (first | refine blk_drewN ?_ _ | refine blk_drew ?_ | refine blk_alloc ?_ _)); exact BK519.out)) : gb519 ≠ gb527))
   have n8_ := Aside0.mk ((by rw [hg]; exact Nat.ne_of_gt (blk_lt (g := gb519) (o := .cells #[.slice A0_0 l0_0.length c0_0, .slice A0_1 l0_1.length c0_1, .slice A0_2 l0_2.length c0_2] 26 (0, 0)) (by (with_reducible repeat (first | refine blk_drewN ?_ _ | refine blk_drew ?_ | refine blk_alloc ?_ _)); exact BK519.out)) : gb527 ≠ gb519))
   have n9_ := Aside0.mk ((by rw [hg]; exact Nat.ne_of_lt (blk_lt (g := gb520) (o := .cells #[.slice none 0 0, .slice none 0 0, .slice none 0 0] 26 (0, 0)) (by (with_reducible repeat (first | refine blk_drewN ?_ _ | refine blk_drew ?_ | refine blk_alloc ?_ _)); exact BK520.out)) : gb520 ≠ gb527))
   have n10_ := Aside0.mk ((by rw [hg]; exact Nat.ne_of_gt (blk_lt (g := gb520) (o := .cells #[.slice none 0 0, .slice none 0 0, .slice none 0 0] 26 (0, 0)) (by (with_reducible repeat (first | refine blk_drewN ?_ _ | refine blk_drew ?_ | refine blk_alloc ?_ _)); exact BK520.out)) : gb527 ≠ gb520))
   clear HO523
   clear BK519
   clear BK520
   clear HB
   have HO523 := n0_
   have BK519 := n1_
   have BK520 := n2_
   have HB := n3_
   have BK527 := n4_
   have GW527 := n5_
   have GE527 := n6_
   have NB519_527 := n7_
   have NB527_519 := n8_
   have NB520_527 := n9_
   have NB527_520 := n10_
   clear n0_ n1_ n2_ n3_ n4_ n5_ n6_ n7_ n8_ n9_ n10_
   clear hb hbox hg
   refine hK.out _ _ ⟨(blk_cell BK519.out 0).trans rfl, (blk_cell BK519.out 1).trans rfl, (blk_cell BK519.out 2).trans rfl⟩ (fun hHeld => ?_)
   clear hK K
   refine norm_ (a' := ?_) ?_ ?_
   rotate_left
   ·
    show Act.put _ (some 3) _ = _
    simp only [Act.put, List.setIfInBounds_toArray, List.set_cons_zero, List.set_cons_succ, i64_w, i32_w]
    rfl
   refine one_ (i := 5) (N := some 11) #[true, true, true, true, true, true, false, true, false] rfl rfl (one_of HT_.out (by kernel_rfl)) (by decide) (fun K hK => ?_)
   refine goes_ Try.func92 (by kernel_rfl) rfl #[.slice A0_1 l0_1.length c0_1] (by rfl) rfl rfl (by (try simp only [List.map_toArray, List.map_cons, List.map_nil]); first | done | rfl | (simp only [List.length_drop, List.length_take]; rfl)) ?_
   with_reducible refine (api_Slot.calls _ _ l0_1 t524 _ ?side1 ?side2 A3.out).mono ?_
   (case side1 => repeat (first | exact (Kd.C_below HR0_1.out HB.out) | (with_reducible refine Kd.C_alloc ?_ _) | (with_reducible refine Kd.C_drewN ?_ _) | (with_reducible refine Kd.C_drew ?_)))
   (case side2 => exact HC0_1.out)
   rintro e w9 ⟨v525, rfl, ho0, hb⟩
   refine ⟨_, rfl, ?_⟩
   have n0_ := Aside0.mk (Kd.R_below (by (with_reducible repeat (first | apply Kd.R_alloc | apply Kd.R_drewN | apply Kd.R_drew)); exact HO523.out) hb)
   have n1_ := Aside0.mk (Kd.R_lower ho0 (below_size (by repeat (first | (with_reducible first | exact HB.out | apply below_alloc | apply pw_below_drewN | apply below_drew1 | refine below_set ?_ GE519.out | refine below_set ?_ GE520.out | refine below_set ?_ GE527.out) | exact HB.out))))
   have n2_ := Aside0.mk (blk_below (g := gb519) (o := .cells #[.slice A0_0 l0_0.length c0_0, .slice A0_1 l0_1.length c0_1, .slice A0_2 l0_2.length c0_2] 26 (0, 0)) (by (with_reducible repeat (first | refine blk_drewN ?_ _ | refine blk_drew ?_ | refine blk_alloc ?_ _)); exact BK519.out) hb)
   have n3_ := Aside0.mk (blk_below (g := gb520) (o := .cells #[.slice none 0 0, .slice none 0 0, .slice none 0 0] 26 (0, 0)) (by (with_reducible repeat (first | refine blk_drewN ?_ _ | refine blk_drew ?_ | refine blk_alloc ?_ _)); exact BK520.out) hb)
   have n4_ := Aside0.mk (blk_below (g := gb527) (o := .cells #[.slice none 0 0, .slice none 0 0, .slice none 0 0] 26 (0, 0)) (by (with_reducible repeat (first | refine blk_drewN ?_ _ | refine blk_drew ?_ | refine blk_alloc ?_ _)); exact BK527.out) hb)
   have n5_ := Aside0.mk (below_step (by repeat (first | (with_reducible first | exact HB.out | apply below_alloc | apply pw_below_drewN | apply below_drew1 | refine below_set ?_ GE519.out | refine below_set ?_ GE520.out | refine below_set ?_ GE527.out) | exact HB.out)) hb)
   clear HO523
   clear BK519
   clear BK520
   clear BK527
   clear HB
   have HO523 := n0_
   have HO526 := n1_
   have BK519 := n2_
   have BK520 := n3_
   have BK527 := n4_
   have HB := n5_
   clear n0_ n1_ n2_ n3_ n4_ n5_
   (try clear hb)
   (try clear hb2)
   (try clear hk)
   (try clear hi)
   (try clear ho0)
   obtain ⟨Ao10, co10, eo10⟩ := Kd.R_slice HO526.out
   (first | subst eo10 | (injection eo10 with f1_ f2_ f3_; have f4_ := f1_.symm; have f5_ := f3_.symm; clear f1_ f2_ f3_; subst f4_; subst f5_))
   obtain ⟨Ao11, co11, eo11⟩ := Kd.R_slice HO523.out
   (first | subst eo11 | (injection eo11 with f1_ f2_ f3_; have f4_ := f1_.symm; have f5_ := f3_.symm; clear f1_ f2_ f3_; subst f4_; subst f5_))
   refine hK.out _ _ ⟨(blk_cell BK519.out 0).trans rfl, (blk_cell BK519.out 1).trans rfl, (blk_cell BK519.out 2).trans rfl⟩ (fun hHeld => ?_)
   clear hK K
   refine norm_ (a' := ?_) ?_ ?_
   rotate_left
   ·
    show Act.put _ (some 11) _ = _
    simp only [Act.put, List.setIfInBounds_toArray, List.set_cons_zero, List.set_cons_succ, i64_w, i32_w]
    rfl
   refine pure_ (i := 6) (N := some 12) (v := ?_) (a' := ?_) #[true, true, true, true, true, true, true, true, false] rfl rfl (any_of HT_.out (by kernel_rfl)) (fun _ _ _ h => h) (Or.inl ⟨by rfl, ?_⟩) ?_ ?_
   rotate_left
   ·
    intro w'
    go_simp
    with_reducible rfl
   rotate_left
   ·
    simp only [Act.put, List.setIfInBounds_toArray, List.set_cons_zero, List.set_cons_succ, i64_w, i32_w]
    rfl
   exact norm_ (by simp only [putAll, Act.put, List.setIfInBounds_toArray, List.set_cons_zero, List.set_cons_succ]) (hCont (.slice Ao11 t521.length co11, .slice Ao10 t524.length co10, gb527) _ ⟨hHeld, (by (with_reducible repeat (first | apply Kd.R_alloc | apply Kd.R_drewN | apply Kd.R_drew)); exact HO523.out), (by (with_reducible repeat (first | apply Kd.R_alloc | apply Kd.R_drewN | apply Kd.R_drew)); exact HO526.out), (by (with_reducible repeat (first | refine blk_drewN ?_ _ | refine blk_drew ?_ | refine blk_alloc ?_ _)); exact BK519.out), (by (with_reducible repeat (first | refine blk_drewN ?_ _ | refine blk_drew ?_ | refine blk_alloc ?_ _)); exact BK520.out), (by (with_reducible repeat (first | refine blk_drewN ?_ _ | refine blk_drew ?_ | refine blk_alloc ?_ _)); exact BK527.out), GW527.out, GE527.out, NB519_527.out, NB527_519.out, NB520_527.out, NB527_520.out, (by repeat (first | (with_reducible first | exact HB.out | apply below_alloc | apply pw_below_drewN | apply below_drew1 | refine below_set ?_ GE519.out | refine below_set ?_ GE520.out | refine below_set ?_ GE527.out) | exact HB.out))⟩)
  skip
  refine box_step ?hg (N := 3) ?hd (cs := #[.slice none 0 0, .slice none 0 0, .slice none 0 0]) (t := 26) ?hr ?_; (case hd => rfl); (case hg => rfl); (case hr => first | (go_simp; done) | (go_simp; rfl))
  intro gb527 hg w7 hbox hb
  have n0_ := Aside0.mk (blk_below (g := gb519) (o := .cells #[.slice A0_0 l0_0.length c0_0, .slice A0_1 l0_1.length c0_1, .slice A0_2 l0_2.length c0_2] 26 (0, 0)) (by (with_reducible repeat (first | refine blk_drewN ?_ _ | refine blk_drew ?_ | refine blk_alloc ?_ _)); exact BK519.out) hb)
  have n1_ := Aside0.mk (blk_below (g := gb520) (o := .cells #[.slice none 0 0, .slice none 0 0, .slice none 0 0] 26 (0, 0)) (by (with_reducible repeat (first | refine blk_drewN ?_ _ | refine blk_drew ?_ | refine blk_alloc ?_ _)); exact BK520.out) hb)
  have n2_ := Aside0.mk (below_step (by repeat (first | (with_reducible first | exact HB.out | apply below_alloc | apply pw_below_drewN | apply below_drew1 | refine below_set ?_ GE519.out | refine below_set ?_ GE520.out) | exact HB.out)) hb)
  have n3_ := Aside0.mk (hbox)
  have n4_ := Aside0.mk ((by rw [hg]; exact (below_size (by repeat (first | (with_reducible first | exact HB.out | apply below_alloc | apply pw_below_drewN | apply below_drew1 | refine below_set ?_ GE519.out | refine below_set ?_ GE520.out) | exact HB.out))) : w.heap.size ≤ gb527))
  have n5_ := Aside0.mk ((by rw [hg]; exact (below_size (by repeat (first | (with_reducible first | exact HB.out | apply below_alloc | apply pw_below_drewN | apply below_drew1 | refine below_set ?_ GE519.out | refine below_set ?_ GE520.out) | exact HB.out))) : w.heap.size ≤ gb527))
  have n6_ := Aside0.mk ((by rw [hg]; exact Nat.ne_of_lt (blk_lt (g := gb519) (o := .cells #[.slice A0_0 l0_0.length c0_0, .slice A0_1 l0_1.length c0_1, .slice A0_2 l0_2.length c0_2] 26 (0, 0)) (by (with_reducible repeat (first | refine blk_drewN ?_ _ | refine blk_drew ?_ | refine blk_alloc ?_ _)); exact BK519.out)) : gb519 ≠ gb527))
  have n7_ := Aside0.mk ((by rw [hg]; exact Nat.ne_of_gt (blk_lt (g := gb519) (o := .cells #[.slice A0_0 l0_0.length c0_0, .slice A0_1 l0_1.length c0_1, .slice A0_2 l0_2.length c0_2] 26 (0, 0)) (by (with_reducible repeat (first | refine blk_drewN ?_ _ | refine blk_drew ?_ | refine blk_alloc ?_ _)); exact BK519.out)) : gb527 ≠ gb519))
  have n8_ := Aside0.mk ((by rw [hg]; exact Nat.ne_of_lt (blk_lt (g := gb520) (o := .cells #[.slice none 0 0, .slice none 0 0, .slice none 0 0] 26 (0, 0)) (by (with_reducible repeat (first | refine blk_drewN ?_ _ | refine blk_drew ?_ | refine blk_alloc ?_ _)); exact BK520.out)) : gb520 ≠ gb527))
  have n9_ := Aside0.mk ((by rw [hg]; exact Nat.ne_of_gt (blk_lt (g := gb520) (o := .cells #[.slice none 0 0, .slice none 0 0, .slice none 0 0] 26 (0, 0)) (by (with_reducible repeat (first | refine blk_drewN ?_ _ | refine blk_drew ?_ | refine blk_alloc ?_ _)); exact BK520.out)) : gb527 ≠ gb520))
  clear BK519
  clear BK520
  clear HB
  have BK519 := n0_
  have BK520 := n1_
  have HB := n2_
  have BK527 := n3_
  have GW527 := n4_
  have GE527 := n5_
  have NB519_527 := n6_
  have NB527_519 := n7_
  have NB520_527 := n8_
  have NB527_520 := n9_
  clear n0_ n1_ n2_ n3_ n4_ n5_ n6_ n7_ n8_ n9_
  clear hb hbox hg
  refine hK.out _ _ ⟨(blk_cell BK519.out 0).trans rfl, (blk_cell BK519.out 1).trans rfl, (blk_cell BK519.out 2).trans rfl⟩ (fun hHeld => ?_)
  clear hK K
  refine norm_ (a' := ?_) ?_ ?_
  rotate_left
  ·
   show Act.put _ (some 3) _ = _
   simp only [Act.put, List.setIfInBounds_toArray, List.set_cons_zero, List.set_cons_succ, i64_w, i32_w]
   rfl
  refine one_ (i := 2) (N := some 8) #[true, true, true, true, true, false, false, true, false] rfl rfl (one_of HT_.out (by kernel_rfl)) (by decide) (fun K hK => ?_)
  refine goes_ Try.func88 (by kernel_rfl) rfl #[.slice A0_0 l0_0.length c0_0] (by rfl) rfl rfl (by (try simp only [List.map_toArray, List.map_cons, List.map_nil]); first | done | rfl | (simp only [List.length_drop, List.length_take]; rfl)) ?_
  with_reducible refine (match_copied_int_88.calls _ _ l0_0 t521 _ ?side1 ?side2 A2.out).mono ?_
  (case side1 => repeat (first | exact (Kd.C_below HR0_0.out HB.out) | (with_reducible refine Kd.C_alloc ?_ _) | (with_reducible refine Kd.C_drewN ?_ _) | (with_reducible refine Kd.C_drew ?_)))
  (case side2 => exact HC0_0.out)
  rintro e w8 ⟨v522, rfl, ho0, hb⟩
  refine ⟨_, rfl, ?_⟩
  have n0_ := Aside0.mk (Kd.R_lower ho0 (below_size (by repeat (first | (with_reducible first | exact HB.out | apply below_alloc | apply pw_below_drewN | apply below_drew1 | refine below_set ?_ GE519.out | refine below_set ?_ GE520.out | refine below_set ?_ GE527.out) | exact HB.out))))
  have n1_ := Aside0.mk (blk_below (g := gb519) (o := .cells #[.slice A0_0 l0_0.length c0_0, .slice A0_1 l0_1.length c0_1, .slice A0_2 l0_2.length c0_2] 26 (0, 0)) (by (with_reducible repeat (first | refine blk_drewN ?_ _ | refine blk_drew ?_ | refine blk_alloc ?_ _)); exact BK519.out) hb)
  have n2_ := Aside0.mk (blk_below (g := gb520) (o := .cells #[.slice none 0 0, .slice none 0 0, .slice none 0 0] 26 (0, 0)) (by (with_reducible repeat (first | refine blk_drewN ?_ _ | refine blk_drew ?_ | refine blk_alloc ?_ _)); exact BK520.out) hb)
  have n3_ := Aside0.mk (blk_below (g := gb527) (o := .cells #[.slice none 0 0, .slice none 0 0, .slice none 0 0] 26 (0, 0)) (by (with_reducible repeat (first | refine blk_drewN ?_ _ | refine blk_drew ?_ | refine blk_alloc ?_ _)); exact BK527.out) hb)
  have n4_ := Aside0.mk (below_step (by repeat (first | (with_reducible first | exact HB.out | apply below_alloc | apply pw_below_drewN | apply below_drew1 | refine below_set ?_ GE519.out | refine below_set ?_ GE520.out | refine below_set ?_ GE527.out) | exact HB.out)) hb)
  clear BK519
  clear BK520
  clear BK527
  clear HB
  have HO523 := n0_
  have BK519 := n1_
  have BK520 := n2_
  have BK527 := n3_
  have HB := n4_
  clear n0_ n1_ n2_ n3_ n4_
  (try clear hb)
  (try clear hb2)
  (try clear hk)
  (try clear hi)
  (try clear ho0)
  refine hK.out _ _ ⟨(blk_cell BK519.out 0).trans rfl, (blk_cell BK519.out 1).trans rfl, (blk_cell BK519.out 2).trans rfl⟩ (fun hHeld => ?_)
  clear hK K
  refine norm_ (a' := ?_) ?_ ?_
  rotate_left
  ·
   show Act.put _ (some 8) _ = _
   simp only [Act.put, List.setIfInBounds_toArray, List.set_cons_zero, List.set_cons_succ, i64_w, i32_w]
   rfl
  refine one_ (i := 5) (N := some 11) #[true, true, true, true, true, true, false, true, false] rfl rfl (one_of HT_.out (by kernel_rfl)) (by decide) (fun K hK => ?_)
  refine goes_ Try.func92 (by kernel_rfl) rfl #[.slice A0_1 l0_1.length c0_1] (by rfl) rfl rfl (by (try simp only [List.map_toArray, List.map_cons, List.map_nil]); first | done | rfl | (simp only [List.length_drop, List.length_take]; rfl)) ?_
  with_reducible refine (api_Slot.calls _ _ l0_1 t524 _ ?side1 ?side2 A3.out).mono ?_
  (case side1 => repeat (first | exact (Kd.C_below HR0_1.out HB.out) | (with_reducible refine Kd.C_alloc ?_ _) | (with_reducible refine Kd.C_drewN ?_ _) | (with_reducible refine Kd.C_drew ?_)))
  (case side2 => exact HC0_1.out)
  rintro e w9 ⟨v525, rfl, ho0, hb⟩
  refine ⟨_, rfl, ?_⟩
  have n0_ := Aside0.mk (Kd.R_below (by (with_reducible repeat (first | apply Kd.R_alloc | apply Kd.R_drewN | apply Kd.R_drew)); exact HO523.out) hb)
  have n1_ := Aside0.mk (Kd.R_lower ho0 (below_size (by repeat (first | (with_reducible first | exact HB.out | apply below_alloc | apply pw_below_drewN | apply below_drew1 | refine below_set ?_ GE519.out | refine below_set ?_ GE520.out | refine below_set ?_ GE527.out) | exact HB.out))))
  have n2_ := Aside0.mk (blk_below (g := gb519) (o := .cells #[.slice A0_0 l0_0.length c0_0, .slice A0_1 l0_1.length c0_1, .slice A0_2 l0_2.length c0_2] 26 (0, 0)) (by (with_reducible repeat (first | refine blk_drewN ?_ _ | refine blk_drew ?_ | refine blk_alloc ?_ _)); exact BK519.out) hb)
  have n3_ := Aside0.mk (blk_below (g := gb520) (o := .cells #[.slice none 0 0, .slice none 0 0, .slice none 0 0] 26 (0, 0)) (by (with_reducible repeat (first | refine blk_drewN ?_ _ | refine blk_drew ?_ | refine blk_alloc ?_ _)); exact BK520.out) hb)
  have n4_ := Aside0.mk (blk_below (g := gb527) (o := .cells #[.slice none 0 0, .slice none 0 0, .slice none 0 0] 26 (0, 0)) (by (with_reducible repeat (first | refine blk_drewN ?_ _ | refine blk_drew ?_ | refine blk_alloc ?_ _)); exact BK527.out) hb)
  have n5_ := Aside0.mk (below_step (by repeat (first | (with_reducible first | exact HB.out | apply below_alloc | apply pw_below_drewN | apply below_drew1 | refine below_set ?_ GE519.out | refine below_set ?_ GE520.out | refine below_set ?_ GE527.out) | exact HB.out)) hb)
  clear HO523
  clear BK519
  clear BK520
  clear BK527
  clear HB
  have HO523 := n0_
  have HO526 := n1_
  have BK519 := n2_
  have BK520 := n3_
  have BK527 := n4_
  have HB := n5_
  clear n0_ n1_ n2_ n3_ n4_ n5_
  (try clear hb)
  (try clear hb2)
  (try clear hk)
  (try clear hi)
  (try clear ho0)
  obtain ⟨Ao10, co10, eo10⟩ := Kd.R_slice HO526.out
  (first | subst eo10 | (injection eo10 with f1_ f2_ f3_; have f4_ := f1_.symm; have f5_ := f3_.symm; clear f1_ f2_ f3_; subst f4_; subst f5_))
  obtain ⟨Ao11, co11, eo11⟩ := Kd.R_slice HO523.out
  (first | subst eo11 | (injection eo11 with f1_ f2_ f3_; have f4_ := f1_.symm; have f5_ := f3_.symm; clear f1_ f2_ f3_; subst f4_; subst f5_))
  refine hK.out _ _ ⟨(blk_cell BK519.out 0).trans rfl, (blk_cell BK519.out 1).trans rfl, (blk_cell BK519.out 2).trans rfl⟩ (fun hHeld => ?_)
  clear hK K
  refine norm_ (a' := ?_) ?_ ?_
  rotate_left
  ·
   show Act.put _ (some 11) _ = _
   simp only [Act.put, List.setIfInBounds_toArray, List.set_cons_zero, List.set_cons_succ, i64_w, i32_w]
   rfl
  refine pure_ (i := 6) (N := some 12) (v := ?_) (a' := ?_) #[true, true, true, true, true, true, true, true, false] rfl rfl (any_of HT_.out (by kernel_rfl)) (fun _ _ _ h => h) (Or.inl ⟨by rfl, ?_⟩) ?_ ?_
  rotate_left
  ·
   intro w'
   go_simp
   with_reducible rfl
  rotate_left
  ·
   simp only [Act.put, List.setIfInBounds_toArray, List.set_cons_zero, List.set_cons_succ, i64_w, i32_w]
   rfl
  exact norm_ (by simp only [putAll, Act.put, List.setIfInBounds_toArray, List.set_cons_zero, List.set_cons_succ]) (hCont (.slice Ao11 t521.length co11, .slice Ao10 t524.length co10, gb527) _ ⟨hHeld, (by (with_reducible repeat (first | apply Kd.R_alloc | apply Kd.R_drewN | apply Kd.R_drew)); exact HO523.out), (by (with_reducible repeat (first | apply Kd.R_alloc | apply Kd.R_drewN | apply Kd.R_drew)); exact HO526.out), (by (with_reducible repeat (first | refine blk_drewN ?_ _ | refine blk_drew ?_ | refine blk_alloc ?_ _)); exact BK519.out), (by (with_reducible repeat (first | refine blk_drewN ?_ _ | refine blk_drew ?_ | refine blk_alloc ?_ _)); exact BK520.out), (by (with_reducible repeat (first | refine blk_drewN ?_ _ | refine blk_drew ?_ | refine blk_alloc ?_ _)); exact BK527.out), GW527.out, GE527.out, NB519_527.out, NB527_519.out, NB520_527.out, NB527_520.out, (by repeat (first | (with_reducible first | exact HB.out | apply below_alloc | apply pw_below_drewN | apply below_drew1 | refine below_set ?_ GE519.out | refine below_set ?_ GE520.out | refine below_set ?_ GE527.out) | exact HB.out))⟩)
 rintro ⟨v522, v525, gb527⟩ w12 ⟨hS_, h0_, h1_, h2_, h3_, h4_, h5_, h6_, h7_, h8_, h9_, h10_, h11_⟩
 have n0_ : Aside0 (Kd.R (Kd.int .i64) 3 w12 w.heap.size (fun _ => True) v522 t521) := ⟨h0_⟩
 have n1_ : Aside0 (Kd.R k50 50 w12 w.heap.size (fun _ => True) v525 t524) := ⟨h1_⟩
 have n2_ : Aside0 (w12.heap[gb519]? = some (.cells #[.slice A0_0 l0_0.length c0_0, .slice A0_1 l0_1.length c0_1, .slice A0_2 l0_2.length c0_2] 26 (0, 0))) := ⟨h2_⟩
 have n3_ : Aside0 (w12.heap[gb520]? = some (.cells #[.slice none 0 0, .slice none 0 0, .slice none 0 0] 26 (0, 0))) := ⟨h3_⟩
 have n4_ : Aside0 (w12.heap[gb527]? = some (.cells #[.slice none 0 0, .slice none 0 0, .slice none 0 0] 26 (0, 0))) := ⟨h4_⟩
 have n5_ : Aside0 (w.heap.size ≤ gb527) := ⟨h5_⟩
 have n6_ : Aside0 (w.heap.size ≤ gb527) := ⟨h6_⟩
 have n7_ : Aside0 (gb519 ≠ gb527) := ⟨h7_⟩
 have n8_ : Aside0 (gb527 ≠ gb519) := ⟨h8_⟩
 have n9_ : Aside0 (gb520 ≠ gb527) := ⟨h9_⟩
 have n10_ : Aside0 (gb527 ≠ gb520) := ⟨h10_⟩
 have n11_ : Aside0 (Below w.heap.size w w12) := ⟨h11_⟩
 clear BK519
 clear BK520
 clear HB
 clear h0_ h1_ h2_ h3_ h4_ h5_ h6_ h7_ h8_ h9_ h10_ h11_
 have HO523 := n0_
 have HO526 := n1_
 have BK519 := n2_
 have BK520 := n3_
 have BK527 := n4_
 have GW527 := n5_
 have GE527 := n6_
 have NB519_527 := n7_
 have NB527_519 := n8_
 have NB520_527 := n9_
 have NB527_520 := n10_
 have HB := n11_
 clear n0_ n1_ n2_ n3_ n4_ n5_ n6_ n7_ n8_ n9_ n10_ n11_
 have hHeld : w12.cell? ⟨gb519, 0, none⟩ = some (.slice A0_0 l0_0.length c0_0) ∧ w12.cell? ⟨gb519, 1, none⟩ = some (.slice A0_1 l0_1.length c0_1) ∧ w12.cell? ⟨gb519, 2, none⟩ = some (.slice A0_2 l0_2.length c0_2) := hS_
 obtain ⟨Ao13, co13, eo13⟩ := Kd.R_slice HO526.out
 (first | subst eo13 | (injection eo13 with f1_ f2_ f3_; have f4_ := f1_.symm; have f5_ := f3_.symm; clear f1_ f2_ f3_; subst f4_; subst f5_))
 obtain ⟨Ao14, co14, eo14⟩ := Kd.R_slice HO523.out
 (first | subst eo14 | (injection eo14 with f1_ f2_ f3_; have f4_ := f1_.symm; have f5_ := f3_.symm; clear f1_ f2_ f3_; subst f4_; subst f5_))
 refine norm_ (a' := ?_) ?_ ?_
 rotate_left
 ·
  simp only [putAll, Act.put, List.setIfInBounds_toArray, List.set_cons_zero, List.set_cons_succ]
  rfl
 refine one_ (i := 8) (N := none) #[true, true, true, true, true, true, true, true, true] rfl rfl (one_of HT_.out (by kernel_rfl)) (by decide) (fun K hK => ?_)
 have hs15 : w12.cell? ⟨gb527, 0, none⟩ = some (.slice none 0 0) := (blk_cell BK527.out 0).trans rfl
 have hfs15 := blk_frozen BK527.out 0
 have hns15_0 := NB519_527.out
 have hns15_1 := NB520_527.out
 have hms15_0 := NB527_519.out
 have hms15_1 := NB527_520.out
 have hs16 : w12.cell? ⟨gb527, 1, none⟩ = some (.slice none 0 0) := (blk_cell BK527.out 1).trans rfl
 have hfs16 := blk_frozen BK527.out 1
 have hns16_0 := NB519_527.out
 have hns16_1 := NB520_527.out
 have hms16_0 := NB527_519.out
 have hms16_1 := NB527_520.out
 have hs17 : w12.cell? ⟨gb527, 2, none⟩ = some (.slice none 0 0) := (blk_cell BK527.out 2).trans rfl
 have hfs17 := blk_frozen BK527.out 2
 have hns17_0 := NB519_527.out
 have hns17_1 := NB520_527.out
 have hms17_0 := NB527_519.out
 have hms17_1 := NB527_520.out
 refine skip_ (w1 := ?_) (by rfl) rfl ?_ ?_
 rotate_left
 ·
  go_simp
  rfl
 refine hK.out _ _ ⟨((cell_far (p := ⟨gb527, _, none⟩) NB519_527.out _).trans (((cell_far (p := ⟨gb527, _, none⟩) NB519_527.out _).trans (((cell_far (p := ⟨gb527, _, none⟩) NB519_527.out _).trans (hHeld.1)))))), ((cell_far (p := ⟨gb527, _, none⟩) NB519_527.out _).trans (((cell_far (p := ⟨gb527, _, none⟩) NB519_527.out _).trans (((cell_far (p := ⟨gb527, _, none⟩) NB519_527.out _).trans (hHeld.2.1)))))), ((cell_far (p := ⟨gb527, _, none⟩) NB519_527.out _).trans (((cell_far (p := ⟨gb527, _, none⟩) NB519_527.out _).trans (((cell_far (p := ⟨gb527, _, none⟩) NB519_527.out _).trans (hHeld.2.2))))))⟩ (fun hHeld => ?_)
 clear hK K
 refine done_ (done_of HT_.out (by kernel_rfl)) ?_
 have hnb18 := NB519_520.out
 have hnc18 := NB520_519.out
 have hnb19 := NB519_527.out
 have hnc19 := NB527_519.out
 have hcz20_0 : w12.cell? ⟨gb519, 0, none⟩ = some (.slice A0_0 l0_0.length c0_0) := (blk_cell BK519.out 0).trans rfl
 have hcz20_1 : w12.cell? ⟨gb519, 1, none⟩ = some (.slice A0_1 l0_1.length c0_1) := (blk_cell BK519.out 1).trans rfl
 have hcz20_2 : w12.cell? ⟨gb519, 2, none⟩ = some (.slice A0_2 l0_2.length c0_2) := (blk_cell BK519.out 2).trans rfl
 have hfz20_0 := blk_frozen BK519.out 0
 have hfz20_1 := blk_frozen BK519.out 1
 have hfz20_2 := blk_frozen BK519.out 2
 try go_wp2
 go_loopg [16] k (fun kq v16 w' => ∃ (x16_1 : Int) (x528002_1 : List (List Int)) (u528002 : Value), v16 = .int .i64 x16_1 ∧ Aside0 (match_other.l0 kq l0_2 (l0_2.length : Int) x16_1 t521 t524 x528002_1 = some (r1, r2, r3)) ∧ Aside0 (kq ≤ k) ∧ Aside0 (Kd.R (Kd.int .i64) 3 w' w.heap.size (fun _ => True) (.slice Ao14 t521.length co14) t521) ∧ Aside0 (Kd.R k50 50 w' w.heap.size (fun _ => True) (.slice Ao13 t524.length co13) t524) ∧ Aside0 (Kd.S (Kd.slice 3 (Kd.int .i64)) 22 w' w.heap.size (fun k_ => some k_ ≠ ((.slice Ao14 t521.length co14) : Value).ownBlock) u528002 x528002_1) ∧ Aside0 (w'.heap[gb519]? = some (.cells #[(.slice A0_0 l0_0.length c0_0), (.slice A0_1 l0_1.length c0_1), (.slice A0_2 l0_2.length c0_2)] 26 (0, 0))) ∧ Aside0 (w'.heap[gb520]? = some (.cells #[(.slice none 0 0), (.slice none 0 0), (.slice none 0 0)] 26 (0, 0))) ∧ Aside0 (w'.heap[gb527]? = some (.cells #[(.slice Ao14 t521.length co14), (.slice Ao13 t524.length co13), u528002] 26 (0, 0))) ∧ Aside0 (Below w.heap.size w w'))
 case atStart => exact ⟨(0), (([] : List (List Int))), (.slice none 0 0), (by first | rfl | (simp; done) | (simp [*]; done)), H', ⟨Nat.le_refl _⟩, ⟨by (with_reducible repeat (first | apply Kd.R_alloc | apply Kd.R_drewN | apply Kd.R_drew)); exact Kd.R_mono (Kd.R_far (p := ⟨gb527, 2, none⟩) (Kd.R_far (p := ⟨gb527, 1, none⟩) (Kd.R_far (p := ⟨gb527, 0, none⟩) (Kd.R_types HO523.out BK527.out (by decide)) (fun _ hk => hk.2) (.slice Ao14 t521.length co14)) (fun _ hk => hk.2) (.slice Ao13 t524.length co13)) (fun _ hk => hk.2) (.slice none 0 0)) (fun _ hk => trivial)⟩, ⟨by (with_reducible repeat (first | apply Kd.R_alloc | apply Kd.R_drewN | apply Kd.R_drew)); exact Kd.R_mono (Kd.R_far (p := ⟨gb527, 2, none⟩) (Kd.R_far (p := ⟨gb527, 1, none⟩) (Kd.R_far (p := ⟨gb527, 0, none⟩) (Kd.R_types HO526.out BK527.out (by decide)) (fun _ hk => hk.2) (.slice Ao14 t521.length co14)) (fun _ hk => hk.2) (.slice Ao13 t524.length co13)) (fun _ hk => hk.2) (.slice none 0 0)) (fun _ hk => trivial)⟩, ⟨by first | exact Kd.S_nil _ _ _ _ _ | exact Kd.N_nil _ _ _ _ _ | exact Kd.V_nil _ _ _ _ _ | exact Kd.Q_nil _ _ _ _ _ | exact Kd.R_nil _ _ _ _ _⟩, ⟨by (with_reducible repeat (first | refine blk_drewN ?_ _ | refine blk_drew ?_ | refine blk_alloc ?_ _)); refine blk_far ?_ NB519_527.out _; (with_reducible repeat (first | refine blk_drewN ?_ _ | refine blk_drew ?_ | refine blk_alloc ?_ _)); refine blk_far ?_ NB519_527.out _; (with_reducible repeat (first | refine blk_drewN ?_ _ | refine blk_drew ?_ | refine blk_alloc ?_ _)); refine blk_far ?_ NB519_527.out _; (with_reducible repeat (first | refine blk_drewN ?_ _ | refine blk_drew ?_ | refine blk_alloc ?_ _)); exact BK519.out⟩, ⟨by (with_reducible repeat (first | refine blk_drewN ?_ _ | refine blk_drew ?_ | refine blk_alloc ?_ _)); refine blk_far ?_ NB520_527.out _; (with_reducible repeat (first | refine blk_drewN ?_ _ | refine blk_drew ?_ | refine blk_alloc ?_ _)); refine blk_far ?_ NB520_527.out _; (with_reducible repeat (first | refine blk_drewN ?_ _ | refine blk_drew ?_ | refine blk_alloc ?_ _)); refine blk_far ?_ NB520_527.out _; (with_reducible repeat (first | refine blk_drewN ?_ _ | refine blk_drew ?_ | refine blk_alloc ?_ _)); exact BK520.out⟩, ⟨by (with_reducible repeat (first | refine blk_drewN ?_ _ | refine blk_drew ?_ | refine blk_alloc ?_ _)); refine blk_put (cs := #[.slice Ao14 t521.length co14, .slice Ao13 t524.length co13, .slice none 0 0]) ?_ 2 _ rfl; (with_reducible repeat (first | refine blk_drewN ?_ _ | refine blk_drew ?_ | refine blk_alloc ?_ _)); refine blk_put (cs := #[.slice Ao14 t521.length co14, .slice none 0 0, .slice none 0 0]) ?_ 1 _ rfl; (with_reducible repeat (first | refine blk_drewN ?_ _ | refine blk_drew ?_ | refine blk_alloc ?_ _)); refine blk_put (cs := #[.slice none 0 0, .slice none 0 0, .slice none 0 0]) ?_ 0 _ rfl; (with_reducible repeat (first | refine blk_drewN ?_ _ | refine blk_drew ?_ | refine blk_alloc ?_ _)); exact BK527.out⟩, ⟨by repeat (first | (with_reducible first | exact HB.out | apply below_alloc | apply pw_below_drewN | apply below_drew1 | refine below_set ?_ GE519.out | refine below_set ?_ GE520.out | refine below_set ?_ GE527.out) | exact HB.out)⟩⟩
 clear H'
 try clear c1
 try clear p2
 try clear c7
 try clear c8
 try clear c9
 try clear c18
 try clear c19
 try clear hcz20_0
 try clear hcz20_1
 try clear hcz20_2
 try clear hfz20_0
 try clear hfz20_1
 try clear hfz20_2
 obtain ⟨x16_1, x528002_1, u528002, rfl, HA, HK1, HO_528000, HO_528001, HO_528002, BK519, BK520, BK527, HB⟩ := hrel
 cases gk with
 | zero => exact absurd HA.out (by simp [match_other.l0])
 | succ k1 =>
  have H := HA.out
  clear HA
  simp only [match_other.l0] at H
  by_cases c21 : x16_1 < (l0_2.length : Int)
  rotate_left
  ·
   rw [if_neg c21] at H
   have c21b0 : decide (x16_1 < (l0_2.length : Int)) = false := decide_eq_false c21
   clear c21
   simp only [Option.some.injEq, Prod.mk.injEq] at H
   obtain ⟨rfl, rfl, rfl⟩ := H
   have hnb32 := NB527_519.out
   have hnc32 := NB519_527.out
   have hnb33 := NB527_520.out
   have hnc33 := NB520_527.out
   have hcz34_0 : wr.cell? ⟨gb527, 0, none⟩ = some (.slice Ao14 t521.length co14) := (blk_cell BK527.out 0).trans rfl
   have hcz34_1 : wr.cell? ⟨gb527, 1, none⟩ = some (.slice Ao13 t524.length co13) := (blk_cell BK527.out 1).trans rfl
   have hcz34_2 : wr.cell? ⟨gb527, 2, none⟩ = some (u528002) := (blk_cell BK527.out 2).trans rfl
   have hfz34_0 := blk_frozen BK527.out 0
   have hfz34_1 := blk_frozen BK527.out 1
   have hfz34_2 := blk_frozen BK527.out 2
   have hnb35 := NB520_519.out
   have hnc35 := NB519_520.out
   have hcz36_0 : wr.cell? ⟨gb520, 0, none⟩ = some (.slice none 0 0) := (blk_cell BK520.out 0).trans rfl
   have hcz36_1 : wr.cell? ⟨gb520, 1, none⟩ = some (.slice none 0 0) := (blk_cell BK520.out 1).trans rfl
   have hcz36_2 : wr.cell? ⟨gb520, 2, none⟩ = some (.slice none 0 0) := (blk_cell BK520.out 2).trans rfl
   have hfz36_0 := blk_frozen BK520.out 0
   have hfz36_1 := blk_frozen BK520.out 1
   have hfz36_2 := blk_frozen BK520.out 2
   obtain ⟨Ao37, co37, eo37⟩ := Kd.S_slice HO_528002.out
   subst eo37
   go_wp2
   refine bodyPost_ret (results_cell_row rfl _ _ gb520 26 #[.slice Ao14 t521.length co14, .slice Ao13 t524.length co13, .slice Ao37 x528002_1.length co37] (0, 0) _ rfl (by (with_reducible repeat (first | refine blk_drewN ?_ _ | refine blk_drew ?_ | refine blk_alloc ?_ _)); refine blk_put (cs := #[.slice Ao14 t521.length co14, .slice Ao13 t524.length co13, .slice none 0 0]) ?_ 2 _ rfl; (with_reducible repeat (first | refine blk_drewN ?_ _ | refine blk_drew ?_ | refine blk_alloc ?_ _)); refine blk_put (cs := #[.slice Ao14 t521.length co14, .slice none 0 0, .slice none 0 0]) ?_ 1 _ rfl; (with_reducible repeat (first | refine blk_drewN ?_ _ | refine blk_drew ?_ | refine blk_alloc ?_ _)); refine blk_put (cs := #[.slice none 0 0, .slice none 0 0, .slice none 0 0]) ?_ 0 _ rfl; (with_reducible repeat (first | refine blk_drewN ?_ _ | refine blk_drew ?_ | refine blk_alloc ?_ _)); exact BK520.out) Try.underlying26 rfl (by kernel_rfl)) rfl ?_
   exact ⟨_, _, _, by first | rfl | (simp [errW_none, errW_some] <;> rfl) | (simp [*, errW_none, errW_some] <;> rfl), by (with_reducible repeat (first | apply Kd.R_alloc | apply Kd.R_drewN | apply Kd.R_drew)); exact Kd.R_mono (Kd.R_far (p := ⟨gb520, 2, none⟩) (Kd.R_far (p := ⟨gb520, 1, none⟩) (Kd.R_far (p := ⟨gb520, 0, none⟩) (Kd.R_types HO_528000.out BK520.out (by decide)) (fun _ hk => hk.2) (.slice Ao14 t521.length co14)) (fun _ hk => hk.2) (.slice Ao13 t524.length co13)) (fun _ hk => hk.2) (.slice Ao37 x528002_1.length co37)) (fun _ hk => trivial), by (with_reducible repeat (first | apply Kd.R_alloc | apply Kd.R_drewN | apply Kd.R_drew)); exact Kd.R_mono (Kd.R_far (p := ⟨gb520, 2, none⟩) (Kd.R_far (p := ⟨gb520, 1, none⟩) (Kd.R_far (p := ⟨gb520, 0, none⟩) (Kd.R_types HO_528001.out BK520.out (by decide)) (fun _ hk => hk.2) (.slice Ao14 t521.length co14)) (fun _ hk => hk.2) (.slice Ao13 t524.length co13)) (fun _ hk => hk.2) (.slice Ao37 x528002_1.length co37)) (fun _ hk => trivial), by (with_reducible repeat (first | apply Kd.S_alloc | apply Kd.S_drewN | apply Kd.S_drew)); exact Kd.S_mono (Kd.S_far (p := ⟨gb520, 2, none⟩) (Kd.S_far (p := ⟨gb520, 1, none⟩) (Kd.S_far (p := ⟨gb520, 0, none⟩) (Kd.S_types HO_528002.out BK520.out (by decide)) (fun _ hk => hk.2) (.slice Ao14 t521.length co14)) (fun _ hk => hk.2) (.slice Ao13 t524.length co13)) (fun _ hk => hk.2) (.slice Ao37 x528002_1.length co37)) (fun _ hk => hk.1), by repeat (first | (with_reducible first | exact HB.out | apply below_alloc | apply pw_below_drewN | apply below_drew1 | refine below_set ?_ GE519.out | refine below_set ?_ GE520.out | refine below_set ?_ GE527.out) | exact HB.out)⟩
  rw [if_pos c21] at H
  have c21b0 : decide (x16_1 < (l0_2.length : Int)) = true := decide_eq_true c21
  clear c21
  by_cases c22 : 0 ≤ x16_1
  rotate_left
  ·
   rw [if_neg c22] at H
   exact absurd H (by simp)
  rw [if_pos c22] at H
  have c22b0 : decide (0 ≤ x16_1) = true := decide_eq_true c22
  clear c22
  by_cases c23 : x16_1 < (l0_2.length : Int)
  rotate_left
  ·
   rw [if_neg c23] at H
   exact absurd H (by simp)
  rw [if_pos c23] at H
  have c23b0 : decide (x16_1 < (l0_2.length : Int)) = true := decide_eq_true c23
  clear c23
  replace H := Option.bind_eq_some_iff.mp H
  obtain ⟨t529, A240, H⟩ := H
  replace H : (if x528002_1.length < 5864062014805 then (match_other.l0 k1 l0_2 (l0_2.length : Int) (wrap64 (x16_1 + 1)) t521 t524 (x528002_1 ++ [t529])) else (none)) = some (r1, r2, r3) := H
  have A24 := Aside0.mk A240
  clear A240
  by_cases c25 : x528002_1.length < 5864062014805
  rotate_left
  ·
   rw [if_neg c25] at H
   exact absurd H (by simp)
  rw [if_pos c25] at H
  have LMc25 := Aside0.mk c25
  clear c25
  obtain ⟨y532, hy532⟩ : ∃ y_ : List (List Int), y_ = (x528002_1 ++ [t529]) := ⟨_, rfl⟩
  replace H : (match_other.l0 k1 l0_2 (l0_2.length : Int) (wrap64 (x16_1 + 1)) t521 t524 y532) = some (r1, r2, r3) := by first | (rw [hy532]; with_reducible exact H) | (have H2_ := (Option.bind_some _ _).symm.trans H; rw [hy532]; with_reducible exact H2_) | (have H2_ := (Option.bind_some _ _).symm.trans H; with_reducible exact H2_) | with_reducible exact H | (rw [hy532]; exact H) | exact H
  have Ny532 := Aside0.mk hy532
  clear hy532
  have H' := Aside0.mk H
  clear H
  have p528 : 0 ≤ (x16_1 : Int) := of_decide_eq_true (by first | (with_reducible assumption) | assumption)
  have q528 : x16_1 < (l0_2.length : Int) := of_decide_eq_true (by first | (with_reducible assumption) | assumption)
  obtain ⟨ad528, A528_0, c528_0, e528, hx528_0, hl528_0, hi528_0⟩ := at_L1 HR0_2.out x16_1 p528 q528
  cases e528
  replace hx528_0 := (HB.out.cell (World.block_lt_of_cell? w _ hx528_0)).trans hx528_0
  have HR528_0 := Aside0.mk hi528_0
  have HC528_0 := Aside0.mk hl528_0
  clear hi528_0 hl528_0
  replace p528 := eq_true p528
  replace q528 := eq_true q528
  try go_wp2
  have n0_ := Aside0.mk (Kd.R_drew HO_528000.out)
  have n1_ := Aside0.mk (Kd.R_drew HO_528001.out)
  have n2_ := Aside0.mk (Kd.S_drew HO_528002.out)
  have n3_ := Aside0.mk (blk_drew BK519.out)
  have n4_ := Aside0.mk (blk_drew BK520.out)
  have n5_ := Aside0.mk (blk_drew BK527.out)
  have n6_ := Aside0.mk (below_drew1 HB.out)
  clear HO_528000
  clear HO_528001
  clear HO_528002
  clear BK519
  clear BK520
  clear BK527
  clear HB
  have HO_528000 := n0_
  have HO_528001 := n1_
  have HO_528002 := n2_
  have BK519 := n3_
  have BK520 := n4_
  have BK527 := n5_
  have HB := n6_
  clear n0_ n1_ n2_ n3_ n4_ n5_ n6_
  refine start_ (n := 8) (S := fun w' => w'.cell? ⟨gb527, 0, none⟩ = some (.slice Ao14 t521.length co14) ∧ w'.cell? ⟨gb527, 1, none⟩ = some (.slice Ao13 t524.length co13) ∧ w'.cell? ⟨gb527, 2, none⟩ = some (u528002)) (ds := [7]) #[false, false, false, false, false, false, false, false] (by kernel_rfl) rfl rfl ⟨(blk_cell BK527.out 0).trans rfl, (blk_cell BK527.out 1).trans rfl, (blk_cell BK527.out 2).trans rfl⟩ (fun hHeld => ?_); refine with_tabW match_other.tab5 match_other.bits5 (fun HT_ HW_ => ?_)
  generalize wr.drew = w26 at HO_528000 HO_528001 HO_528002 BK519 BK520 BK527 HB hHeld ⊢
  refine pure_ (i := 0) (N := some 20) (v := ?_) (a' := ?_) #[true, false, false, false, false, false, false, false] rfl rfl (any_of HT_.out (by kernel_rfl)) (fun _ _ _ h => h) (Or.inl ⟨by rfl, ?_⟩) ?_ ?_
  rotate_left
  ·
   intro w'
   go_simp
   with_reducible rfl
  rotate_left
  ·
   simp only [Act.put, List.setIfInBounds_toArray, List.set_cons_zero, List.set_cons_succ, i64_w, i32_w]
   rfl
  refine pure_ (i := 2) (N := some 22) (v := ?_) (a' := ?_) #[true, false, true, false, false, false, false, false] rfl rfl (any_of HT_.out (by kernel_rfl)) (fun _ _ _ h => h) (Or.inl ⟨by rfl, ?_⟩) ?_ ?_
  rotate_left
  ·
   intro w'
   go_simp
   with_reducible rfl
  rotate_left
  ·
   simp only [Act.put, List.setIfInBounds_toArray, List.set_cons_zero, List.set_cons_succ, i64_w, i32_w]
   rfl
  refine take_ (i := 1) (N := some 21) (v := ?_) (a' := ?_) #[true, true, true, false, false, false, false, false] rfl rfl (take_ofW HT_.out HW_.out (by kernel_rfl)) (fun _ _ _ h => h) (Or.inl ⟨by rfl, ?_⟩) hHeld ?_ ?_
  rotate_left
  ·
   rintro w' ⟨s0, s1, s2⟩
   go_simp
   with_reducible rfl
  rotate_left
  ·
   simp only [Act.put, List.setIfInBounds_toArray, List.set_cons_zero, List.set_cons_succ, i64_w, i32_w]
   rfl
  refine one_ (i := 3) (N := some 23) #[true, true, true, true, false, false, false, false] rfl rfl (one_of HT_.out (by kernel_rfl)) (by decide) (fun K hK => ?_)
  refine goes_ Try.func88 (by kernel_rfl) rfl #[.slice A528_0 (rd_L1 l0_2 x16_1).length c528_0] (by rfl) rfl rfl (by (try simp only [List.map_toArray, List.map_cons, List.map_nil]); first | done | rfl | (simp only [List.length_drop, List.length_take]; rfl)) ?_
  with_reducible refine (match_copied_int_88.calls _ _ (rd_L1 l0_2 x16_1) t529 _ ?side1 ?side2 A24.out).mono ?_
  (case side1 => repeat (first | exact (Kd.C_below HR528_0.out HB.out) | (with_reducible refine Kd.C_alloc ?_ _) | (with_reducible refine Kd.C_drewN ?_ _) | (with_reducible refine Kd.C_drew ?_)))
  (case side2 => exact HC528_0.out)
  rintro e w27 ⟨v530, rfl, ho0, hb⟩
  refine ⟨_, rfl, ?_⟩
  have n0_ := Aside0.mk (Kd.R_elder' (by (with_reducible repeat (first | apply Kd.R_alloc | apply Kd.R_drewN | apply Kd.R_drew)); exact HO_528000.out) (Kd.R_base ho0) hb)
  have n1_ := Aside0.mk (Kd.R_below (by (with_reducible repeat (first | apply Kd.R_alloc | apply Kd.R_drewN | apply Kd.R_drew)); exact HO_528001.out) hb)
  have n2_ := Aside0.mk (Kd.S_elder' (by (with_reducible repeat (first | apply Kd.S_alloc | apply Kd.S_drewN | apply Kd.S_drew)); exact HO_528002.out) (Kd.R_base ho0) hb)
  have n3_ := Aside0.mk (Kd.R_lower (Kd.R_new' ho0 (Kd.R_lt (by (with_reducible repeat (first | apply Kd.R_alloc | apply Kd.R_drewN | apply Kd.R_drew)); exact HO_528000.out))) (below_size (by repeat (first | (with_reducible first | exact HB.out | apply below_alloc | apply pw_below_drewN | apply below_drew1 | refine below_set ?_ GE519.out | refine below_set ?_ GE520.out | refine below_set ?_ GE527.out) | exact HB.out))))
  have n4_ := Aside0.mk (blk_below (g := gb519) (o := .cells #[.slice A0_0 l0_0.length c0_0, .slice A0_1 l0_1.length c0_1, .slice (some ad528) l0_2.length c0_2] 26 (0, 0)) (by (with_reducible repeat (first | refine blk_drewN ?_ _ | refine blk_drew ?_ | refine blk_alloc ?_ _)); exact BK519.out) hb)
  have n5_ := Aside0.mk (blk_below (g := gb520) (o := .cells #[.slice none 0 0, .slice none 0 0, .slice none 0 0] 26 (0, 0)) (by (with_reducible repeat (first | refine blk_drewN ?_ _ | refine blk_drew ?_ | refine blk_alloc ?_ _)); exact BK520.out) hb)
  have n6_ := Aside0.mk (blk_below (g := gb527) (o := .cells #[.slice Ao14 t521.length co14, .slice Ao13 t524.length co13, u528002] 26 (0, 0)) (by (with_reducible repeat (first | refine blk_drewN ?_ _ | refine blk_drew ?_ | refine blk_alloc ?_ _)); exact BK527.out) hb)
  have n7_ := Aside0.mk (below_step (by repeat (first | (with_reducible first | exact HB.out | apply below_alloc | apply pw_below_drewN | apply below_drew1 | refine below_set ?_ GE519.out | refine below_set ?_ GE520.out | refine below_set ?_ GE527.out) | exact HB.out)) hb)
  clear HO_528000
  clear HO_528001
  clear HO_528002
  clear BK519
  clear BK520
  clear BK527
  clear HB
  have HO_528000 := n0_
  have HO_528001 := n1_
  have HO_528002 := n2_
  have HO531 := n3_
  have BK519 := n4_
  have BK520 := n5_
  have BK527 := n6_
  have HB := n7_
  clear n0_ n1_ n2_ n3_ n4_ n5_ n6_ n7_
  (try clear hb)
  (try clear hb2)
  (try clear hk)
  (try clear hi)
  (try clear ho0)
  obtain ⟨Ao29, co29, eo29⟩ := Kd.R_slice HO531.out
  (first | subst eo29 | (injection eo29 with f1_ f2_ f3_; have f4_ := f1_.symm; have f5_ := f3_.symm; clear f1_ f2_ f3_; subst f4_; subst f5_))
  refine hK.out _ _ ⟨(blk_cell BK527.out 0).trans rfl, (blk_cell BK527.out 1).trans rfl, (blk_cell BK527.out 2).trans rfl⟩ (fun hHeld => ?_)
  clear hK K
  refine norm_ (a' := ?_) ?_ ?_
  rotate_left
  ·
   show Act.put _ (some 23) _ = _
   simp only [Act.put, List.setIfInBounds_toArray, List.set_cons_zero, List.set_cons_succ, i64_w, i32_w]
   rfl
  refine one_ (i := 4) (N := some 24) #[true, true, true, true, true, false, false, false] rfl rfl (one_of HT_.out (by kernel_rfl)) (by decide) (fun K hK => ?_)
  refine value_ (w1 := ?_) (v := ?_) (by rfl) rfl ?_ ?_
  rotate_left 2
  ·
   go_simp
   constructor
   ·
    rfl
   rfl
  refine hK.out _ _ ⟨(blk_cell (blk_alloc BK527.out _) 0).trans rfl, (blk_cell (blk_alloc BK527.out _) 1).trans rfl, (blk_cell (blk_alloc BK527.out _) 2).trans rfl⟩ (fun hHeld => ?_)
  clear hK K
  refine norm_ (a' := ?_) ?_ ?_
  rotate_left
  ·
   show Act.put _ (some 24) _ = _
   simp only [Act.put, List.setIfInBounds_toArray, List.set_cons_zero, List.set_cons_succ, i64_w, i32_w]
   rfl
  refine one_ (i := 5) (N := some 25) #[true, true, true, true, true, true, false, false] rfl rfl (one_of HT_.out (by kernel_rfl)) (by decide) (fun K hK => ?_)
  refine Kd.S_append_step (Kd.slice 3 (Kd.int .i64)) (w0 := w) w.heap.size (by rfl) (.tmp 21) (.tmp 24) 24 22 (.slice none 0 0) 24 rfl Try.underlying24 info22 rfl (by decide) (by omega) u528002 x528002_1 t529 [.slice Ao29 t529.length co29] (fun k_ => some k_ ≠ (.slice Ao14 t521.length co14 : Value).ownBlock) (fun k_ => some k_ = (.slice Ao29 t529.length co29 : Value).ownBlock) rfl rfl ?aP (fun k_ hk_ => ((Kd.R_mono (ok' := fun k_ => ((fun k_ => some k_ ≠ (.slice Ao14 t521.length co14 : Value).ownBlock)) k_ ∧ some k_ ≠ (u528002 : Value).ownBlock) (Kd.R_apart' (HO531.out) (Kd.S_typed HO_528002.out) (by decide)) (fun k_ hk => ⟨hk.1.2, hk.2⟩))).1 k_ hk_.symm) ?aF ?aO ?aB ?aS ?aL ?_
  (case aP => exact Kd.M_row (Kd.R_mono (Kd.R_tight rfl (Kd.R_mono (ok' := fun k_ => ((fun k_ => some k_ ≠ (.slice Ao14 t521.length co14 : Value).ownBlock)) k_ ∧ some k_ ≠ (u528002 : Value).ownBlock) (Kd.R_apart' (HO531.out) (Kd.S_typed HO_528002.out) (by decide)) (fun k_ hk => ⟨hk.1.2, hk.2⟩))) (fun _ h_ => h_)))
  (case aB => exact (by repeat (first | (with_reducible first | exact HB.out | apply below_alloc | apply pw_below_drewN | apply below_drew1 | refine below_set ?_ GE519.out | refine below_set ?_ GE520.out | refine below_set ?_ GE527.out) | exact HB.out)))
  (case aF => exact (fun k_ hk => Kd.fresh' (Kd.R_lt (by (with_reducible repeat (first | apply Kd.R_alloc | apply Kd.R_drewN | apply Kd.R_drew)); exact HO_528000.out)) k_ hk))
  (case aO => exact (by (with_reducible repeat (first | apply Kd.S_alloc | apply Kd.S_drewN | apply Kd.S_drew)); exact Kd.S_mono HO_528002.out (fun k_ hk => ⟨hk.1, fun e_ => hk.2 e_⟩)))
  (case aS => exact (below_size (by repeat (first | (with_reducible first | exact HB.out | apply below_alloc | apply pw_below_drewN | apply below_drew1 | refine below_set ?_ GE519.out | refine below_set ?_ GE520.out | refine below_set ?_ GE527.out) | exact HB.out))))
  (case aL => have := LMc25.out; omega)
  intro v533 w28 ho hb hg hat
  rw [← Ny532.out] at ho
  have n0_ := Aside0.mk (Kd.R_over' (by (with_reducible repeat (first | apply Kd.R_alloc | apply Kd.R_drewN | apply Kd.R_drew)); exact HO_528000.out) (Kd.S_typed (by (with_reducible repeat (first | apply Kd.S_alloc | apply Kd.S_drewN | apply Kd.S_drew)); exact HO_528002.out)) (by decide) hg)
  have n1_ := Aside0.mk (Kd.R_over' (by (with_reducible repeat (first | apply Kd.R_alloc | apply Kd.R_drewN | apply Kd.R_drew)); exact HO_528001.out) (Kd.S_typed (by (with_reducible repeat (first | apply Kd.S_alloc | apply Kd.S_drewN | apply Kd.S_drew)); exact HO_528002.out)) (by decide) hg)
  have n2_ := Aside0.mk (blk_grown (g := gb519) (o := .cells #[.slice A0_0 l0_0.length c0_0, .slice A0_1 l0_1.length c0_1, .slice (some ad528) l0_2.length c0_2] 26 (0, 0)) (by (with_reducible repeat (first | refine blk_drewN ?_ _ | refine blk_drew ?_ | refine blk_alloc ?_ _)); exact BK519.out) hg (Kd.S_ne HO_528002.out BK519.out (by decide)))
  have n3_ := Aside0.mk (blk_grown (g := gb520) (o := .cells #[.slice none 0 0, .slice none 0 0, .slice none 0 0] 26 (0, 0)) (by (with_reducible repeat (first | refine blk_drewN ?_ _ | refine blk_drew ?_ | refine blk_alloc ?_ _)); exact BK520.out) hg (Kd.S_ne HO_528002.out BK520.out (by decide)))
  have n4_ := Aside0.mk (blk_grown (g := gb527) (o := .cells #[.slice Ao14 t521.length co14, .slice Ao13 t524.length co13, u528002] 26 (0, 0)) (by (with_reducible repeat (first | refine blk_drewN ?_ _ | refine blk_drew ?_ | refine blk_alloc ?_ _)); exact BK527.out) hg (Kd.S_ne HO_528002.out BK527.out (by decide)))
  have n5_ := Aside0.mk (hb)
  have n6_ := Aside0.mk (ho)
  clear HO_528000
  clear HO_528001
  clear BK519
  clear BK520
  clear BK527
  clear HB
  clear HO_528002
  clear HO531
  have HO_528000 := n0_
  have HO_528001 := n1_
  have BK519 := n2_
  have BK520 := n3_
  have BK527 := n4_
  have HB := n5_
  have HO534 := n6_
  clear n0_ n1_ n2_ n3_ n4_ n5_ n6_
  clear ho hb hg hat
  obtain ⟨Ao30, co30, eo30⟩ := Kd.S_slice HO534.out
  (first | subst eo30 | (injection eo30 with f1_ f2_ f3_; have f4_ := f1_.symm; have f5_ := f3_.symm; clear f1_ f2_ f3_; subst f4_; subst f5_))
  refine hK.out _ _ ⟨(blk_cell BK527.out 0).trans rfl, (blk_cell BK527.out 1).trans rfl, (blk_cell BK527.out 2).trans rfl⟩ (fun hHeld => ?_)
  clear hK K
  refine norm_ (a' := ?_) ?_ ?_
  rotate_left
  ·
   show Act.put _ (some 25) _ = _
   simp only [Act.put, List.setIfInBounds_toArray, List.set_cons_zero, List.set_cons_succ, i64_w, i32_w]
   rfl
  refine pure_ (i := 6) (N := some 26) (v := ?_) (a' := ?_) #[true, true, true, true, true, true, true, false] rfl rfl (any_of HT_.out (by kernel_rfl)) (fun _ _ _ h => h) (Or.inl ⟨by rfl, ?_⟩) ?_ ?_
  rotate_left
  ·
   intro w'
   go_simp
   with_reducible rfl
  rotate_left
  ·
   simp only [Act.put, List.setIfInBounds_toArray, List.set_cons_zero, List.set_cons_succ, i64_w, i32_w]
   rfl
  refine last_ (i := 7) (N := none) #[true, true, true, true, true, true, true, true] rfl rfl (one_of HT_.out (by kernel_rfl)) (by decide) (fun K hK => ?_)
  have hs31 : w28.cell? ⟨gb527, 2, none⟩ = some (u528002) := (blk_cell BK527.out 2).trans rfl
  have hfs31 := blk_frozen BK527.out 2
  have hns31_0 := NB519_527.out
  have hns31_1 := NB520_527.out
  have hms31_0 := NB527_519.out
  have hms31_1 := NB527_520.out
  refine skip_ (w1 := ?_) (by rfl) rfl ?_ ?_
  rotate_left
  ·
   go_simp
   rfl
  refine hK.out _ _ ?_
  clear hK K
  refine done_ (done_of HT_.out (by kernel_rfl)) ?_
  try go_wp2
  go_roundg k1
  case measure => have := HK1.out; omega
  case rel => exact ⟨(wrap64 (x16_1 + 1)), (y532), (.slice Ao30 y532.length co30), (by first | rfl | (simp; done) | (simp [*]; done)), H', ⟨by have := HK1.out; omega⟩, ⟨by (with_reducible repeat (first | apply Kd.R_alloc | apply Kd.R_drewN | apply Kd.R_drew)); exact Kd.R_mono (Kd.R_far (p := ⟨gb527, 2, none⟩) (Kd.R_types HO_528000.out BK527.out (by decide)) (fun _ hk => hk.2) (.slice Ao30 y532.length co30)) (fun _ hk => trivial)⟩, ⟨by (with_reducible repeat (first | apply Kd.R_alloc | apply Kd.R_drewN | apply Kd.R_drew)); exact Kd.R_mono (Kd.R_far (p := ⟨gb527, 2, none⟩) (Kd.R_types HO_528001.out BK527.out (by decide)) (fun _ hk => hk.2) (.slice Ao30 y532.length co30)) (fun _ hk => trivial)⟩, ⟨by (with_reducible repeat (first | apply Kd.S_alloc | apply Kd.S_drewN | apply Kd.S_drew)); exact Kd.S_mono (Kd.S_far (p := ⟨gb527, 2, none⟩) (Kd.S_types HO534.out BK527.out (by decide)) (fun _ hk => hk.2) (.slice Ao30 y532.length co30)) (fun _ hk => hk.1)⟩, ⟨by (with_reducible repeat (first | refine blk_drewN ?_ _ | refine blk_drew ?_ | refine blk_alloc ?_ _)); refine blk_far ?_ NB519_527.out _; (with_reducible repeat (first | refine blk_drewN ?_ _ | refine blk_drew ?_ | refine blk_alloc ?_ _)); exact BK519.out⟩, ⟨by (with_reducible repeat (first | refine blk_drewN ?_ _ | refine blk_drew ?_ | refine blk_alloc ?_ _)); refine blk_far ?_ NB520_527.out _; (with_reducible repeat (first | refine blk_drewN ?_ _ | refine blk_drew ?_ | refine blk_alloc ?_ _)); exact BK520.out⟩, ⟨by (with_reducible repeat (first | refine blk_drewN ?_ _ | refine blk_drew ?_ | refine blk_alloc ?_ _)); refine blk_put (cs := #[.slice Ao14 t521.length co14, .slice Ao13 t524.length co13, u528002]) ?_ 2 _ rfl; (with_reducible repeat (first | refine blk_drewN ?_ _ | refine blk_drew ?_ | refine blk_alloc ?_ _)); exact BK527.out⟩, ⟨by repeat (first | (with_reducible first | exact HB.out | apply below_alloc | apply pw_below_drewN | apply below_drew1 | refine below_set ?_ GE519.out | refine below_set ?_ GE520.out | refine below_set ?_ GE527.out) | exact HB.out)⟩⟩
end Go.Proofs.Ytkmmihadcbfkoaa.PM
end

section
namespace Go.Proofs.Ytkmmihadcbfkoaa
open Go.RowKit Go.Proofs.YtkmmihadcbfkoaaW.PrintWords PM
set_option linter.unusedVariables false
set_option linter.unusedSimpArgs false
theorem cop88 (l : List Int) (h : l.length ≤ 1000000) : match_copied_int_88.f l = some l := by
 unfold match_copied_int_88.f
 rw [Option.bind_some, if_pos (by simp; omega)]
 rfl
theorem copS (l : List S50) (h : l.length ≤ 1000000) : api_Slot.f l = some l := by
 unfold api_Slot.f
 rw [Option.bind_some, if_pos (by simp; omega)]
 rfl
variable {F : List Int} {S : List S50} {T : List (List Int)}
theorem other_ev (T : List (List Int)) (hT : T.length ≤ 1000000) (hr : ∀ l, l ∈ T → l.length ≤ 1000000) (a : List Int) (b : List S50) (m : Nat) : ∀ (i : Nat) (acc : List (List Int)), T.length - i = m → i ≤ T.length → acc.length = i →
  Ev (fun k => match_other.l0 k T (T.length : Int) (i : Int) a b acc) (a, b, acc ++ T.drop i) := by
 induction m with
 | zero =>
  intro i acc hm hi ha
  refine Ev.into (fun k => by rw [match_other.l0]) (Ev.neg (by omega) ?_)
  rw [List.drop_eq_nil_of_le (by omega), List.append_nil]
  exact Ev.const _
 | succ m ih =>
  intro i acc hm hi ha
  have hlt : i < T.length := by omega
  have hw := wrap_pm (i := (i : Int)) (by omega) (by omega)
  have hrd : rd_L1 T (i : Int) = T[i] := by simp [rd_L1, List.getD_eq_getElem?_getD, List.getElem?_eq_getElem hlt]
  refine Ev.into (fun k => by rw [match_other.l0]) (Ev.pos (by omega) (Ev.pos (by omega) (Ev.pos (by omega) ?_)))
  rw [hrd, cop88 _ (hr _ (List.getElem_mem hlt)), hw.1, show (i : Int) + 1 = ((i + 1 : Nat) : Int) by omega]
  simp only [Option.bind_some]
  refine Ev.pos (by omega) ?_
  have := ih (i + 1) (acc ++ [T[i]]) (by omega) (by omega) (by simp; omega)
  rw [List.append_assoc, List.singleton_append, List.getElem_cons_drop] at this
  exact this
theorem other_is (hF : F.length ≤ 1000000) (hS : S.length ≤ 1000000) (hT : T.length ≤ 1000000) (hr : ∀ l, l ∈ T → l.length ≤ 1000000) : Ev (fun k => match_other.f k F S T) (F, S, T) := by
 unfold match_other.f
 rw [cop88 F hF, copS S hS]
 have := other_ev T hT hr F S T.length 0 [] (by omega) (by omega) rfl
 simpa using this
/-- The board without a find. -/
def withoutP (F : List Int) (S : List S50) (T : List (List Int)) (find : Int) : List Int × List S50 × List (List Int) × Int :=
 if askB F S T find 0 false true = 0 then (F.eraseIdx find.toNat, S, T.eraseIdx find.toNat, 0) else ([], [], [], askB F S T find 0 false true)
/-- The board in which a find fits other slots. -/
def fittedP (F : List Int) (S : List S50) (T : List (List Int)) (find slot : Int) (g : List Int → List Int) : List Int × List S50 × List (List Int) × Int :=
 if askB F S T find slot false false = 0 then
  if slot ∈ T.getD find.toNat [] then (F, S, T.set find.toNat (g (T.getD find.toNat [])), 0) else ([], [], [], 5)
 else ([], [], [], askB F S T find slot false false)
def barredP (F : List Int) (S : List S50) (T : List (List Int)) (find slot : Int) := fittedP F S T find slot (fun l => l.filter (fun s => decide (s ≠ slot)))
def fixedP (F : List Int) (S : List S50) (T : List (List Int)) (find slot : Int) := fittedP F S T find slot (fun _ => [slot])
theorem rows_le (hk : BOK F S T) : ∀ l, l ∈ T → l.length ≤ 1000 := by
 intro l hl
 obtain ⟨j, hj, he⟩ := List.getElem_of_mem hl
 have := hk.row j hj
 rwa [List.getD_eq_getElem?_getD, List.getElem?_eq_getElem hj, Option.getD_some, he] at this
end Go.Proofs.Ytkmmihadcbfkoaa
end

section
namespace Go.Proofs.Ytkmmihadcbfkoaa
open Go.RowKit Go.Proofs.YtkmmihadcbfkoaaW.PrintWords Go.Proofs.YtkmmihadcbfkoaaW.PrintLast Go.Proofs.YtkmmihadcbfkoaaW.PrintMore PM
set_option linter.unusedVariables false
set_option linter.unusedSimpArgs false
/-- What Without, Barred and Fixed return: a board of their own. -/
def OwnPost (r : List Int × List S50 × List (List Int) × Int) (w : World) (e : Ending) (w' : World) : Prop :=
 ∃ v0 v1 v2 : Value, e = .returned (.tuple #[.agg #[v0, v1, v2], .int .i64 r.2.2.2]) ∧ Kd.R (Kd.int .i64) 3 w' w.heap.size (fun _ => True) v0 r.1 ∧ Kd.R k50 50 w' w.heap.size (fun _ => True) v1 r.2.1 ∧ Kd.S (Kd.slice 3 (Kd.int .i64)) 22 w' w.heap.size (fun k_ => some k_ ≠ (v0 : Value).ownBlock) v2 r.2.2.1 ∧ Below w.heap.size w w'
theorem R_box {α : Type} {d : Kd α} {e : Nat} {w : World} {base : Nat} {ok : Nat → Prop} {v : Value} {xs : List α} (h : Kd.R d e w base ok v xs) {g t : Nat} {cells : Array Value} (hb : w.heap[g]? = some (.cells cells t (0, 0))) (ht : ∀ q, q ∈ e :: d.E → q ≠ t) (i : Nat) (u : Value) : Kd.R d e (w.setCell ⟨g, i, none⟩ u) base ok v xs :=
 Kd.R_mono (Kd.R_far (p := ⟨g, i, none⟩) (Kd.R_types h hb ht) (fun _ hk => hk.2) u) (fun _ hk => hk.1)
theorem S_box {α : Type} {d : Kd α} {e : Nat} {w : World} {base : Nat} {ok : Nat → Prop} {v : Value} {xs : List α} (h : Kd.S d e w base ok v xs) {g t : Nat} {cells : Array Value} (hb : w.heap[g]? = some (.cells cells t (0, 0))) (ht : ∀ q, q ∈ e :: d.E → q ≠ t) (i : Nat) (u : Value) : Kd.S d e (w.setCell ⟨g, i, none⟩ u) base ok v xs :=
 Kd.S_mono (Kd.S_far (p := ⟨g, i, none⟩) (Kd.S_types h hb ht) (fun _ hk => hk.2) u) (fun _ hk => hk.1)
theorem kd_block {α : Type} {d : Kd α} {e : Nat} {w : World} {base : Nat} {ok : Nat → Prop} {g n c : Nat} {xs : List α} (h : Kd.R d e w base ok (.slice (some ⟨g, 0, none⟩) n c) xs) (hp : 0 < xs.length) : ∃ cells, w.heap[g]? = some (.cells cells e (0, 0)) := by
 obtain ⟨g', cap, he, _, _, cells, hc⟩ := Kd.R_form h hp
 injection he with h1
 injection h1 with h1
 injection h1 with h1
 subst h1
 exact ⟨cells, hc⟩
theorem ks_block {α : Type} {d : Kd α} {e : Nat} {w : World} {base : Nat} {ok : Nat → Prop} {g n c : Nat} {xs : List α} (h : Kd.S d e w base ok (.slice (some ⟨g, 0, none⟩) n c) xs) (hp : 0 < xs.length) : ∃ cells, w.heap[g]? = some (.cells cells e (0, 0)) := by
 obtain ⟨g', cap, he, _, _, cells, hc⟩ := Kd.S_form h hp
 injection he with h1
 injection h1 with h1
 injection h1 with h1
 subst h1
 exact ⟨cells, hc⟩
/-- A box of three slices written anew. -/
theorem own_put3 {w : World} {g : Nat} {a b c : Value} (h : w.heap[g]? = some (.cells #[a, b, c] 26 (0, 0))) (u0 u1 u2 : Value) :
  (((w.setCell ⟨g, 0, none⟩ u0).setCell ⟨g, 1, none⟩ u1).setCell ⟨g, 2, none⟩ u2).heap[g]? = some (.cells #[u0, u1, u2] 26 (0, 0)) :=
 blk_put (cs := #[u0, u1, c]) (blk_put (cs := #[u0, b, c]) (blk_put (cs := #[a, b, c]) h 0 u0 rfl) 1 u1 rfl) 2 u2 rfl
theorem own_box3R {α : Type} {d : Kd α} {e : Nat} {w : World} {base : Nat} {ok : Nat → Prop} {v : Value} {xs : List α} (h : Kd.R d e w base ok v xs) {g : Nat} {a b c : Value} (hb : w.heap[g]? = some (.cells #[a, b, c] 26 (0, 0))) (ht : ∀ q, q ∈ e :: d.E → q ≠ 26) (u0 u1 u2 : Value) :
  Kd.R d e (((w.setCell ⟨g, 0, none⟩ u0).setCell ⟨g, 1, none⟩ u1).setCell ⟨g, 2, none⟩ u2) base ok v xs :=
 R_box (R_box (R_box h hb ht 0 u0) (blk_put hb 0 u0 rfl) ht 1 u1) (blk_put (blk_put hb 0 u0 rfl) 1 u1 rfl) ht 2 u2
theorem own_box3S {α : Type} {d : Kd α} {e : Nat} {w : World} {base : Nat} {ok : Nat → Prop} {v : Value} {xs : List α} (h : Kd.S d e w base ok v xs) {g : Nat} {a b c : Value} (hb : w.heap[g]? = some (.cells #[a, b, c] 26 (0, 0))) (ht : ∀ q, q ∈ e :: d.E → q ≠ 26) (u0 u1 u2 : Value) :
  Kd.S d e (((w.setCell ⟨g, 0, none⟩ u0).setCell ⟨g, 1, none⟩ u1).setCell ⟨g, 2, none⟩ u2) base ok v xs :=
 S_box (S_box (S_box h hb ht 0 u0) (blk_put hb 0 u0 rfl) ht 1 u1) (blk_put (blk_put hb 0 u0 rfl) 1 u1 rfl) ht 2 u2
theorem own_box3B {B : Nat} {a w : World} (h : Below B a w) {g : Nat} (hg : B ≤ g) (u0 u1 u2 : Value) :
  Below B a (((w.setCell ⟨g, 0, none⟩ u0).setCell ⟨g, 1, none⟩ u1).setCell ⟨g, 2, none⟩ u2) :=
 setCell_below (setCell_below (setCell_below h hg _) hg _) hg _
def without_T5 : Bool × List (List Nat × List Nat) := (true, [([], []), ([0], [0]), ([], []), ([], []), ([3], [3]), ([1, 2, 4], [1, 2, 4]), ([], []), ([6], [6]), ([], []), ([], []), ([9], [9]), ([7, 8, 10, 5], [7, 8, 10]), ([0, 1, 2, 3, 4, 5, 6, 7], []), ([12, 5, 11, 0, 1, 2, 3, 4, 5, 6, 7], [5, 12]), ([0, 1, 2, 3, 4, 5, 6, 7, 8, 9, 10, 11, 12, 13], []), ([14, 11, 13, 0, 1, 2, 3, 4, 5, 6, 7, 8, 9, 10, 11, 12, 13], [11, 14])])
def without_B5 : List Nat := [0, 1, 0, 0, 8, 31, 0, 64, 0, 0, 512, 2047, 255, 8191, 16383, 32767]
theorem without_tab5 : rtab .any (opsOf Try.f41 5) = without_T5 := by kernel_rfl
theorem without_bits5 : waitsOk without_T5.2 without_B5 = true := by kernel_rfl
set_option maxRecDepth 100000 in
set_option maxHeartbeats 8000000 in
theorem without_calls (A0 : Option Addr) (c0 : Nat) (F : List Int) (A1 : Option Addr) (c1 : Nat) (S : List S50) (A2 : Option Addr) (c2 : Nat) (T : List (List Int)) (find : Int) (w : World)
  (hr0 : Kd.C (Kd.int .i64) w A0 F.length F) (hc0 : F.length ≤ c0) (hr1 : Kd.C k50 w A1 S.length S) (hc1 : S.length ≤ c1) (hr2 : Kd.C (Kd.slice 3 (Kd.int .i64)) w A2 T.length T) (hc2 : T.length ≤ c2) :
  Calls Try.prog 41 #[.agg #[.slice A0 F.length c0, .slice A1 S.length c1, .slice A2 T.length c2], .int .i64 find] w fun e w' => OwnPost (withoutP F S T find) w e w' := by
 have hB0 := (Below.refl w.heap.size w).alloc (Nat.le_refl _) (.cells #[.slice A0 F.length c0, .slice A1 S.length c1, .slice A2 T.length c2] 26)
 have CB := asked_boxed A0 c0 F A1 c1 S A2 c2 T find 0 false true _ (Kd.C_below hr0 hB0) hc0 (Kd.C_below hr1 hB0) (Kd.C_below hr2 hB0) (.cells #[.slice none 0 0, .slice none 0 0, .slice none 0 0] 26)
 rw [show (w.alloc (.cells #[.slice A0 F.length c0, .slice A1 S.length c1, .slice A2 T.length c2] 26)).heap.size = w.heap.size + 1 from by simp] at CB
 obtain ⟨q, hq⟩ : ∃ q, askB F S T find 0 false true = q := ⟨_, rfl⟩
 have hres : withoutP F S T find = if q = 0 then (F.eraseIdx find.toNat, S, T.eraseIdx find.toNat, 0) else ([], [], [], q) := by rw [← hq]; rfl
 obtain ⟨res, he⟩ : ∃ res, withoutP F S T find = res := ⟨_, rfl⟩
 rw [he]
 rw [he] at hres
 have HRES := Go.Lib.hid hres
 rw [hq] at CB
 have HB0 := Go.Lib.hid hB0
 have HR := Go.Lib.hid (And.intro hr0 (And.intro hc0 (And.intro hr1 (And.intro hc1 (And.intro hr2 hc2)))))
 have HQ := Go.Lib.hid hq
 clear hr0 hr1 hr2 hc0 hc1 hc2 hB0 hq hres he
 go_enter Try.func41, Try.ntmps41
 go_wp2_with fail
 refine CB.mono ?_
 clear CB
 rintro e w1 ⟨⟨rfl, hB1⟩, bS⟩
 have hW1 : Below w.heap.size w w1 := HB0.out.trans (hB1.mono HB0.out.size)
 have b1 : w1.heap[w.heap.size]? = some (.cells #[.slice A0 F.length c0, .slice A1 S.length c1, .slice A2 T.length c2] 26 (0, 0)) := by
  rw [hB1.block w.heap.size (by simp)]
  exact World.alloc_heap_new w _
 have k0 := cell_of_heap b1 (j := 0) rfl
 have k1 := cell_of_heap b1 (j := 1) rfl
 have k2 := cell_of_heap b1 (j := 2) rfl
 have HW1 := Go.Lib.hid hW1
 have BX1 := Go.Lib.hid (And.intro b1 bS)
 clear hB1 b1 bS hW1
 by_cases hq0 : q = 0
 rotate_left
 ·
  have z0 := cell_of_heap BX1.out.2 (j := 0) rfl
  have z1 := cell_of_heap BX1.out.2 (j := 1) rfl
  have z2 := cell_of_heap BX1.out.2 (j := 2) rfl
  have y0 := blk_frozen BX1.out.2 0
  have y1 := blk_frozen BX1.out.2 1
  have y2 := blk_frozen BX1.out.2 2
  have hbs : Below w.heap.size w (((w1.setCell ⟨w.heap.size + 1, 0, none⟩ (.slice none 0 0)).setCell ⟨w.heap.size + 1, 1, none⟩ (.slice none 0 0)).setCell ⟨w.heap.size + 1, 2, none⟩ (.slice none 0 0)) :=
   setCell_below (setCell_below (setCell_below HW1.out (Nat.le_succ _) _) (Nat.le_succ _) _) (Nat.le_succ _) _
  have HBS := Go.Lib.hid hbs
  clear hbs
  go_wp2_with fail
  refine bodyPost_ret (results_ct rfl _ _ (w.heap.size + 1) 26 #[.slice none 0 0, .slice none 0 0, .slice none 0 0] (0, 0) _ rfl (by refine blk_put (cs := #[.slice none 0 0, .slice none 0 0, .slice none 0 0]) ?_ 2 _ rfl; refine blk_put (cs := #[.slice none 0 0, .slice none 0 0, .slice none 0 0]) ?_ 1 _ rfl; refine blk_put (cs := #[.slice none 0 0, .slice none 0 0, .slice none 0 0]) ?_ 0 _ rfl; exact BX1.out.2) Try.underlying26 rfl (by kernel_rfl)) rfl ?_
  have hz := HRES.out
  rw [if_neg hq0] at hz
  subst hz
  exact ⟨_, _, _, rfl, Kd.R_nil _ _ _ _ _, Kd.R_nil _ _ _ _ _, Kd.S_nil _ _ _ _ _, HBS.out⟩
 subst hq0
 obtain ⟨hcb, hfd, _⟩ := ask_parts HQ.out
 have hfd := hfd rfl
 obtain ⟨fn, rfl⟩ := Int.eq_ofNat_of_zero_le hfd.1
 have hk := bok_of_check hcb
 have hnt := hk.nt
 have hnf := hk.nf
 have hns := hk.ns
 obtain ⟨KO, hKO⟩ := other_is (F := F) (S := S) (T := T) (by omega) (by omega) (by omega) (fun l hl => Nat.le_trans (rows_le hk l hl) (by decide))
 have CC := match_other.calls KO A0 c0 F A1 c1 S A2 c2 T _ _ _ w1 (Kd.C_below HR.out.1 HW1.out) HR.out.2.1 (Kd.C_below HR.out.2.2.1 HW1.out) HR.out.2.2.2.1 (Kd.C_below HR.out.2.2.2.2.1 HW1.out) HR.out.2.2.2.2.2 (hKO KO (Nat.le_refl _))
 have HK := Go.Lib.hid (And.intro hfd (And.intro hnt hnf))
 clear hKO hk hnt hnf hns hcb hfd
 go_wp2_with fail
 refine CC.mono ?_
 clear CC
 rintro e w2 ⟨v0, v1, v2, rfl, r0, r1, r2, hb2⟩
 obtain ⟨B0, d0, rfl⟩ := Kd.R_slice r0
 obtain ⟨B1, d1, rfl⟩ := Kd.R_slice r1
 have ⟨hfd, hnt, hnf⟩ := HK.out
 obtain ⟨g2, d2, e2, gb2, gl2, cl2, HG2⟩ := Kd.S_form r2 (by omega)
 obtain ⟨B2, rfl⟩ : ∃ B2, v2 = .slice B2 T.length d2 := ⟨_, e2⟩
 obtain rfl : B2 = some ⟨g2, 0, none⟩ := by injection e2
 clear e2
 obtain ⟨g0, rfl⟩ : ∃ g0, B0 = some ⟨g0, 0, none⟩ := by
  obtain ⟨inner, ho⟩ := Kd.R_own r0
  rcases ho.2 with ⟨e, hz⟩ | ⟨g, _, _, e, _⟩
  ·
   injection e with _ e _
   omega
  ·
   injection e with e1
   exact ⟨g, e1⟩
 have hW2 := HW1.out.trans (hb2.mono HW1.out.size)
 have bS2 := (hb2.block (w.heap.size + 1) (Array.getElem?_eq_some_iff.1 BX1.out.2).1).trans BX1.out.2
 have HR2 := Go.Lib.hid (And.intro r0 (And.intro r1 r2))
 have HW2 := Go.Lib.hid hW2
 have BX2 := Go.Lib.hid bS2
 have HZ := Go.Lib.hid hb2.size
 clear r0 r1 r2 hb2 hW2 bS2 k0 k1 k2 gb2 gl2 cl2 HG2 hfd hnt hnf
 have hlt : fn < F.length := by have := HK.out.1.2; omega
 have w20 := (wrap_pm (i := (fn : Int)) (by have := HK.out.2.2; omega) (by have := HK.out.2.2; omega)).1
 have s20 : IntKind.i64.wrap ((fn : Int) + 1) = (fn : Int) + 1 := (YtkmmihadcbfkoaaW.PrintLast.i64_w _).trans w20
 go_wp2_with fail
 obtain ⟨g3, hg3⟩ : ∃ g3, w2.heap.size = g3 := ⟨_, rfl⟩
 rw [hg3]
 obtain ⟨W3, hW3⟩ : ∃ W3, w2.alloc (.cells #[.slice (some ⟨g0, 0, none⟩) F.length d0, .slice B1 S.length d1, .slice (some ⟨g2, 0, none⟩) T.length d2] 26) = W3 := ⟨_, rfl⟩
 rw [hW3]
 have b3 : W3.heap[g3]? = some (.cells #[.slice (some ⟨g0, 0, none⟩) F.length d0, .slice B1 S.length d1, .slice (some ⟨g2, 0, none⟩) T.length d2] 26 (0, 0)) := by
  rw [← hW3, ← hg3]; exact World.alloc_heap_new w2 _
 have hs3 : w.heap.size ≤ W3.heap.size := by rw [← hW3]; exact Nat.le_trans HW2.out.size (by simp)
 have h0 : Kd.R (Kd.int .i64) 3 W3 w.heap.size (fun _ => True) (.slice (some ⟨g0, 0, none⟩) F.length d0) F := by
  rw [← hW3]; apply Kd.R_alloc; exact Kd.R_lower HR2.out.1 HW1.out.size
 have h1 : Kd.R k50 50 W3 w.heap.size (fun _ => True) (.slice B1 S.length d1) S := by
  rw [← hW3]; apply Kd.R_alloc; exact Kd.R_lower HR2.out.2.1 HW1.out.size
 have h2 : Kd.S (Kd.slice 3 (Kd.int .i64)) 22 W3 w.heap.size (fun k_ => some k_ ≠ (Value.slice (some ⟨g0, 0, none⟩) F.length d0).ownBlock) (.slice (some ⟨g2, 0, none⟩) T.length d2) T := by
  rw [← hW3]; apply Kd.S_alloc; exact Kd.S_lower HR2.out.2.2 HW1.out.size
 have hn0 : g0 ≠ g3 := by
  have hb := own_lt (Kd.own_of_R HR2.out.1) g0 rfl
  omega
 have hn2 : g2 ≠ g3 := by
  obtain ⟨inner, ho⟩ := Kd.S_own HR2.out.2.2
  have hb := own_lt ho g2 rfl
  omega
 have hn02 : g0 ≠ g2 := fun e => HR2.out.2.2.choose_spec.1 g2 rfl (by rw [e]; rfl)
 have hbw3 : Below w.heap.size w W3 := by rw [← hW3]; exact HW2.out.alloc HW2.out.size _
 have hg3s : w.heap.size ≤ g3 := by rw [← hg3]; exact HW2.out.size
 have hbs3 : W3.heap[w.heap.size + 1]? = some (.cells #[.slice none 0 0, .slice none 0 0, .slice none 0 0] 26 (0, 0)) := by
  rw [← hW3]; exact (((Below.refl w2.heap.size w2).alloc (Nat.le_refl _) _).block _ (Array.getElem?_eq_some_iff.1 BX2.out).1).trans BX2.out
 have hgs : g3 ≠ w.heap.size + 1 := by
  have := (Array.getElem?_eq_some_iff.1 BX2.out).1
  omega
 have hty0 := kd_block h0 (by omega)
 have hty2 := ks_block h2 (by have := HK.out.2.1; omega)
 have hr0 : g0 ≠ w.heap.size + 1 := fun e => by
  obtain ⟨cc, hh⟩ := hty0
  rw [e, hbs3] at hh
  injection hh with hh
  injection hh with _ h26
  exact absurd h26 (by decide)
 have hr2 : g2 ≠ w.heap.size + 1 := fun e => by
  obtain ⟨cc, hh⟩ := hty2
  rw [e, hbs3] at hh
  injection hh with hh
  injection hh with _ h26
  exact absurd h26 (by decide)
 have H3 := Go.Lib.hid (And.intro h0 (And.intro h1 (And.intro h2 (And.intro b3 (And.intro hs3 (And.intro hbw3 hbs3))))))
 have HN := Go.Lib.hid (And.intro hn0 (And.intro hn2 (And.intro hn02 (And.intro hg3s (And.intro hgs (And.intro hr0 hr2))))))
 clear hW3 hg3 b3 hs3 h0 h1 h2 hn0 hn2 hn02 hbw3 hg3s hbs3 hgs hr0 hr2 hty0 hty2 BX2 HW2 HR2 HZ
 refine start_ (n := 16) (S := fun w' => w'.heap[g3]? = some (.cells #[.slice (some ⟨g0, 0, none⟩) F.length d0, .slice B1 S.length d1, .slice (some ⟨g2, 0, none⟩) T.length d2] 26 (0, 0))) (ds := [13, 15]) #[false, false, false, false, false, false, false, false, false, false, false, false, false, false, false, false] (by kernel_rfl) rfl rfl H3.out.2.2.2.1 (fun hHeld => ?_); refine with_tabW without_tab5 without_bits5 (fun HT_ HW_ => ?_)
 have H4 := Go.Lib.hid (And.intro (Kd.R_drew H3.out.1) (And.intro (Kd.R_drew H3.out.2.1) (And.intro (Kd.S_drew H3.out.2.2.1) (And.intro (show w.heap.size ≤ W3.drew.heap.size from H3.out.2.2.2.2.1) (And.intro (below_drew1 H3.out.2.2.2.2.2.1) (show W3.drew.heap[w.heap.size + 1]? = _ from H3.out.2.2.2.2.2.2))))))
 clear H3
 generalize W3.drew = W4 at H4 hHeld ⊢
 refine pure_ (i := 0) (N := some 18) (v := ?_) (a' := ?_) #[true, false, false, false, false, false, false, false, false, false, false, false, false, false, false, false] rfl rfl (any_of HT_.out (by kernel_rfl)) (fun _ _ _ h => h) (Or.inl ⟨by rfl, ?_⟩) ?_ ?_
 rotate_left
 ·
  intro w'
  go_simp
  with_reducible rfl
 rotate_left
 ·
  simp only [Act.put, List.setIfInBounds_toArray, List.set_cons_zero, List.set_cons_succ, YtkmmihadcbfkoaaW.PrintLast.i64_w, w20]
  rfl
 refine pure_ (i := 2) (N := some 20) (v := ?_) (a' := ?_) #[true, false, true, false, false, false, false, false, false, false, false, false, false, false, false, false] rfl rfl (any_of HT_.out (by kernel_rfl)) (fun _ _ _ h => h) (Or.inl ⟨by rfl, ?_⟩) ?_ ?_
 rotate_left
 ·
  intro w'
  go_simp
  with_reducible rfl
 rotate_left
 ·
  simp only [Act.put, List.setIfInBounds_toArray, List.set_cons_zero, List.set_cons_succ, YtkmmihadcbfkoaaW.PrintLast.i64_w, w20]
  rfl
 refine pure_ (i := 3) (N := some 21) (v := ?_) (a' := ?_) #[true, false, true, true, false, false, false, false, false, false, false, false, false, false, false, false] rfl rfl (any_of HT_.out (by kernel_rfl)) (fun _ _ _ h => h) (Or.inl ⟨by rfl, ?_⟩) ?_ ?_
 rotate_left
 ·
  intro w'
  go_simp
  with_reducible rfl
 rotate_left
 ·
  simp only [Act.put, List.setIfInBounds_toArray, List.set_cons_zero, List.set_cons_succ, YtkmmihadcbfkoaaW.PrintLast.i64_w, w20]
  rfl
 refine pure_ (i := 4) (N := some 22) (v := ?_) (a' := ?_) #[true, false, true, true, true, false, false, false, false, false, false, false, false, false, false, false] rfl rfl (any_of HT_.out (by kernel_rfl)) (fun _ _ _ h => h) (Or.inl ⟨by rfl, ?_⟩) ?_ ?_
 rotate_left
 ·
  intro w'
  go_simp
  with_reducible rfl
 rotate_left
 ·
  simp only [Act.put, List.setIfInBounds_toArray, List.set_cons_zero, List.set_cons_succ, YtkmmihadcbfkoaaW.PrintLast.i64_w, w20]
  rfl
 refine pure_ (i := 6) (N := some 24) (v := ?_) (a' := ?_) #[true, false, true, true, true, false, true, false, false, false, false, false, false, false, false, false] rfl rfl (any_of HT_.out (by kernel_rfl)) (fun _ _ _ h => h) (Or.inl ⟨by rfl, ?_⟩) ?_ ?_
 rotate_left
 ·
  intro w'
  go_simp
  with_reducible rfl
 rotate_left
 ·
  simp only [Act.put, List.setIfInBounds_toArray, List.set_cons_zero, List.set_cons_succ, YtkmmihadcbfkoaaW.PrintLast.i64_w, w20]
  rfl
 refine pure_ (i := 8) (N := some 26) (v := ?_) (a' := ?_) #[true, false, true, true, true, false, true, false, true, false, false, false, false, false, false, false] rfl rfl (any_of HT_.out (by kernel_rfl)) (fun _ _ _ h => h) (Or.inl ⟨by rfl, ?_⟩) ?_ ?_
 rotate_left
 ·
  intro w'
  go_simp
  with_reducible rfl
 rotate_left
 ·
  simp only [Act.put, List.setIfInBounds_toArray, List.set_cons_zero, List.set_cons_succ, YtkmmihadcbfkoaaW.PrintLast.i64_w, w20]
  rfl
 refine pure_ (i := 9) (N := some 27) (v := ?_) (a' := ?_) #[true, false, true, true, true, false, true, false, true, true, false, false, false, false, false, false] rfl rfl (any_of HT_.out (by kernel_rfl)) (fun _ _ _ h => h) (Or.inl ⟨by rfl, ?_⟩) ?_ ?_
 rotate_left
 ·
  intro w'
  go_simp
  with_reducible rfl
 rotate_left
 ·
  simp only [Act.put, List.setIfInBounds_toArray, List.set_cons_zero, List.set_cons_succ, YtkmmihadcbfkoaaW.PrintLast.i64_w, w20]
  rfl
 refine pure_ (i := 10) (N := some 28) (v := ?_) (a' := ?_) #[true, false, true, true, true, false, true, false, true, true, true, false, false, false, false, false] rfl rfl (any_of HT_.out (by kernel_rfl)) (fun _ _ _ h => h) (Or.inl ⟨by rfl, ?_⟩) ?_ ?_
 rotate_left
 ·
  intro w'
  go_simp
  with_reducible rfl
 rotate_left
 ·
  simp only [Act.put, List.setIfInBounds_toArray, List.set_cons_zero, List.set_cons_succ, YtkmmihadcbfkoaaW.PrintLast.i64_w, w20]
  rfl
 refine take_ (i := 1) (N := some 19) (v := ?_) (a' := ?_) #[true, true, true, true, true, false, true, false, true, true, true, false, false, false, false, false] rfl rfl (take_ofW HT_.out HW_.out (by kernel_rfl)) (fun _ _ _ h => h) (Or.inl ⟨by rfl, ?_⟩) hHeld ?_ ?_
 rotate_left
 ·
  intro w' hs_
  have s0 := (blk_cell hs_ 0).trans rfl
  have s2 := (blk_cell hs_ 2).trans rfl
  go_simp
  with_reducible rfl
 rotate_left
 ·
  simp only [Act.put, List.setIfInBounds_toArray, List.set_cons_zero, List.set_cons_succ, YtkmmihadcbfkoaaW.PrintLast.i64_w, w20]
  rfl
 refine take_ (i := 7) (N := some 25) (v := ?_) (a' := ?_) #[true, true, true, true, true, false, true, true, true, true, true, false, false, false, false, false] rfl rfl (take_ofW HT_.out HW_.out (by kernel_rfl)) (fun _ _ _ h => h) (Or.inl ⟨by rfl, ?_⟩) hHeld ?_ ?_
 rotate_left
 ·
  intro w' hs_
  have s0 := (blk_cell hs_ 0).trans rfl
  have s2 := (blk_cell hs_ 2).trans rfl
  go_simp
  with_reducible rfl
 rotate_left
 ·
  simp only [Act.put, List.setIfInBounds_toArray, List.set_cons_zero, List.set_cons_succ, YtkmmihadcbfkoaaW.PrintLast.i64_w, w20]
  rfl
 refine one_ (i := 5) (N := some 23) #[true, true, true, true, true, true, true, true, true, true, true, false, false, false, false, false] rfl rfl (one_of HT_.out (by kernel_rfl)) (by decide) (fun K hK => ?_)
 refine goes_ Try.func77 (by kernel_rfl) rfl #[.slice (some ⟨g0, 0, none⟩) F.length d0, .int .i64 fn, .int .i64 ((fn : Int) + 1)] (by rfl) rfl rfl (by (try simp only [List.map_toArray, List.map_cons, List.map_nil]); first | done | rfl) ?_
 refine (delete_ints_calls g0 d0 w.heap.size (fun _ => True) F fn W4 H4.out.1 hlt H4.out.2.2.2.1).mono ?_
 rintro e w5 ⟨rfl, hR5, hG5, hB5⟩
 refine ⟨_, rfl, ?_⟩
 have hGs : ∀ k, k < W4.heap.size → k ≠ g0 → w5.heap[k]? = W4.heap[k]? := fun k hk hne => hG5.block k hk (fun e => hne (Option.some.inj e))
 have hs5 : w.heap.size ≤ w5.heap.size := Nat.le_trans H4.out.2.2.2.1 hG5.size
 have hH5 := (hGs g3 (blk_lt hHeld) (Ne.symm HN.out.1)).trans hHeld
 have hX5 := (hGs _ (blk_lt H4.out.2.2.2.2.2) (Ne.symm HN.out.2.2.2.2.2.1)).trans H4.out.2.2.2.2.2
 have hS5 := Kd.S_grown (Kd.S_drew H4.out.2.2.1) hG5 (fun k hk => hk)
 have hQ5 := Kd.R_over' (Kd.R_drew H4.out.2.1) (v := .slice (some ⟨g0, 0, none⟩) F.length d0) (e' := 3) (fun k hk => by obtain rfl : g0 = k := Option.some.inj hk; exact kd_block (Kd.R_drew H4.out.1) (by omega)) (by decide) hG5
 have H5 := Go.Lib.hid (And.intro hR5 (And.intro hQ5 (And.intro hS5 (And.intro hs5 (And.intro (H4.out.2.2.2.2.1.trans hB5) hX5)))))
 clear H4 hGs hs5 hX5 hS5 hQ5 hR5 hG5 hB5
 refine hK.out _ _ hH5 (fun hHeld => ?_)
 clear hK K hH5
 refine norm_ (a' := ?_) ?_ ?_
 rotate_left
 ·
  show Act.put _ (some 23) _ = _
  simp only [Act.put, List.setIfInBounds_toArray, List.set_cons_zero, List.set_cons_succ]
  rfl
 refine pure_ (i := 12) (N := some 30) (v := ?_) (a' := ?_) #[true, true, true, true, true, true, true, true, true, true, true, false, true, false, false, false] rfl rfl (any_of HT_.out (by kernel_rfl)) (fun _ _ _ h => h) (Or.inl ⟨by rfl, ?_⟩) ?_ ?_
 rotate_left
 ·
  intro w'
  go_simp
  with_reducible rfl
 rotate_left
 ·
  simp only [Act.put, List.setIfInBounds_toArray, List.set_cons_zero, List.set_cons_succ, YtkmmihadcbfkoaaW.PrintLast.i64_w, w20]
  rfl
 refine one_ (i := 11) (N := some 29) #[true, true, true, true, true, true, true, true, true, true, true, true, true, false, false, false] rfl rfl (one_of HT_.out (by kernel_rfl)) (by decide) (fun K hK => ?_)
 refine goes_ Try.func78 (by kernel_rfl) rfl #[.slice (some ⟨g2, 0, none⟩) T.length d2, .int .i64 fn, .int .i64 ((fn : Int) + 1)] (by rfl) rfl rfl (by (try simp only [List.map_toArray, List.map_cons, List.map_nil]); first | done | rfl) ?_
 refine (delete_rows_calls g2 d2 w.heap.size (fun k_ => some k_ ≠ (Value.slice (some ⟨g0, 0, none⟩) F.length d0).ownBlock) T fn w5 H5.out.2.2.1 (by rw [HK.out.2.1]; exact hlt) H5.out.2.2.2.1).mono ?_
 rintro e w6 ⟨rfl, hR6, hG6, hB6⟩
 refine ⟨_, rfl, ?_⟩
 have hGs : ∀ k, k < w5.heap.size → k ≠ g2 → w6.heap[k]? = w5.heap[k]? := fun k hk hne => hG6.block k hk (fun e => hne (Option.some.inj e))
 have hH6 := (hGs g3 (blk_lt hHeld) (Ne.symm HN.out.2.1)).trans hHeld
 have hX6 := (hGs _ (blk_lt H5.out.2.2.2.2.2) (Ne.symm HN.out.2.2.2.2.2.2)).trans H5.out.2.2.2.2.2
 have hP6 := Kd.R_grown2 (Kd.R_drew H5.out.1) rfl hG6 (fun k hk => by obtain rfl : g2 = k := Option.some.inj hk; exact fun e => HN.out.2.2.1 (Option.some.inj e).symm)
 have hQ6 := Kd.R_over' (Kd.R_drew H5.out.2.1) (v := .slice (some ⟨g2, 0, none⟩) T.length d2) (e' := 22) (fun k hk => by obtain rfl : g2 = k := Option.some.inj hk; exact ks_block (Kd.S_drew H5.out.2.2.1) (by rw [HK.out.2.1]; omega)) (by decide) hG6
 have H6 := Go.Lib.hid (And.intro hP6 (And.intro hQ6 (And.intro hR6 (And.intro (H5.out.2.2.2.2.1.trans hB6) hX6))))
 clear H5 hGs hX6 hQ6 hP6 hR6 hG6 hB6
 refine hK.out _ _ hH6 (fun hHeld => ?_)
 clear hK K hH6
 refine norm_ (a' := ?_) ?_ ?_
 rotate_left
 ·
  show Act.put _ (some 29) _ = _
  simp only [Act.put, List.setIfInBounds_toArray, List.set_cons_zero, List.set_cons_succ]
  rfl
 refine last_ (i := 13) (N := none) #[true, true, true, true, true, true, true, true, true, true, true, true, true, true, false, false] rfl rfl (one_of HT_.out (by kernel_rfl)) (by decide) (fun K hK => ?_)
 have hs_0 : w6.cell? ⟨g3, 0, none⟩ = some (.slice (some ⟨g0, 0, none⟩) F.length d0) := (blk_cell hHeld 0).trans rfl
 have hf_0 := blk_frozen hHeld 0
 refine skip_ (w1 := ?_) (by rfl) rfl ?_ ?_
 rotate_left
 ·
  go_simp
  rfl
 refine hK.out _ _ ?_
 clear hK K
 have hHeld7 := blk_put (cs := #[.slice (some ⟨g0, 0, none⟩) F.length d0, .slice B1 S.length d1, .slice (some ⟨g2, 0, none⟩) T.length d2]) hHeld 0 (.slice (some ⟨g0, 0, none⟩) (F.length - 1) d0) (cs' := #[.slice (some ⟨g0, 0, none⟩) (F.length - 1) d0, .slice B1 S.length d1, .slice (some ⟨g2, 0, none⟩) T.length d2]) rfl
 have H7 := Go.Lib.hid (And.intro (R_box H6.out.1 hHeld (by decide) 0 (.slice (some ⟨g0, 0, none⟩) (F.length - 1) d0)) (And.intro (R_box H6.out.2.1 hHeld (by decide) 0 (.slice (some ⟨g0, 0, none⟩) (F.length - 1) d0)) (And.intro (S_box H6.out.2.2.1 hHeld (by decide) 0 (.slice (some ⟨g0, 0, none⟩) (F.length - 1) d0)) (And.intro (setCell_below H6.out.2.2.2.1 (p := ⟨g3, 0, none⟩) HN.out.2.2.2.1 (.slice (some ⟨g0, 0, none⟩) (F.length - 1) d0)) (blk_far H6.out.2.2.2.2 (p := ⟨g3, 0, none⟩) (Ne.symm HN.out.2.2.2.2.1) (.slice (some ⟨g0, 0, none⟩) (F.length - 1) d0))))))
 clear H6 hs_0 hf_0 hHeld
 generalize w6.setCell ⟨g3, 0, none⟩ (.slice (some ⟨g0, 0, none⟩) (F.length - 1) d0) = w7 at H7 hHeld7 ⊢
 refine pure_ (i := 14) (N := some 31) (v := ?_) (a' := ?_) #[true, true, true, true, true, true, true, true, true, true, true, true, true, true, true, false] rfl rfl (any_of HT_.out (by kernel_rfl)) (fun _ _ _ h => h) (Or.inl ⟨by rfl, ?_⟩) ?_ ?_
 rotate_left
 ·
  intro w'
  go_simp
  with_reducible rfl
 rotate_left
 ·
  simp only [Act.put, List.setIfInBounds_toArray, List.set_cons_zero, List.set_cons_succ, YtkmmihadcbfkoaaW.PrintLast.i64_w, w20]
  rfl
 refine last_ (i := 15) (N := none) #[true, true, true, true, true, true, true, true, true, true, true, true, true, true, true, true] rfl rfl (one_of HT_.out (by kernel_rfl)) (by decide) (fun K hK => ?_)
 have hs_2 : w7.cell? ⟨g3, 2, none⟩ = some (.slice (some ⟨g2, 0, none⟩) T.length d2) := (blk_cell hHeld7 2).trans rfl
 have hf_2 := blk_frozen hHeld7 2
 refine skip_ (w1 := ?_) (by rfl) rfl ?_ ?_
 rotate_left
 ·
  go_simp
  rfl
 refine hK.out _ _ ?_
 clear hK K
 have hHeld8 := blk_put (cs := #[.slice (some ⟨g0, 0, none⟩) (F.length - 1) d0, .slice B1 S.length d1, .slice (some ⟨g2, 0, none⟩) T.length d2]) hHeld7 2 (.slice (some ⟨g2, 0, none⟩) (T.length - 1) d2) (cs' := #[.slice (some ⟨g0, 0, none⟩) (F.length - 1) d0, .slice B1 S.length d1, .slice (some ⟨g2, 0, none⟩) (T.length - 1) d2]) rfl
 have H8 := Go.Lib.hid (And.intro (R_box H7.out.1 hHeld7 (by decide) 2 (.slice (some ⟨g2, 0, none⟩) (T.length - 1) d2)) (And.intro (R_box H7.out.2.1 hHeld7 (by decide) 2 (.slice (some ⟨g2, 0, none⟩) (T.length - 1) d2)) (And.intro (S_box H7.out.2.2.1 hHeld7 (by decide) 2 (.slice (some ⟨g2, 0, none⟩) (T.length - 1) d2)) (And.intro (setCell_below H7.out.2.2.2.1 (p := ⟨g3, 2, none⟩) HN.out.2.2.2.1 (.slice (some ⟨g2, 0, none⟩) (T.length - 1) d2)) (blk_far H7.out.2.2.2.2 (p := ⟨g3, 2, none⟩) (Ne.symm HN.out.2.2.2.2.1) (.slice (some ⟨g2, 0, none⟩) (T.length - 1) d2))))))
 clear H7 hs_2 hf_2 hHeld7
 generalize w7.setCell ⟨g3, 2, none⟩ (.slice (some ⟨g2, 0, none⟩) (T.length - 1) d2) = w8 at H8 hHeld8 ⊢
 refine done_ (done_of HT_.out (by kernel_rfl)) ?_
 have q0 := (blk_cell hHeld8 0).trans rfl
 have q1 := (blk_cell hHeld8 1).trans rfl
 have q2 := (blk_cell hHeld8 2).trans rfl
 have z0 := (blk_cell H8.out.2.2.2.2 0).trans rfl
 have z1 := (blk_cell H8.out.2.2.2.2 1).trans rfl
 have z2 := (blk_cell H8.out.2.2.2.2 2).trans rfl
 have y0 := blk_frozen H8.out.2.2.2.2 0
 have y1 := blk_frozen H8.out.2.2.2.2 1
 have y2 := blk_frozen H8.out.2.2.2.2 2
 go_wp2_with fail
 refine bodyPost_ret (results_ct rfl _ _ (w.heap.size + 1) 26 #[.slice (some ⟨g0, 0, none⟩) (F.length - 1) d0, .slice B1 S.length d1, .slice (some ⟨g2, 0, none⟩) (T.length - 1) d2] (0, 0) _ rfl (own_put3 H8.out.2.2.2.2 _ _ _) Try.underlying26 rfl (by kernel_rfl)) rfl ?_
 have hz := HRES.out
 rw [if_pos trivial, show (fn : Int).toNat = fn from Int.toNat_natCast fn] at hz
 subst hz
 exact ⟨_, _, _, rfl, own_box3R H8.out.1 H8.out.2.2.2.2 (by decide) _ _ _, own_box3R H8.out.2.1 H8.out.2.2.2.2 (by decide) _ _ _, own_box3S H8.out.2.2.1 H8.out.2.2.2.2 (by decide) _ _ _, own_box3B H8.out.2.2.2.1 (Nat.le_succ _) _ _ _⟩
end Go.Proofs.Ytkmmihadcbfkoaa
end

section
namespace Go.Proofs
open Go.Shelf
def Try.laysDf_ren : Go.Shelf.Ren := ⟨fun | 6 => 91 | 10 => 80 | n => n, fun | 22 => 22 | 23 => 3 | 3 => 3 | 4 => 4 | 25 => 90 | 0 => 0 | n => n, fun | n => n⟩
theorem Try.laysDf : Go.Proofs.SlLaysH.n10 Try.prog Try.laysDf_ren := {
 mixed := by kernel_rfl
 f6 := ⟨"slices.IndexFunc[[]int,int]", by decide, Try.func91.trans (congrArg some (by kernel_rfl))⟩
 f10 := ⟨"slices.DeleteFunc[[]int,int]", by decide, Try.func80.trans (congrArg some (by kernel_rfl))⟩
 t0 := Try.underlying0
 a0 := Try.isAgg0
 z0 := Try.sizeOf0
 v0 := Try.zeroValue0
 t3 := Try.underlying3
 a3 := Try.isAgg3
 z3 := Try.sizeOf3
 v3 := Try.zeroValue3
 t4 := Try.underlying4
 a4 := Try.isAgg4
 z4 := Try.sizeOf4
 v4 := Try.zeroValue4
 t22 := Try.underlying22
 a22 := Try.isAgg22
 z22 := Try.sizeOf22
 v22 := Try.zeroValue22
 a23 := Try.isAgg3
 z23 := Try.sizeOf3
 t25 := Try.underlying90
 a25 := Try.isAgg90
 z25 := Try.sizeOf90
 v25 := Try.zeroValue90 }
end Go.Proofs
namespace Go.Proofs.Ytkmmihadcbfkoaa
open Go.RowKit Go.Sort Go.Shelf Go.Lib Go.Proofs.YtkmmihadcbfkoaaW.PrintWords
set_option linter.unusedVariables false
set_option linter.unusedSimpArgs false
theorem gives81 (slot x : Int) (B : Nat) (W : World) (hc : W.cell? ⟨B, 0, none⟩ = some (.int .i64 slot)) :
  FnGives Try.prog 81 #[.pointer (some ⟨B, 0, none⟩)] #[.int .i64 x] (.bool (decide (x = slot))) W := by
 show Calls Try.prog 81 #[.int .i64 x, .pointer (some ⟨B, 0, none⟩)] W _
 go_enter Try.func81, Try.ntmps81
 go_wp2
 all_goals (go_ret; refine ⟨?_, 0, rfl⟩; simp; rw [Bool.eq_iff_iff]; simp)
theorem pred81 (slot : Int) (B : Nat) (w : World) (hB : B < w.heap.size) (hcell : w.cell? ⟨B, 0, none⟩ = some (.int .i64 slot)) :
  PredAt Try.prog 81 #[.pointer (some ⟨B, 0, none⟩)] (Value.int .i64) (fun x => decide (x = slot)) w :=
 fun W x hb => gives81 slot x B W ((hb.cell (p := ⟨B, 0, none⟩) hB).trans hcell)
theorem over81 (slot : Int) (B blk off size : Nat) (w : World) (hB : B < w.heap.size) (hne : B ≠ blk) (hcell : w.cell? ⟨B, 0, none⟩ = some (.int .i64 slot)) :
  PredOver Try.prog 81 #[.pointer (some ⟨B, 0, none⟩)] (Value.int .i64) (fun x => decide (x = slot)) blk off size w :=
 fun n os dk x _ => gives81 slot x B _ (by
  unfold sortWorld
  rw [cell?_grow _ _ _ (by show B < (putRow _ _ _ _ _).heap.size; rw [size_putRow]; exact hB), cell?_putRow_other _ _ blk off _ _ (Or.inl hne)]
  exact hcell)
/-- A function value with which fitted may be called: what it makes of a row, in a later world. -/
def FitsAt (gf : Nat) (lb : Array Value) (fl : List Int → List Int) (w : World) : Prop :=
 ∀ (W : World) (oki : Nat → Prop) (g c : Nat) (row : List Int), Below w.heap.size w W → Kd.R (Kd.int .i64) 3 W w.heap.size oki (.slice (some ⟨g, 0, none⟩) row.length c) row → row.length ≤ 1000 →
  Calls Try.prog gf (#[.slice (some ⟨g, 0, none⟩) row.length c] ++ lb) W fun e w1 => ∃ v1, e = .returned v1 ∧ W.grownBy w1 (some g) ∧ Kd.R (Kd.int .i64) 3 w1 w.heap.size (fun k => oki k ∨ W.heap.size ≤ k) v1 (fl row)
theorem fits79 (slot : Int) (B : Nat) (w : World) (hB : B < w.heap.size) (hcell : w.cell? ⟨B, 0, none⟩ = some (.int .i64 slot)) :
  FitsAt 79 #[.pointer (some ⟨B, 0, none⟩)] (fun l => l.filter (fun s => decide (s ≠ slot))) w := by
 intro W oki g c row hb hR hl
 have hle := (List.length_filter_le (fun s => decide (s ≠ slot)) row)
 have hgl : w.heap.size ≤ g := Kd.R_base hR g rfl
 have hcW : W.cell? ⟨B, 0, none⟩ = some (.int .i64 slot) := (hb.cell (p := ⟨B, 0, none⟩) hB).trans hcell
 have hBW : B < W.heap.size := Nat.lt_of_lt_of_le hB hb.size
 have ho := Kd.own_of_R hR
 have hcap := (Kd.R_reads' hR).2.1
 have eg : ∀ args w, (callFunc 81 args).run Try.prog w = .ok (.enter 81 args) w := enters_of Try.func81 (by kernel_rfl) rfl
 have CD := AnyE.slices_DeleteFunc Try.laysDf (Value.int .i64) (fun _ => rfl) (fun x => decide (x = slot)) 81 #[.pointer (some ⟨B, 0, none⟩)] eg 0 Try.zeroValue3 g 0 c row.toArray W
  (pred81 slot B W hBW hcW) (over81 slot B g 0 _ W hBW (by omega) hcW) (own_holds (n := row.length) ho) (by simp; omega) (by simpa using hcap)
 change Calls Try.prog 80 _ _ _ at CD
 rw [show (row.toArray.toList.filter fun x => !decide (x = slot)) = row.filter (fun s => decide (s ≠ slot)) from by simp] at CD
 rw [show row.toArray.size = row.length from by simp] at CD
 have HX := Go.Lib.hid (And.intro hR (And.intro ho hle))
 clear hR ho hle hcW hcap hgl hBW hcell
 generalize hfl : row.filter (fun s => decide (s ≠ slot)) = fl at CD HX ⊢
 show Calls Try.prog 79 #[.slice (some ⟨g, 0, none⟩) row.length c, .pointer (some ⟨B, 0, none⟩)] W _
 go_enter Try.func79, Try.ntmps79
 go_wp2_with (go_at_call 80; refine CD.mono ?_; rintro e w1 ⟨rfl, q, rfl⟩)
 go_ret
 refine ⟨.slice (some ⟨g, 0, none⟩) fl.length c, rfl, ?_⟩
 have hle := HX.out.2.2
 have H := own_put HX.out.2.1 (fl ++ List.replicate (row.length - fl.length) 0).toArray (by simp; omega) q #[]
 rw [grow_empty] at H
 have H2 := own_shrink H.1 hle
 rw [List.map_append, List.take_append_of_le_length (by simp), List.take_of_length_le (by simp)] at H2
 subst hfl
 exact ⟨H.2, Kd.R_of_own H2 (fun k hk => Or.inl (HX.out.1.1 k hk))⟩
theorem fits65 (slot : Int) (B : Nat) (w : World) (hB : B < w.heap.size) (hcell : w.cell? ⟨B, 0, none⟩ = some (.int .i64 slot)) :
  FitsAt 65 #[.pointer (some ⟨B, 0, none⟩)] (fun _ => [slot]) w := by
 intro W oki g c row hb hR hl
 have hcW : W.cell? ⟨B, 0, none⟩ = some (.int .i64 slot) := (hb.cell (p := ⟨B, 0, none⟩) hB).trans hcell
 have hsz := hb.size
 clear hR
 show Calls Try.prog 65 #[.slice (some ⟨g, 0, none⟩) row.length c, .pointer (some ⟨B, 0, none⟩)] W _
 go_enter Try.func65, Try.ntmps65
 go_wp2
 go_ret
 have ho : (W.alloc (.cells #[.int .i64 slot] 3)).ownsRow w.heap.size 3 1 (.slice (some ⟨W.heap.size, 0, none⟩) 1 1) 1 [.int .i64 slot] :=
  ⟨rfl, .inr ⟨W.heap.size, 1, #[.int .i64 slot], rfl, hsz, World.alloc_heap_new W _, by decide, by decide, rfl, rfl⟩⟩
 exact ⟨.slice (some ⟨W.heap.size, 0, none⟩) 1 1, rfl, grown_of_below ((Below.refl _ _).alloc (Nat.le_refl _) _) _, Kd.R_of_own (xs := [slot]) ho (fun k hk => Or.inr (Nat.le_of_eq (Option.some.inj hk)))⟩
end Go.Proofs.Ytkmmihadcbfkoaa
end

section
namespace Go.Proofs.Ytkmmihadcbfkoaa
open Go.RowKit Go.Proofs.YtkmmihadcbfkoaaW.PrintWords Go.Proofs.YtkmmihadcbfkoaaW.PrintLast Go.Proofs.YtkmmihadcbfkoaaW.PrintMore PM
set_option linter.unusedVariables false
set_option linter.unusedSimpArgs false
def fitted_T7 : Bool × List (List Nat × List Nat) := (true, [([], []), ([0], [0]), ([], []), ([], []), ([], []), ([4], [4]), ([], []), ([5, 6], [5, 6]), ([7], [7]), ([3, 8], [3, 8]), ([1, 2, 0, 1, 2, 3, 4, 5, 6, 7, 8, 9], [1, 2]), ([10, 9, 9, 0, 1, 2, 3, 4, 5, 6, 7, 8, 9], [9, 10])])
def fitted_B7 : List Nat := [0, 1, 0, 0, 0, 16, 0, 112, 240, 504, 1023, 2047]
theorem fitted_tab7 : rtab .any (opsOf Try.f64 7) = fitted_T7 := by kernel_rfl
theorem fitted_bits7 : waitsOk fitted_T7.2 fitted_B7 = true := by kernel_rfl
/-- A call of a function value, by its contract. -/
theorem goesv_ {P : Program} {ops : Array Oper} {Q : Exit → Act → World → Prop} {oi : Oper} {N : Option Tmp} {a : Act} {w : World} {K : Act → World → Prop} {f : FuncId} {lb : Array Value} {t : Tmp} {as_ : Array Operand} {ts : Array TypeId} (he : ∀ args w, (callFunc f args).run P w = .ok (.enter f args) w) (args : Array Value)
  (hw : Region.wanted oi (yielded ops a.tmps) = true) (hN : oi.dst = N) (hop : oi.op = .call { callee := .value (.tmp t), args := as_, argTypes := ts }) (hv : a.eval (.tmp t) = .func (.func f) #[] lb) (hargs : as_.map a.eval = args)
  (h : Calls P f (args ++ lb) w fun e w' => ∃ v, e = .returned v ∧ K (a.put N v) w') : if Region.wanted oi (yielded ops a.tmps) = true then Oper.wp P oi a w K Q else K (a.put N undef) w := by
 refine call_ f (args ++ lb) hw hN ?_ h
 unfold execOp
 simp [hop, resolve, Deferred.ofValue, invoke, hv, hargs, he]
set_option maxRecDepth 100000 in
set_option maxHeartbeats 8000000 in
theorem fitted_calls (A0 : Option Addr) (c0 : Nat) (F : List Int) (A1 : Option Addr) (c1 : Nat) (S : List S50) (A2 : Option Addr) (c2 : Nat) (T : List (List Int)) (find slot : Int) (gf : Nat) (lb : Array Value) (fl : List Int → List Int) (w : World)
  (hr0 : Kd.C (Kd.int .i64) w A0 F.length F) (hc0 : F.length ≤ c0) (hr1 : Kd.C k50 w A1 S.length S) (hc1 : S.length ≤ c1) (hr2 : Kd.C (Kd.slice 3 (Kd.int .i64)) w A2 T.length T) (hc2 : T.length ≤ c2)
  (hfa : FitsAt gf lb fl w) (hent : ∀ args w, (callFunc gf args).run Try.prog w = .ok (.enter gf args) w) :
  Calls Try.prog 64 #[.agg #[.slice A0 F.length c0, .slice A1 S.length c1, .slice A2 T.length c2], .int .i64 find, .int .i64 slot, .func (.func gf) #[] lb] w fun e w' => OwnPost (fittedP F S T find slot fl) w e w' := by
 have hB0 := ((Below.refl w.heap.size w).alloc (Nat.le_refl _) (.cells #[.slice A0 F.length c0, .slice A1 S.length c1, .slice A2 T.length c2] 26)).alloc (by simp) (.cells #[.slice none 0 0, .slice none 0 0, .slice none 0 0] 26)
 have CB := both_calls A0 c0 F A1 c1 S A2 c2 T find slot _ (Kd.C_below hr0 hB0) hc0 (Kd.C_below hr1 hB0) (Kd.C_below hr2 hB0)
 obtain ⟨q, hq⟩ : ∃ q, askB F S T find slot false false = q := ⟨_, rfl⟩
 have hres : fittedP F S T find slot fl = if q = 0 then (if slot ∈ T.getD find.toNat [] then (F, S, T.set find.toNat (fl (T.getD find.toNat [])), 0) else ([], [], [], 5)) else ([], [], [], q) := by rw [← hq]; rfl
 obtain ⟨res, he⟩ : ∃ res, fittedP F S T find slot fl = res := ⟨_, rfl⟩
 rw [he]
 rw [he] at hres
 have HRES := Go.Lib.hid hres
 rw [hq] at CB
 have HB0 := Go.Lib.hid hB0
 have HR := Go.Lib.hid (And.intro hr0 (And.intro hc0 (And.intro hr1 (And.intro hc1 (And.intro hr2 hc2)))))
 have HQ := Go.Lib.hid hq
 have HFA := Go.Lib.hid (And.intro hfa hent)
 clear hr0 hr1 hr2 hc0 hc1 hc2 hB0 hq hres he hfa hent
 go_enter Try.func64, Try.ntmps64
 go_wp2_with fail
 refine CB.mono ?_
 clear CB
 rintro e w1 ⟨rfl, hB1⟩
 have hW1 : Below w.heap.size w w1 := HB0.out.trans (hB1.mono HB0.out.size)
 have b1 : w1.heap[w.heap.size]? = some (.cells #[.slice A0 F.length c0, .slice A1 S.length c1, .slice A2 T.length c2] 26 (0, 0)) := by
  rw [hB1.block w.heap.size (by simp; omega)]
  exact (((Below.refl _ (w.alloc (.cells #[.slice A0 F.length c0, .slice A1 S.length c1, .slice A2 T.length c2] 26))).alloc (Nat.le_refl _) _).block w.heap.size (by simp)).trans (World.alloc_heap_new w _)
 have bS : w1.heap[w.heap.size + 1]? = some (.cells #[.slice none 0 0, .slice none 0 0, .slice none 0 0] 26 (0, 0)) := by
  rw [hB1.block (w.heap.size + 1) (by simp)]
  have := World.alloc_heap_new (w.alloc (.cells #[.slice A0 F.length c0, .slice A1 S.length c1, .slice A2 T.length c2] 26)) (.cells #[.slice none 0 0, .slice none 0 0, .slice none 0 0] 26)
  rwa [show (w.alloc (.cells #[.slice A0 F.length c0, .slice A1 S.length c1, .slice A2 T.length c2] 26)).heap.size = w.heap.size + 1 from by simp] at this
 have k0 := cell_of_heap b1 (j := 0) rfl
 have k1 := cell_of_heap b1 (j := 1) rfl
 have k2 := cell_of_heap b1 (j := 2) rfl
 have HW1 := Go.Lib.hid hW1
 have BX1 := Go.Lib.hid (And.intro b1 bS)
 clear hB1 b1 bS hW1
 by_cases hq0 : q = 0
 case neg =>
  have z0 := cell_of_heap BX1.out.2 (j := 0) rfl
  have z1 := cell_of_heap BX1.out.2 (j := 1) rfl
  have z2 := cell_of_heap BX1.out.2 (j := 2) rfl
  have y0 := blk_frozen BX1.out.2 0
  have y1 := blk_frozen BX1.out.2 1
  have y2 := blk_frozen BX1.out.2 2
  go_wp2_with fail
  refine bodyPost_ret (results_ct rfl _ _ (w.heap.size + 1) 26 #[.slice none 0 0, .slice none 0 0, .slice none 0 0] (0, 0) _ rfl (own_put3 BX1.out.2 _ _ _) Try.underlying26 rfl (by kernel_rfl)) rfl ?_
  have hz := HRES.out
  rw [if_neg hq0] at hz
  subst hz
  exact ⟨_, _, _, rfl, Kd.R_nil _ _ _ _ _, Kd.R_nil _ _ _ _ _, Kd.S_nil _ _ _ _ _, own_box3B HW1.out (Nat.le_succ _) _ _ _⟩
 case pos =>
  subst hq0
  obtain ⟨hcb, hfd, _⟩ := ask_parts HQ.out
  obtain ⟨hfd0, hfd1⟩ := hfd rfl
  have hk := bok_of_check hcb
  have hfd2 : find < (T.length : Int) := by rw [hk.nt]; exact hfd1
  have hnt := hk.nt
  have hnf := hk.nf
  have hns := hk.ns
  have hz := HRES.out
  rw [if_pos rfl] at hz
  have HRES1 := Go.Lib.hid hz
  clear HRES hz
  obtain ⟨KO, hKO⟩ := other_is (F := F) (S := S) (T := T) (by omega) (by omega) (by omega) (fun l hl => Nat.le_trans (rows_le hk l hl) (by decide))
  have HKO := Go.Lib.hid (hKO KO (Nat.le_refl _))
  have HK := Go.Lib.hid (And.intro hfd1 (And.intro hnt (And.intro hnf (hk.row find.toNat (by omega)))))
  clear hKO hk hnt hnf hns hcb hfd
  obtain ⟨a, Ar, cr, e2, hx, hlc, hC⟩ := rows_at (Kd.C_below HR.out.2.2.2.2.1 HW1.out) find hfd0 hfd2
  obtain ⟨row, hrw⟩ : ∃ row, T.getD find.toNat [] = row := ⟨_, rfl⟩
  rw [hrw] at hx hlc hC
  have hres2 := HRES1.out
  rw [hrw] at hres2
  have HRES2 := Go.Lib.hid hres2
  clear HRES1
  have HRW := Go.Lib.hid hrw
  have CC := contains_calls Ar cr row slot w1 hC hlc
  have e2' := e2
  clear hres2 hrw hC e2
  subst e2'
  go_wp2_with fail
  refine CC.mono ?_
  clear CC
  rintro e w2 ⟨rfl, hd⟩
  have hW2 := HW1.out.trans (hd.below.mono HW1.out.size)
  have b2 := (hd.below.block w.heap.size (Array.getElem?_eq_some_iff.1 BX1.out.1).1).trans BX1.out.1
  have bS2 := (hd.below.block (w.heap.size + 1) (Array.getElem?_eq_some_iff.1 BX1.out.2).1).trans BX1.out.2
  have k0 := cell_of_heap b2 (j := 0) rfl
  have k1 := cell_of_heap b2 (j := 1) rfl
  have k2 := cell_of_heap b2 (j := 2) rfl
  have HW2 := Go.Lib.hid hW2
  have BX2 := Go.Lib.hid bS2
  clear hW2 b2 bS2 hd hx hlc HW1 BX1
  by_cases hin : slot ∈ row
  case neg =>
   rw [decide_eq_false hin]
   have z0 := cell_of_heap BX2.out (j := 0) rfl
   have z1 := cell_of_heap BX2.out (j := 1) rfl
   have z2 := cell_of_heap BX2.out (j := 2) rfl
   have y0 := blk_frozen BX2.out 0
   have y1 := blk_frozen BX2.out 1
   have y2 := blk_frozen BX2.out 2
   go_wp2_with fail
   refine bodyPost_ret (results_ct rfl _ _ (w.heap.size + 1) 26 #[.slice none 0 0, .slice none 0 0, .slice none 0 0] (0, 0) _ rfl (own_put3 BX2.out _ _ _) Try.underlying26 rfl (by kernel_rfl)) rfl ?_
   have hz := HRES2.out
   rw [if_neg hin] at hz
   subst hz
   exact ⟨_, _, _, rfl, Kd.R_nil _ _ _ _ _, Kd.R_nil _ _ _ _ _, Kd.S_nil _ _ _ _ _, own_box3B HW2.out (Nat.le_succ _) _ _ _⟩
  case pos =>
  rw [decide_eq_true hin]
  have hz := HRES2.out
  rw [if_pos hin] at hz
  have HRES3 := Go.Lib.hid hz
  have hrp : 0 < row.length := List.length_pos_of_mem hin
  clear hz hin HRES2
  have CC := match_other.calls KO A0 c0 F A1 c1 S (some a) c2 T _ _ _ w2 (Kd.C_below HR.out.1 HW2.out) HR.out.2.1 (Kd.C_below HR.out.2.2.1 HW2.out) HR.out.2.2.2.1 (Kd.C_below HR.out.2.2.2.2.1 HW2.out) HR.out.2.2.2.2.2 HKO.out
  go_wp2_with fail
  refine CC.mono ?_
  clear CC
  rintro e w3 ⟨v0, v1, v2, rfl, r0, r1, r2, hb3⟩
  obtain ⟨B0, d0, rfl⟩ := Kd.R_slice r0
  obtain ⟨B1, d1, rfl⟩ := Kd.R_slice r1
  obtain ⟨g2, d2, e2, gb2, gl2, cl2, HG2⟩ := Kd.S_form r2 (by omega)
  obtain ⟨B2, rfl⟩ : ∃ B2, v2 = .slice B2 T.length d2 := ⟨_, e2⟩
  obtain rfl : B2 = some ⟨g2, 0, none⟩ := by injection e2
  clear e2 gb2 gl2 cl2 HG2 k0 k1 k2
  have hW3 := HW2.out.trans (hb3.mono HW2.out.size)
  have bS3 := (hb3.block (w.heap.size + 1) (Array.getElem?_eq_some_iff.1 BX2.out).1).trans BX2.out
  have HR3 := Go.Lib.hid (And.intro (Kd.R_lower r0 HW2.out.size) (And.intro (Kd.R_lower r1 HW2.out.size) (Kd.S_lower r2 HW2.out.size)))
  have HW3 := Go.Lib.hid hW3
  have BX3 := Go.Lib.hid bS3
  clear r0 r1 r2 hb3 hW3 bS3 HW2 BX2 HKO
  go_wp2_with fail
  obtain ⟨g3, hg3⟩ : ∃ g3, w3.heap.size = g3 := ⟨_, rfl⟩
  rw [hg3]
  obtain ⟨W3, hW3⟩ : ∃ W3, w3.alloc (.cells #[.slice B0 F.length d0, .slice B1 S.length d1, .slice (some ⟨g2, 0, none⟩) T.length d2] 26) = W3 := ⟨_, rfl⟩
  rw [hW3]
  have b3 : W3.heap[g3]? = some (.cells #[.slice B0 F.length d0, .slice B1 S.length d1, .slice (some ⟨g2, 0, none⟩) T.length d2] 26 (0, 0)) := by
   rw [← hW3, ← hg3]; exact World.alloc_heap_new w3 _
  have hs3 : w.heap.size ≤ W3.heap.size := by rw [← hW3]; exact Nat.le_trans HW3.out.size (by simp)
  have h0 : Kd.R (Kd.int .i64) 3 W3 w.heap.size (fun _ => True) (.slice B0 F.length d0) F := by
   rw [← hW3]; apply Kd.R_alloc; exact HR3.out.1
  have h1 : Kd.R k50 50 W3 w.heap.size (fun _ => True) (.slice B1 S.length d1) S := by
   rw [← hW3]; apply Kd.R_alloc; exact HR3.out.2.1
  have h2 : Kd.S (Kd.slice 3 (Kd.int .i64)) 22 W3 w.heap.size (fun k_ => some k_ ≠ (Value.slice B0 F.length d0).ownBlock) (.slice (some ⟨g2, 0, none⟩) T.length d2) T := by
   rw [← hW3]; apply Kd.S_alloc; exact HR3.out.2.2
  have hn2 : g2 ≠ g3 := by
   have hb := Kd.S_lt HR3.out.2.2 g2 rfl
   omega
  have hbw3 : Below w.heap.size w W3 := by rw [← hW3]; exact HW3.out.alloc HW3.out.size _
  have hg3s : w.heap.size ≤ g3 := by rw [← hg3]; exact HW3.out.size
  have hbs3 : W3.heap[w.heap.size + 1]? = some (.cells #[.slice none 0 0, .slice none 0 0, .slice none 0 0] 26 (0, 0)) := by
   rw [← hW3]; exact (((Below.refl w3.heap.size w3).alloc (Nat.le_refl _) _).block _ (Array.getElem?_eq_some_iff.1 BX3.out).1).trans BX3.out
  have hgs : g3 ≠ w.heap.size + 1 := by
   have := (Array.getElem?_eq_some_iff.1 BX3.out).1
   omega
  have hty2 := ks_block h2 (by have := HK.out.2.1; omega)
  have hr2 : g2 ≠ w.heap.size + 1 := fun e => by
   obtain ⟨cc, hh⟩ := hty2
   rw [e, hbs3] at hh
   injection hh with hh
   injection hh with _ h26
   exact absurd h26 (by decide)
  obtain ⟨oki, ce, hcl, hM, hcc, hfr, hoki, hH⟩ := Kd.S_elem (Kd.S_bound (Kd.S_drew h2)) [] find hfd0 hfd2
  obtain ⟨ur, rfl, hU⟩ : ∃ ur, ce = [ur] ∧ Kd.R (Kd.int .i64) 3 W3.drew w.heap.size oki ur (T.getD find.toNat []) := hM
  rw [HRW.out] at hU
  obtain ⟨Bu, du, rfl⟩ := Kd.R_slice hU
  obtain ⟨gu, du', eu, _, hgul, _⟩ := Kd.R_form hU hrp
  obtain rfl : Bu = some ⟨gu, 0, none⟩ := by injection eu
  obtain rfl : du = du' := by injection eu
  clear eu
  have hcu : W3.drew.cell? ⟨g2, find.toNat, none⟩ = some (.slice (some ⟨gu, 0, none⟩) row.length du) := by
   have := hcc 0 _ rfl
   simpa [Kd.slice] using this
  have hgu2 : gu ≠ g2 := (hoki gu (hU.1 gu rfl)).2
  have hgu0 : some gu ≠ (Value.slice B0 F.length d0).ownBlock := (hoki gu (hU.1 gu rfl)).1.1
  have hM1 : ∀ k, k < W3.heap.size → some k ≠ (Value.slice B0 F.length d0).ownBlock → True := fun _ _ _ => trivial
  have H3 := Go.Lib.hid (And.intro h0 (And.intro h1 (And.intro hs3 (And.intro hbw3 (And.intro hbs3 (And.intro b3 (And.intro (Kd.S_lt h2 g2 rfl) hty2)))))))
  have HN := Go.Lib.hid (And.intro hn2 (And.intro hg3s (And.intro hgs (And.intro hr2 (And.intro hgu2 hgu0)))))
  have HH := Go.Lib.hid (And.intro hU (And.intro hH (And.intro hoki hfr)))
  have HC := Go.Lib.hid hcu
  clear hW3 hg3 b3 hs3 h0 h1 h2 hn2 hbw3 hg3s hbs3 hgs hr2 hty2 BX3 HW3 HR3 hcl hcc hfr hoki hH hU hgul hgu2 hgu0 hM1 hcu
  have t1 : 0 + find.toNat = find.toNat := Nat.zero_add _
  refine start_ (n := 12) (S := fun w' => w'.heap[g3]? = some (.cells #[.slice B0 F.length d0, .slice B1 S.length d1, .slice (some ⟨g2, 0, none⟩) T.length d2] 26 (0, 0)) ∧ w'.cell? ⟨g2, find.toNat, none⟩ = some (.slice (some ⟨gu, 0, none⟩) row.length du)) (ds := [11]) #[false, false, false, false, false, false, false, false, false, false, false, false] (by kernel_rfl) rfl rfl ⟨H3.out.2.2.2.2.2.1, HC.out⟩ (fun hHeld => ?_); refine with_tabW fitted_tab7 fitted_bits7 (fun HT_ HW_ => ?_)
  have H4 := Go.Lib.hid (And.intro (Kd.R_drew H3.out.1) (And.intro (Kd.R_drew H3.out.2.1) (And.intro (show w.heap.size ≤ W3.drew.heap.size from H3.out.2.2.1) (And.intro (below_drew1 H3.out.2.2.2.1) (And.intro (show W3.drew.heap[w.heap.size + 1]? = _ from H3.out.2.2.2.2.1) (And.intro (show g2 < W3.drew.heap.size from H3.out.2.2.2.2.2.2.1) (show ∃ cells, W3.drew.heap[g2]? = some (.cells cells 22 (0, 0)) from H3.out.2.2.2.2.2.2.2)))))))
  clear H3 HC
  generalize W3.drew = W4 at H4 HH hHeld ⊢
  refine pure_ (i := 0) (N := some 31) (v := ?_) (a' := ?_) #[true, false, false, false, false, false, false, false, false, false, false, false] rfl rfl (any_of HT_.out (by kernel_rfl)) (fun _ _ _ h => h) (Or.inl ⟨by rfl, ?_⟩) ?_ ?_
  rotate_left
  ·
   intro w'
   go_simp
   with_reducible rfl
  rotate_left
  ·
   simp only [Act.put, List.setIfInBounds_toArray, List.set_cons_zero, List.set_cons_succ]
   rfl
  refine pure_ (i := 2) (N := some 33) (v := ?_) (a' := ?_) #[true, false, true, false, false, false, false, false, false, false, false, false] rfl rfl (any_of HT_.out (by kernel_rfl)) (fun _ _ _ h => h) (Or.inl ⟨by rfl, ?_⟩) ?_ ?_
  rotate_left
  ·
   intro w'
   go_simp
   with_reducible rfl
  rotate_left
  ·
   simp only [Act.put, List.setIfInBounds_toArray, List.set_cons_zero, List.set_cons_succ]
   rfl
  refine pure_ (i := 3) (N := some 34) (v := ?_) (a' := ?_) #[true, false, true, true, false, false, false, false, false, false, false, false] rfl rfl (any_of HT_.out (by kernel_rfl)) (fun _ _ _ h => h) (Or.inl ⟨by rfl, ?_⟩) ?_ ?_
  rotate_left
  ·
   intro w'
   go_simp
   with_reducible rfl
  rotate_left
  ·
   simp only [Act.put, List.setIfInBounds_toArray, List.set_cons_zero, List.set_cons_succ]
   rfl
  refine pure_ (i := 4) (N := some 35) (v := ?_) (a' := ?_) #[true, false, true, true, true, false, false, false, false, false, false, false] rfl rfl (any_of HT_.out (by kernel_rfl)) (fun _ _ _ h => h) (Or.inl ⟨by rfl, ?_⟩) ?_ ?_
  rotate_left
  ·
   intro w'
   go_simp
   with_reducible rfl
  rotate_left
  ·
   simp only [Act.put, List.setIfInBounds_toArray, List.set_cons_zero, List.set_cons_succ]
   rfl
  refine pure_ (i := 6) (N := some 37) (v := ?_) (a' := ?_) #[true, false, true, true, true, false, true, false, false, false, false, false] rfl rfl (any_of HT_.out (by kernel_rfl)) (fun _ _ _ h => h) (Or.inl ⟨by rfl, ?_⟩) ?_ ?_
  rotate_left
  ·
   intro w'
   go_simp
   with_reducible rfl
  rotate_left
  ·
   simp only [Act.put, List.setIfInBounds_toArray, List.set_cons_zero, List.set_cons_succ]
   rfl
  refine take_ (i := 1) (N := some 32) (v := ?_) (a' := ?_) #[true, true, true, true, true, false, true, false, false, false, false, false] rfl rfl (take_ofW HT_.out HW_.out (by kernel_rfl)) (fun _ _ _ h => h) (Or.inl ⟨by rfl, ?_⟩) hHeld ?_ ?_
  rotate_left
  ·
   intro w' hs_
   have s2 := (blk_cell hs_.1 2).trans rfl
   have s3 := hs_.2
   go_simp
   with_reducible rfl
  rotate_left
  ·
   simp only [Act.put, List.setIfInBounds_toArray, List.set_cons_zero, List.set_cons_succ]
   rfl
  refine take_ (i := 5) (N := some 36) (v := ?_) (a' := ?_) #[true, true, true, true, true, true, true, false, false, false, false, false] rfl rfl (take_ofW HT_.out HW_.out (by kernel_rfl)) (fun _ _ _ h => h) (Or.inl ⟨by rfl, ?_⟩) hHeld ?_ ?_
  rotate_left
  ·
   intro w' hs_
   have s2 := (blk_cell hs_.1 2).trans rfl
   have s3 := hs_.2
   go_simp
   with_reducible rfl
  rotate_left
  ·
   simp only [Act.put, List.setIfInBounds_toArray, List.set_cons_zero, List.set_cons_succ]
   rfl
  refine pure_ (i := 7) (N := some 38) (v := ?_) (a' := ?_) #[true, true, true, true, true, true, true, true, false, false, false, false] rfl rfl (any_of HT_.out (by kernel_rfl)) (fun _ _ _ h => h) (Or.inl ⟨by rfl, ?_⟩) ?_ ?_
  rotate_left
  ·
   intro w'
   go_simp
   with_reducible rfl
  rotate_left
  ·
   simp only [Act.put, List.setIfInBounds_toArray, List.set_cons_zero, List.set_cons_succ]
   rfl
  refine take_ (i := 8) (N := some 39) (v := ?_) (a' := ?_) #[true, true, true, true, true, true, true, true, true, false, false, false] rfl rfl (take_ofW HT_.out HW_.out (by kernel_rfl)) (fun _ _ _ h => h) (Or.inl ⟨by rfl, ?_⟩) hHeld ?_ ?_
  rotate_left
  ·
   intro w' hs_
   have s2 := (blk_cell hs_.1 2).trans rfl
   have s3 := hs_.2
   go_simp
   with_reducible rfl
  rotate_left
  ·
   simp only [Act.put, List.setIfInBounds_toArray, List.set_cons_zero, List.set_cons_succ]
   rfl
  refine one_ (i := 9) (N := some 40) #[true, true, true, true, true, true, true, true, true, true, false, false] rfl rfl (one_of HT_.out (by kernel_rfl)) (by decide) (fun K hK => ?_)
  refine goesv_ HFA.out.2 #[.slice (some ⟨gu, 0, none⟩) row.length du] (by rfl) rfl rfl rfl (by (try simp only [List.map_toArray, List.map_cons, List.map_nil]); first | done | rfl) ?_
  refine (HFA.out.1 W4 oki gu du row H4.out.2.2.2.1 HH.out.1 (by rw [← HRW.out]; exact HK.out.2.2.2)).mono ?_
  rintro e w5 ⟨v5, rfl, hG5, hR5⟩
  obtain ⟨row5, hrow5⟩ : ∃ row5, fl row = row5 := ⟨_, rfl⟩
  rw [hrow5] at hR5
  obtain ⟨B5, d5, rfl⟩ := Kd.R_slice hR5
  refine ⟨_, rfl, ?_⟩
  have hGs : ∀ k, k < W4.heap.size → k ≠ gu → w5.heap[k]? = W4.heap[k]? := fun k hk hne => hG5.block k hk (fun e => hne (Option.some.inj e))
  have ht4 := kd_block HH.out.1 hrp
  have hu3 : g3 ≠ gu := fun e => by
   obtain ⟨cc, hh⟩ := ht4
   rw [← e, hHeld.1] at hh
   injection hh with hh
   injection hh with _ h26
   exact absurd h26 (by decide)
  have huR : w.heap.size + 1 ≠ gu := fun e => by
   obtain ⟨cc, hh⟩ := ht4
   rw [← e, H4.out.2.2.2.2.1] at hh
   injection hh with hh
   injection hh with _ h26
   exact absurd h26 (by decide)
  have hg2l : g2 < W4.heap.size := by
   exact H4.out.2.2.2.2.2.1
  have hH5 : w5.heap[g3]? = some (.cells #[.slice B0 F.length d0, .slice B1 S.length d1, .slice (some ⟨g2, 0, none⟩) T.length d2] 26 (0, 0)) ∧ w5.cell? ⟨g2, find.toNat, none⟩ = some (.slice (some ⟨gu, 0, none⟩) row.length du) :=
   ⟨(hGs g3 (blk_lt hHeld.1) hu3).trans hHeld.1, (hG5.cell_far ⟨g2, find.toNat, none⟩ hg2l (fun e => HN.out.2.2.2.2.1 (Option.some.inj e).symm)).trans hHeld.2⟩
  have hX5 := (hGs _ (blk_lt H4.out.2.2.2.2.1) huR).trans H4.out.2.2.2.2.1
  have hP5 := Kd.R_grown1 H4.out.1 rfl hG5 HN.out.2.2.2.2.2
  have hQ5 := Kd.R_over' H4.out.2.1 (v := .slice (some ⟨gu, 0, none⟩) row.length du) (e' := 3) (fun k hk => by obtain rfl : gu = k := Option.some.inj hk; exact ht4) (by decide) hG5
  have hB5 : Below w.heap.size w w5 := H4.out.2.2.2.1.grown hG5 H4.out.2.2.1 (fun k hk => by obtain rfl : gu = k := Option.some.inj hk; exact Kd.R_base HH.out.1 gu rfl)
  have hfz5 : w5.frozen? ⟨g2, find.toNat, none⟩ = false := (hG5.frozen_far ⟨g2, find.toNat, none⟩ hg2l (fun e => HN.out.2.2.2.2.1 (Option.some.inj e).symm)).trans (by have := HH.out.2.2.2 0; simpa [Kd.slice] using this)
  have hn0 : ∀ k, (Value.slice B0 F.length d0).ownBlock = some k → k < W4.heap.size := fun k hk => own_lt (Kd.own_of_R H4.out.1) k hk
  have hSH := Kd.H_mono (ok' := fun k => (fun k_ => some k_ ≠ (Value.slice B0 F.length d0).ownBlock) k ∧ ¬ W4.heap.size ≤ k) (Kd.H_grown HH.out.2.1 hG5 (fun k hk => by obtain rfl : gu = k := Option.some.inj hk; exact HH.out.1.1 gu rfl)) (fun k hk => ⟨hk.1, by have := hk.2.2.1; exact fun h => absurd (show k < W4.heap.size from this) (by omega)⟩)
  have hS6 := Kd.S_seg hSH hfd0 hfd2 (seg := [.slice B5 row5.length d5]) (j := 0) (show 1 ≤ 1 from by decide) (x' := row5) (Kd.M_row hR5) (fun _ hk => hk) (fun k hk => ⟨fun e => by have := hn0 k e.symm; omega, by omega⟩)
  have hS6b := hS6
  rw [show w5.setCells g2 (find.toNat * (Kd.slice 3 (Kd.int .i64)).sz + 0) [.slice B5 row5.length d5] = w5.setCell ⟨g2, find.toNat, none⟩ (.slice B5 row5.length d5) from by show w5.setCell ⟨g2, find.toNat * 1 + 0, none⟩ _ = _; rw [Nat.mul_one, Nat.add_zero]] at hS6b
  have hy2 : ∃ cells, w5.heap[g2]? = some (.cells cells 22 (0, 0)) := by
   obtain ⟨cc, hh⟩ := H4.out.2.2.2.2.2.2
   exact ⟨cc, (hGs g2 hg2l (Ne.symm HN.out.2.2.2.2.1)).trans hh⟩
  have H5 := Go.Lib.hid (And.intro hS6b (And.intro hP5 (And.intro hQ5 (And.intro hB5 hX5))))
  have HY := Go.Lib.hid (And.intro hy2 hrow5)
  clear hS6 hS6b hP5 hQ5 hB5 hX5 hSH hR5 hn0 hGs ht4 hu3 huR hG5 hg2l H4 HH HFA hy2 hrow5
  refine hK.out _ _ hH5 (fun hHeld => ?_)
  clear hK K hH5
  refine norm_ (a' := ?_) ?_ ?_
  rotate_left
  ·
   show Act.put _ (some 40) _ = _
   simp only [Act.put, List.setIfInBounds_toArray, List.set_cons_zero, List.set_cons_succ]
   rfl
  refine pure_ (i := 10) (N := some 41) (v := ?_) (a' := ?_) #[true, true, true, true, true, true, true, true, true, true, true, false] rfl rfl (any_of HT_.out (by kernel_rfl)) (fun _ _ _ h => h) (Or.inl ⟨by rfl, ?_⟩) ?_ ?_
  rotate_left
  ·
   intro w'
   go_simp
   with_reducible rfl
  rotate_left
  ·
   simp only [Act.put, List.setIfInBounds_toArray, List.set_cons_zero, List.set_cons_succ]
   rfl
  refine last_ (i := 11) (N := none) #[true, true, true, true, true, true, true, true, true, true, true, true] rfl rfl (one_of HT_.out (by kernel_rfl)) (by decide) (fun K hK => ?_)
  have hs_ := hHeld.2
  refine skip_ (w1 := ?_) (by rfl) rfl ?_ ?_
  rotate_left
  ·
   go_simp
   rfl
  refine hK.out _ _ ?_
  clear hK K hs_
  have hHeld6 := blk_far hHeld.1 (p := ⟨g2, find.toNat, none⟩) (Ne.symm HN.out.1) (.slice B5 row5.length d5)
  have hX6 := blk_far H5.out.2.2.2.2 (p := ⟨g2, find.toNat, none⟩) (Ne.symm HN.out.2.2.2.1) (.slice B5 row5.length d5)
  have hP6 := Kd.R_grown1 H5.out.2.1 rfl H5.out.1.2 (H5.out.1.1.choose_spec.1 g2 rfl)
  have hQ6 := Kd.R_over' H5.out.2.2.1 (v := .slice (some ⟨g2, 0, none⟩) T.length d2) (e' := 22) (fun k hk => by obtain rfl : g2 = k := Option.some.inj hk; exact HY.out.1) (by decide) H5.out.1.2
  have hB6 := setCell_below H5.out.2.2.2.1 (p := ⟨g2, find.toNat, none⟩) (Kd.S_base H5.out.1.1 g2 rfl) (.slice B5 row5.length d5)
  have H6 := Go.Lib.hid (And.intro H5.out.1.1 (And.intro hP6 (And.intro hQ6 (And.intro hB6 hX6))))
  have HROW := Go.Lib.hid HY.out.2
  clear H5 hP6 hQ6 hB6 hX6 hHeld HY
  generalize w5.setCell ⟨g2, find.toNat, none⟩ (.slice B5 row5.length d5) = w6 at H6 hHeld6 ⊢
  refine done_ (done_of HT_.out (by kernel_rfl)) ?_
  have q0 := (blk_cell hHeld6 0).trans rfl
  have q1 := (blk_cell hHeld6 1).trans rfl
  have q2 := (blk_cell hHeld6 2).trans rfl
  have z0 := (blk_cell H6.out.2.2.2.2 0).trans rfl
  have z1 := (blk_cell H6.out.2.2.2.2 1).trans rfl
  have z2 := (blk_cell H6.out.2.2.2.2 2).trans rfl
  have y0 := blk_frozen H6.out.2.2.2.2 0
  have y1 := blk_frozen H6.out.2.2.2.2 1
  have y2 := blk_frozen H6.out.2.2.2.2 2
  go_wp2_with fail
  refine bodyPost_ret (results_ct rfl _ _ (w.heap.size + 1) 26 #[.slice B0 F.length d0, .slice B1 S.length d1, .slice (some ⟨g2, 0, none⟩) T.length d2] (0, 0) _ rfl (own_put3 H6.out.2.2.2.2 _ _ _) Try.underlying26 rfl (by kernel_rfl)) rfl ?_
  have hz := HRES3.out
  rw [HROW.out] at hz
  subst hz
  exact ⟨_, _, _, rfl, own_box3R H6.out.2.1 H6.out.2.2.2.2 (by decide) _ _ _, own_box3R H6.out.2.2.1 H6.out.2.2.2.2 (by decide) _ _ _, own_box3S H6.out.1 H6.out.2.2.2.2 (by decide) _ _ _, own_box3B H6.out.2.2.2.1 (Nat.le_succ _) _ _ _⟩
end Go.Proofs.Ytkmmihadcbfkoaa
end

section
namespace Go.Proofs.Ytkmmihadcbfkoaa
open Go.RowKit Go.Proofs.YtkmmihadcbfkoaaW.PrintWords PM
set_option linter.unusedVariables false
set_option linter.unusedSimpArgs false
set_option maxRecDepth 100000 in
set_option maxHeartbeats 8000000 in
theorem barred_calls (A0 : Option Addr) (c0 : Nat) (F : List Int) (A1 : Option Addr) (c1 : Nat) (S : List S50) (A2 : Option Addr) (c2 : Nat) (T : List (List Int)) (find slot : Int) (w : World)
  (hr0 : Kd.C (Kd.int .i64) w A0 F.length F) (hc0 : F.length ≤ c0) (hr1 : Kd.C k50 w A1 S.length S) (hc1 : S.length ≤ c1) (hr2 : Kd.C (Kd.slice 3 (Kd.int .i64)) w A2 T.length T) (hc2 : T.length ≤ c2) :
  Calls Try.prog 43 #[.agg #[.slice A0 F.length c0, .slice A1 S.length c1, .slice A2 T.length c2], .int .i64 find, .int .i64 slot] w fun e w' => OwnPost (barredP F S T find slot) w e w' := by
 have hBa := (Below.refl w.heap.size w).alloc (Nat.le_refl _) (.cells #[.slice A0 F.length c0, .slice A1 S.length c1, .slice A2 T.length c2] 26)
 have hBb := hBa.alloc (by simp) (.cells #[.int .i64 slot] 3)
 have hB0 := hBb.alloc (by simp; omega) (.cells #[.slice none 0 0, .slice none 0 0, .slice none 0 0] 26)
 have hcell : (((w.alloc (.cells #[.slice A0 F.length c0, .slice A1 S.length c1, .slice A2 T.length c2] 26)).alloc (.cells #[.int .i64 slot] 3)).alloc (.cells #[.slice none 0 0, .slice none 0 0, .slice none 0 0] 26)).cell? ⟨w.heap.size + 1, 0, none⟩ = some (.int .i64 slot) := by
  refine cell_of_heap (t := 3) (cs := #[.int .i64 slot]) (fr := (0, 0)) ?_ rfl
  refine (((Below.refl _ _).alloc (Nat.le_refl _) _).block (w.heap.size + 1) (by simp)).trans ?_
  have := World.alloc_heap_new (w.alloc (.cells #[.slice A0 F.length c0, .slice A1 S.length c1, .slice A2 T.length c2] 26)) (.cells #[.int .i64 slot] 3)
  rwa [show (w.alloc (.cells #[.slice A0 F.length c0, .slice A1 S.length c1, .slice A2 T.length c2] 26)).heap.size = w.heap.size + 1 from by simp] at this
 have hbS : (((w.alloc (.cells #[.slice A0 F.length c0, .slice A1 S.length c1, .slice A2 T.length c2] 26)).alloc (.cells #[.int .i64 slot] 3)).alloc (.cells #[.slice none 0 0, .slice none 0 0, .slice none 0 0] 26)).heap[w.heap.size + 2]? = some (.cells #[.slice none 0 0, .slice none 0 0, .slice none 0 0] 26 (0, 0)) := by
  have := World.alloc_heap_new ((w.alloc (.cells #[.slice A0 F.length c0, .slice A1 S.length c1, .slice A2 T.length c2] 26)).alloc (.cells #[.int .i64 slot] 3)) (.cells #[.slice none 0 0, .slice none 0 0, .slice none 0 0] 26)
  rwa [show ((w.alloc (.cells #[.slice A0 F.length c0, .slice A1 S.length c1, .slice A2 T.length c2] 26)).alloc (.cells #[.int .i64 slot] 3)).heap.size = w.heap.size + 2 from by simp] at this
 have CF := fitted_calls A0 c0 F A1 c1 S A2 c2 T find slot 79 #[.pointer (some ⟨w.heap.size + 1, 0, none⟩)] (fun l => l.filter (fun s => decide (s ≠ slot))) _ (Kd.C_below hr0 hB0) hc0 (Kd.C_below hr1 hB0) hc1 (Kd.C_below hr2 hB0) hc2
  (fits79 slot (w.heap.size + 1) _ (by simp) hcell) (enters_of Try.func79 (by kernel_rfl) rfl)
 have hsz : (((w.alloc (.cells #[.slice A0 F.length c0, .slice A1 S.length c1, .slice A2 T.length c2] 26)).alloc (.cells #[.int .i64 slot] 3)).alloc (.cells #[.slice none 0 0, .slice none 0 0, .slice none 0 0] 26)).heap.size = w.heap.size + 3 := by simp
 obtain ⟨res, he⟩ : ∃ res, barredP F S T find slot = res := ⟨_, rfl⟩
 rw [he]
 rw [show fittedP F S T find slot (fun l => l.filter (fun s => decide (s ≠ slot))) = res from he] at CF
 have HB := Go.Lib.hid (And.intro hB0 (And.intro hbS hsz))
 clear hr0 hr1 hr2 hc0 hc1 hc2 hB0 hBa hBb hcell hbS hsz he
 go_enter Try.func43, Try.ntmps43
 go_wp2_with fail
 refine CF.mono ?_
 clear CF
 rintro e w1 ⟨v0, v1, v2, rfl, r0, r1, r2, hb⟩
 obtain ⟨B0, d0, rfl⟩ := Kd.R_slice r0
 obtain ⟨B1, d1, rfl⟩ := Kd.R_slice r1
 obtain ⟨B2, d2, rfl⟩ := Kd.S_slice r2
 have hw1 := HB.out.1.trans (hb.mono HB.out.1.size)
 have hbS := (hb.block (w.heap.size + 2) (by rw [HB.out.2.2]; omega)).trans HB.out.2.1
 have hle : w.heap.size ≤ (((w.alloc (.cells #[.slice A0 F.length c0, .slice A1 S.length c1, .slice A2 T.length c2] 26)).alloc (.cells #[.int .i64 slot] 3)).alloc (.cells #[.slice none 0 0, .slice none 0 0, .slice none 0 0] 26)).heap.size := HB.out.1.size
 have H1 := Go.Lib.hid (And.intro (Kd.R_lower r0 hle) (And.intro (Kd.R_lower r1 hle) (And.intro (Kd.S_lower r2 hle) (And.intro hw1 hbS))))
 clear r0 r1 r2 hb hw1 hbS hle HB
 have z0 := cell_of_heap H1.out.2.2.2.2 (j := 0) rfl
 have z1 := cell_of_heap H1.out.2.2.2.2 (j := 1) rfl
 have z2 := cell_of_heap H1.out.2.2.2.2 (j := 2) rfl
 have y0 := blk_frozen H1.out.2.2.2.2 0
 have y1 := blk_frozen H1.out.2.2.2.2 1
 have y2 := blk_frozen H1.out.2.2.2.2 2
 go_wp2_with fail
 refine bodyPost_ret (results_ct rfl _ _ (w.heap.size + 2) 26 #[.slice B0 res.1.length d0, .slice B1 res.2.1.length d1, .slice B2 res.2.2.1.length d2] (0, 0) _ rfl (own_put3 H1.out.2.2.2.2 _ _ _) Try.underlying26 rfl (by kernel_rfl)) rfl ?_
 exact ⟨_, _, _, rfl, own_box3R H1.out.1 H1.out.2.2.2.2 (by decide) _ _ _, own_box3R H1.out.2.1 H1.out.2.2.2.2 (by decide) _ _ _, own_box3S H1.out.2.2.1 H1.out.2.2.2.2 (by decide) _ _ _, own_box3B H1.out.2.2.2.1 (by omega) _ _ _⟩
set_option maxRecDepth 100000 in
set_option maxHeartbeats 8000000 in
theorem fixed_calls (A0 : Option Addr) (c0 : Nat) (F : List Int) (A1 : Option Addr) (c1 : Nat) (S : List S50) (A2 : Option Addr) (c2 : Nat) (T : List (List Int)) (find slot : Int) (w : World)
  (hr0 : Kd.C (Kd.int .i64) w A0 F.length F) (hc0 : F.length ≤ c0) (hr1 : Kd.C k50 w A1 S.length S) (hc1 : S.length ≤ c1) (hr2 : Kd.C (Kd.slice 3 (Kd.int .i64)) w A2 T.length T) (hc2 : T.length ≤ c2) :
  Calls Try.prog 27 #[.agg #[.slice A0 F.length c0, .slice A1 S.length c1, .slice A2 T.length c2], .int .i64 find, .int .i64 slot] w fun e w' => OwnPost (fixedP F S T find slot) w e w' := by
 have hBa := (Below.refl w.heap.size w).alloc (Nat.le_refl _) (.cells #[.slice A0 F.length c0, .slice A1 S.length c1, .slice A2 T.length c2] 26)
 have hBb := hBa.alloc (by simp) (.cells #[.int .i64 slot] 3)
 have hB0 := hBb.alloc (by simp; omega) (.cells #[.slice none 0 0, .slice none 0 0, .slice none 0 0] 26)
 have hcell : (((w.alloc (.cells #[.slice A0 F.length c0, .slice A1 S.length c1, .slice A2 T.length c2] 26)).alloc (.cells #[.int .i64 slot] 3)).alloc (.cells #[.slice none 0 0, .slice none 0 0, .slice none 0 0] 26)).cell? ⟨w.heap.size + 1, 0, none⟩ = some (.int .i64 slot) := by
  refine cell_of_heap (t := 3) (cs := #[.int .i64 slot]) (fr := (0, 0)) ?_ rfl
  refine (((Below.refl _ _).alloc (Nat.le_refl _) _).block (w.heap.size + 1) (by simp)).trans ?_
  have := World.alloc_heap_new (w.alloc (.cells #[.slice A0 F.length c0, .slice A1 S.length c1, .slice A2 T.length c2] 26)) (.cells #[.int .i64 slot] 3)
  rwa [show (w.alloc (.cells #[.slice A0 F.length c0, .slice A1 S.length c1, .slice A2 T.length c2] 26)).heap.size = w.heap.size + 1 from by simp] at this
 have hbS : (((w.alloc (.cells #[.slice A0 F.length c0, .slice A1 S.length c1, .slice A2 T.length c2] 26)).alloc (.cells #[.int .i64 slot] 3)).alloc (.cells #[.slice none 0 0, .slice none 0 0, .slice none 0 0] 26)).heap[w.heap.size + 2]? = some (.cells #[.slice none 0 0, .slice none 0 0, .slice none 0 0] 26 (0, 0)) := by
  have := World.alloc_heap_new ((w.alloc (.cells #[.slice A0 F.length c0, .slice A1 S.length c1, .slice A2 T.length c2] 26)).alloc (.cells #[.int .i64 slot] 3)) (.cells #[.slice none 0 0, .slice none 0 0, .slice none 0 0] 26)
  rwa [show ((w.alloc (.cells #[.slice A0 F.length c0, .slice A1 S.length c1, .slice A2 T.length c2] 26)).alloc (.cells #[.int .i64 slot] 3)).heap.size = w.heap.size + 2 from by simp] at this
 have CF := fitted_calls A0 c0 F A1 c1 S A2 c2 T find slot 65 #[.pointer (some ⟨w.heap.size + 1, 0, none⟩)] (fun _ => [slot]) _ (Kd.C_below hr0 hB0) hc0 (Kd.C_below hr1 hB0) hc1 (Kd.C_below hr2 hB0) hc2
  (fits65 slot (w.heap.size + 1) _ (by simp) hcell) (enters_of Try.func65 (by kernel_rfl) rfl)
 have hsz : (((w.alloc (.cells #[.slice A0 F.length c0, .slice A1 S.length c1, .slice A2 T.length c2] 26)).alloc (.cells #[.int .i64 slot] 3)).alloc (.cells #[.slice none 0 0, .slice none 0 0, .slice none 0 0] 26)).heap.size = w.heap.size + 3 := by simp
 obtain ⟨res, he⟩ : ∃ res, fixedP F S T find slot = res := ⟨_, rfl⟩
 rw [he]
 rw [show fittedP F S T find slot (fun _ => [slot]) = res from he] at CF
 have HB := Go.Lib.hid (And.intro hB0 (And.intro hbS hsz))
 clear hr0 hr1 hr2 hc0 hc1 hc2 hB0 hBa hBb hcell hbS hsz he
 go_enter Try.func27, Try.ntmps27
 go_wp2_with fail
 refine CF.mono ?_
 clear CF
 rintro e w1 ⟨v0, v1, v2, rfl, r0, r1, r2, hb⟩
 obtain ⟨B0, d0, rfl⟩ := Kd.R_slice r0
 obtain ⟨B1, d1, rfl⟩ := Kd.R_slice r1
 obtain ⟨B2, d2, rfl⟩ := Kd.S_slice r2
 have hw1 := HB.out.1.trans (hb.mono HB.out.1.size)
 have hbS := (hb.block (w.heap.size + 2) (by rw [HB.out.2.2]; omega)).trans HB.out.2.1
 have hle : w.heap.size ≤ (((w.alloc (.cells #[.slice A0 F.length c0, .slice A1 S.length c1, .slice A2 T.length c2] 26)).alloc (.cells #[.int .i64 slot] 3)).alloc (.cells #[.slice none 0 0, .slice none 0 0, .slice none 0 0] 26)).heap.size := HB.out.1.size
 have H1 := Go.Lib.hid (And.intro (Kd.R_lower r0 hle) (And.intro (Kd.R_lower r1 hle) (And.intro (Kd.S_lower r2 hle) (And.intro hw1 hbS))))
 clear r0 r1 r2 hb hw1 hbS hle HB
 have z0 := cell_of_heap H1.out.2.2.2.2 (j := 0) rfl
 have z1 := cell_of_heap H1.out.2.2.2.2 (j := 1) rfl
 have z2 := cell_of_heap H1.out.2.2.2.2 (j := 2) rfl
 have y0 := blk_frozen H1.out.2.2.2.2 0
 have y1 := blk_frozen H1.out.2.2.2.2 1
 have y2 := blk_frozen H1.out.2.2.2.2 2
 go_wp2_with fail
 refine bodyPost_ret (results_ct rfl _ _ (w.heap.size + 2) 26 #[.slice B0 res.1.length d0, .slice B1 res.2.1.length d1, .slice B2 res.2.2.1.length d2] (0, 0) _ rfl (own_put3 H1.out.2.2.2.2 _ _ _) Try.underlying26 rfl (by kernel_rfl)) rfl ?_
 exact ⟨_, _, _, rfl, own_box3R H1.out.1 H1.out.2.2.2.2 (by decide) _ _ _, own_box3R H1.out.2.1 H1.out.2.2.2.2 (by decide) _ _ _, own_box3S H1.out.2.2.1 H1.out.2.2.2.2 (by decide) _ _ _, own_box3B H1.out.2.2.2.1 (by omega) _ _ _⟩
end Go.Proofs.Ytkmmihadcbfkoaa
end

section
namespace Go.Proofs.Ytkmmihadcbfkoaa
open Go.RowKit Go.Proofs.YtkmmihadcbfkoaaW.PrintWords PM
set_option linter.unusedVariables false
set_option linter.unusedSimpArgs false
/-- The law's board, behind its box. -/
structure LO (w0 : World) (A0 : Option Addr) (c0 : Nat) (F : List Int) (A1 : Option Addr) (c1 : Nat) (S : List S50) (A2 : Option Addr) (c2 : Nat) (T : List (List Int)) (w : World) : Prop where
 at0 : LAt w0 A0 c0 F A1 c1 S A2 c2 T (w0.alloc (.cells #[.slice A0 F.length c0, .slice A1 S.length c1, .slice A2 T.length c2] 26))
 B : Below (w0.heap.size + 1) (w0.alloc (.cells #[.slice A0 F.length c0, .slice A1 S.length c1, .slice A2 T.length c2] 26)) w
section
variable {w0 w w' : World} {A0 : Option Addr} {c0 : Nat} {F : List Int} {A1 : Option Addr} {c1 : Nat} {S : List S50} {A2 : Option Addr} {c2 : Nat} {T : List (List Int)}
theorem LO.at (h : LO w0 A0 c0 F A1 c1 S A2 c2 T w) : LAt w0 A0 c0 F A1 c1 S A2 c2 T w := h.at0.later (by
 have := h.B
 rwa [show (w0.alloc (.cells #[.slice A0 F.length c0, .slice A1 S.length c1, .slice A2 T.length c2] 26)).heap.size = w0.heap.size + 1 from by simp])
theorem LO.later (h : LO w0 A0 c0 F A1 c1 S A2 c2 T w) (hb : Below w.heap.size w w') : LO w0 A0 c0 F A1 c1 S A2 c2 T w' :=
 ⟨h.at0, h.B.trans (hb.mono (by have := h.B.size; simpa using this))⟩
theorem LO.start (hr0 : Kd.C (Kd.int .i64) w0 A0 F.length F) (hc0 : F.length ≤ c0) (hr1 : Kd.C k50 w0 A1 S.length S) (hc1 : S.length ≤ c1) (hr2 : Kd.C (Kd.slice 3 (Kd.int .i64)) w0 A2 T.length T) (hc2 : T.length ≤ c2) :
  LO w0 A0 c0 F A1 c1 S A2 c2 T (w0.alloc (.cells #[.slice A0 F.length c0, .slice A1 S.length c1, .slice A2 T.length c2] 26)) :=
 ⟨LAt.start hr0 hc0 hr1 hc1 hr2 hc2, Below.refl _ _⟩
end
/-- Three values that hold a board of a call's own. -/
def OwnAt (r : List Int × List S50 × List (List Int)) (v0 v1 v2 : Value) (w : World) : Prop :=
 Kd.R (Kd.int .i64) 3 w 0 (fun _ => True) v0 r.1 ∧ Kd.R k50 50 w 0 (fun _ => True) v1 r.2.1 ∧ Kd.S (Kd.slice 3 (Kd.int .i64)) 22 w 0 (fun _ => True) v2 r.2.2
theorem OwnAt.later {r : List Int × List S50 × List (List Int)} {v0 v1 v2 : Value} {w w' : World} (h : OwnAt r v0 v1 v2 w) (hb : Below w.heap.size w w') : OwnAt r v0 v1 v2 w' :=
 ⟨Kd.R_below h.1 hb, Kd.R_below h.2.1 hb, Kd.S_below h.2.2 hb⟩
/-- A board and an error are returned. -/
def BPost (r : List Int × List S50 × List (List Int)) (q : Int) (w : World) (e : Ending) (w' : World) : Prop :=
 ∃ B0 d0 B1 d1 B2 d2, e = .returned (.tuple #[.agg #[.slice B0 r.1.length d0, .slice B1 r.2.1.length d1, .slice B2 r.2.2.length d2], .int .i64 q]) ∧ OwnAt r (.slice B0 r.1.length d0) (.slice B1 r.2.1.length d1) (.slice B2 r.2.2.length d2) w' ∧ Below w.heap.size w w'
theorem bpost_of {r1 : List Int} {r2 : List S50} {r3 : List (List Int)} {q : Int} {w : World} {e : Ending} {w' : World}
  (h : ∃ v0 v1 v2 : Value, e = .returned (.tuple #[.agg #[v0, v1, v2], .int .i64 q]) ∧ Kd.R (Kd.int .i64) 3 w' w.heap.size (fun _ => True) v0 r1 ∧ Kd.R k50 50 w' w.heap.size (fun _ => True) v1 r2 ∧ Kd.S (Kd.slice 3 (Kd.int .i64)) 22 w' w.heap.size (fun k_ => some k_ ≠ (v0 : Value).ownBlock) v2 r3 ∧ Below w.heap.size w w') :
  BPost (r1, r2, r3) q w e w' := by
 obtain ⟨v0, v1, v2, rfl, h0, h1, h2, hb⟩ := h
 obtain ⟨B0, d0, rfl⟩ := Kd.R_slice h0
 obtain ⟨B1, d1, rfl⟩ := Kd.R_slice h1
 obtain ⟨B2, d2, rfl⟩ := Kd.S_slice h2
 exact ⟨B0, d0, B1, d1, B2, d2, rfl, ⟨Kd.R_lower h0 (Nat.zero_le _), Kd.R_lower h1 (Nat.zero_le _), Kd.S_mono (Kd.S_lower h2 (Nat.zero_le _)) (fun _ _ => trivial)⟩, hb⟩
theorem without_own {w0 w : World} {A0 : Option Addr} {c0 : Nat} {F : List Int} {A1 : Option Addr} {c1 : Nat} {S : List S50} {A2 : Option Addr} {c2 : Nat} {T : List (List Int)} {find : Int} {a : List Int} {b : List S50} {t : List (List Int)} {q : Int} (h : LAt w0 A0 c0 F A1 c1 S A2 c2 T w) (er : withoutP F S T find = (a, b, t, q)) :
  Calls Try.prog 41 #[.agg #[.slice A0 F.length c0, .slice A1 S.length c1, .slice A2 T.length c2], .int .i64 find] w (BPost (a, b, t) q w) := by
 refine (without_calls A0 c0 F A1 c1 S A2 c2 T find w h.C0 h.l0 h.C1 h.l1 h.C2 h.l2).mono fun e w' k => ?_
 rw [er] at k
 exact bpost_of k
theorem barred_own {w0 w : World} {A0 : Option Addr} {c0 : Nat} {F : List Int} {A1 : Option Addr} {c1 : Nat} {S : List S50} {A2 : Option Addr} {c2 : Nat} {T : List (List Int)} {find slot : Int} {a : List Int} {b : List S50} {t : List (List Int)} {q : Int} (h : LAt w0 A0 c0 F A1 c1 S A2 c2 T w) (er : barredP F S T find slot = (a, b, t, q)) :
  Calls Try.prog 43 #[.agg #[.slice A0 F.length c0, .slice A1 S.length c1, .slice A2 T.length c2], .int .i64 find, .int .i64 slot] w (BPost (a, b, t) q w) := by
 refine (barred_calls A0 c0 F A1 c1 S A2 c2 T find slot w h.C0 h.l0 h.C1 h.l1 h.C2 h.l2).mono fun e w' k => ?_
 rw [er] at k
 exact bpost_of k
theorem fixed_own {w0 w : World} {A0 : Option Addr} {c0 : Nat} {F : List Int} {A1 : Option Addr} {c1 : Nat} {S : List S50} {A2 : Option Addr} {c2 : Nat} {T : List (List Int)} {find slot : Int} {a : List Int} {b : List S50} {t : List (List Int)} {q : Int} (h : LAt w0 A0 c0 F A1 c1 S A2 c2 T w) (er : fixedP F S T find slot = (a, b, t, q)) :
  Calls Try.prog 27 #[.agg #[.slice A0 F.length c0, .slice A1 S.length c1, .slice A2 T.length c2], .int .i64 find, .int .i64 slot] w (BPost (a, b, t) q w) := by
 refine (fixed_calls A0 c0 F A1 c1 S A2 c2 T find slot w h.C0 h.l0 h.C1 h.l1 h.C2 h.l2).mono fun e w' k => ?_
 rw [er] at k
 exact bpost_of k
end Go.Proofs.Ytkmmihadcbfkoaa
end

section
namespace Go.Proofs.Ytkmmihadcbfkoaa
open Go.RowKit Go.Proofs.YtkmmihadcbfkoaaW.PrintWords PM
set_option linter.unusedVariables false
set_option linter.unusedSimpArgs false
def PM.match_Through.f (F : List Int) (S : List S50) (T : List (List Int)) (find slot : Int) : Option (List Int × Bool × Int) :=
 if askB F S T find slot false false ≠ 0 then some ([], false, askB F S T find slot false false)
 else if isF F S T = false then some ([], false, 40)
 else some ((withF T (rooms S) S.length (hasF F S T) find.toNat slot).has, (withF T (rooms S) S.length (hasF F S T) find.toNat slot).ok, 0)
set_option maxRecDepth 100000 in
set_option maxHeartbeats 8000000 in
theorem through_walk (A0 : Option Addr) (c0 : Nat) (F : List Int) (A1 : Option Addr) (c1 : Nat) (S : List S50) (A2 : Option Addr) (c2 : Nat) (T : List (List Int)) (find slot : Int) (r1 : List Int) (r2 : Bool) (r3 : Int) (w : World)
  (hr0 : Kd.C (Kd.int .i64) w A0 F.length F) (hc0 : F.length ≤ c0) (hr1 : Kd.C k50 w A1 S.length S) (hr2 : Kd.C (Kd.slice 3 (Kd.int .i64)) w A2 T.length T) (h : match_Through.f F S T find slot = some (r1, r2, r3)) :
  Calls Try.prog 30 #[.agg #[.slice A0 F.length c0, .slice A1 S.length c1, .slice A2 T.length c2], .int .i64 find, .int .i64 slot] w (LBE r1 r2 r3 w) := by
 have hB0 := (Below.refl w.heap.size w).alloc (Nat.le_refl _) (.cells #[.slice A0 F.length c0, .slice A1 S.length c1, .slice A2 T.length c2] 26)
 have CB := both_calls A0 c0 F A1 c1 S A2 c2 T find slot _ (Kd.C_below hr0 hB0) hc0 (Kd.C_below hr1 hB0) (Kd.C_below hr2 hB0)
 unfold match_Through.f at h
 obtain ⟨q, hq⟩ : ∃ q, askB F S T find slot false false = q := ⟨_, rfl⟩
 rw [hq] at h CB
 have HB0 := Go.Lib.hid hB0
 have HR := Go.Lib.hid (And.intro hr1 hr2)
 have HQ := Go.Lib.hid hq
 have HH := Go.Lib.hid h
 clear hr0 hr1 hr2 hB0 hq h
 go_enter Try.func30, Try.ntmps30
 go_wp2_with fail
 refine CB.mono ?_
 clear CB
 rintro e w1 ⟨rfl, hB1⟩
 have b1 : w1.heap[w.heap.size]? = some (.cells #[.slice A0 F.length c0, .slice A1 S.length c1, .slice A2 T.length c2] 26 (0, 0)) := by
  rw [hB1.block w.heap.size (by simp)]
  exact World.alloc_heap_new w _
 have hW1 : Below w.heap.size w w1 := HB0.out.trans (hB1.mono HB0.out.size)
 have k0 := cell_of_heap b1 (j := 0) rfl
 have k1 := cell_of_heap b1 (j := 1) rfl
 have k2 := cell_of_heap b1 (j := 2) rfl
 have HW1 := Go.Lib.hid hW1
 have BX1 := Go.Lib.hid b1
 clear hB1 b1 hW1
 by_cases hq0 : q = 0
 rotate_left
 ·
  have g9 : decide (q = 0) = false := by simpa using hq0
  have hf := HH.out
  rw [if_pos hq0] at hf
  injection hf with hf
  injection hf with hf1 hf
  injection hf with hf2 hf3
  subst hf1 hf2 hf3
  go_wp2_with fail
  go_ret3
  exact ⟨_, rfl, R_nil _ _, HW1.out⟩
 subst hq0
 obtain ⟨hcb, hfd, hsl⟩ := ask_parts HQ.out
 obtain ⟨hfd0, hfd1⟩ := hfd rfl
 obtain ⟨hsl0, hsl1⟩ := hsl rfl
 have hk := bok_of_check hcb
 have hfd2 : find < (T.length : Int) := by rw [hk.nt]; exact hfd1
 have hf := HH.out
 rw [if_neg (by simp)] at hf
 have HK := Go.Lib.hid hk
 have HCB := Go.Lib.hid hcb
 clear HH HQ hk hcb
 cases hok : isF F S T with
 | false =>
  have MC := matched_no A0 c0 F A1 c1 S A2 c2 T w1 HK.out (Kd.C_below HR.out.1 HW1.out) (Kd.C_below HR.out.2 HW1.out) hok
  rw [if_pos hok] at hf
  injection hf with hf
  injection hf with hf1 hf
  injection hf with hf2 hf3
  subst hf1 hf2 hf3
  clear hok
  go_wp2_with fail
  refine MC.mono ?_
  clear MC
  rintro e w2 ⟨rfl, hB2⟩
  have HB2 := Go.Lib.hid (HW1.out.trans (hB2.mono HW1.out.size))
  clear hB2
  go_wp2_with fail
  go_ret3
  exact ⟨_, rfl, R_nil _ _, HB2.out⟩
 | true =>
  have MC := matched_yes A0 c0 F A1 c1 S A2 c2 T w1 HK.out (Kd.C_below HR.out.1 HW1.out) (Kd.C_below HR.out.2 HW1.out) hok
  rw [if_neg (by rw [hok]; simp)] at hf
  injection hf with hf
  obtain ⟨fn, rfl⟩ : ∃ fn : Nat, find = (fn : Int) := ⟨find.toNat, by omega⟩
  rw [Int.toNat_natCast] at hf
  obtain ⟨rr, hrr⟩ : ∃ rr, withF T (rooms S) S.length (hasF F S T) fn slot = rr := ⟨_, rfl⟩
  rw [hrr] at hf
  injection hf with hf1 hf
  injection hf with hf2 hf3
  subst hf1 hf2 hf3
  have HRR := Go.Lib.hid hrr
  clear hok hrr
  go_wp2_with fail
  refine MC.mono ?_
  clear MC
  rintro e w2 ⟨t, rfl, en1, enh, es0, hT, hB2⟩
  have hW2 := HW1.out.trans (hB2.mono HW1.out.size)
  have hG := good_of_in HCB.out hT en1 es0
  have WC := with_calls t T (rooms S) (hasF F S T) fn slot w2 (by omega) hG
  rw [en1, HRR.out] at WC
  unfold WithPost at WC
  have HW2 := Go.Lib.hid hW2
  clear hB2 hW2 hG hT en1 enh es0
  go_wp2_with fail
  refine WC.mono ?_
  clear WC
  rintro e w3 ⟨v, rfl, hR, hB3⟩
  have HB3 := Go.Lib.hid (HW2.out.trans (hB3.mono HW2.out.size))
  have HR3 := Go.Lib.hid (Kd.R_lower hR HW2.out.size)
  clear hR hB3
  go_wp2_with fail
  go_ret3
  exact ⟨v, rfl, HR3.out, HB3.out⟩
theorem PM.match_Through.calls (A0 : Option Addr) (c0 : Nat) (F : List Int) (A1 : Option Addr) (c1 : Nat) (S : List S50) (A2 : Option Addr) (c2 : Nat) (T : List (List Int)) (find slot : Int) (r1 : List Int) (r2 : Bool) (r3 : Int) (w : World)
  (hr0 : Kd.C (Kd.int .i64) w A0 F.length F) (hc0 : F.length ≤ c0) (hr1 : Kd.C k50 w A1 S.length S) (hc1 : S.length ≤ c1) (hr2 : Kd.C (Kd.slice 3 (Kd.int .i64)) w A2 T.length T) (hc2 : T.length ≤ c2) (h : match_Through.f F S T find slot = some (r1, r2, r3)) :
  Calls Try.prog 30 #[.agg #[.slice A0 F.length c0, .slice A1 S.length c1, .slice A2 T.length c2], .int .i64 find, .int .i64 slot] w (LBE r1 r2 r3 w) := through_walk A0 c0 F A1 c1 S A2 c2 T find slot r1 r2 r3 w hr0 hc0 hr1 hr2 h
end Go.Proofs.Ytkmmihadcbfkoaa
end

section
namespace Go.Proofs.Ytkmmihadcbfkoaa.PM
open Go.RowKit Go.Proofs.YtkmmihadcbfkoaaW.PrintWords Go.Proofs.YtkmmihadcbfkoaaW.PrintLast Go.Proofs.YtkmmihadcbfkoaaW.PrintMore
set_option linter.unusedVariables false
set_option linter.unusedSimpArgs false
def match_May.f (l0_0 : List Int) (l0_1 : List (S50)) (l0_2 : List (List Int)) (a1 : Int) (a2 : Int) : Option (Bool × Int) := (match_Through.f l0_0 l0_1 l0_2 a1 a2).bind fun bt396 => (some (bt396.2.1, bt396.2.2))
set_option maxHeartbeats 8000000 in
set_option maxRecDepth 100000 in
theorem match_May.calls (A0_0 : Option Addr) (c0_0 : Nat) (l0_0 : List Int) (A0_1 : Option Addr) (c0_1 : Nat) (l0_1 : List (S50)) (A0_2 : Option Addr) (c0_2 : Nat) (l0_2 : List (List Int)) (a1 : Int) (a2 : Int) (r1 : Bool) (r2 : Int) (w : World) (hr0_0 : Kd.C (Kd.int .i64) w A0_0 l0_0.length l0_0) (hc0_0 : l0_0.length ≤ c0_0) (hr0_1 : Kd.C k50 w A0_1 l0_1.length l0_1) (hc0_1 : l0_1.length ≤ c0_1) (hr0_2 : Kd.C (Kd.slice 3 (Kd.int .i64)) w A0_2 l0_2.length l0_2) (hc0_2 : l0_2.length ≤ c0_2) (h : match_May.f l0_0 l0_1 l0_2 a1 a2 = some (r1, r2)) :
  Calls Try.prog 29 #[.agg #[.slice A0_0 l0_0.length c0_0, .slice A0_1 l0_1.length c0_1, .slice A0_2 l0_2.length c0_2], .int .i64 a1, .int .i64 a2] w fun e w' => e = .returned (.tuple #[.bool r1, .int .i64 r2]) ∧ Below w.heap.size w w' := by
 have hu26 := Try.underlying26
 have HR0_0 := Aside0.mk hr0_0
 have HC0_0 := Aside0.mk hc0_0
 clear hr0_0 hc0_0
 have HR0_1 := Aside0.mk hr0_1
 have HC0_1 := Aside0.mk hc0_1
 clear hr0_1 hc0_1
 have HR0_2 := Aside0.mk hr0_2
 have HC0_2 := Aside0.mk hc0_2
 clear hr0_2 hc0_2
 have HB := Aside0.mk (Below.refl w.heap.size w)
 have H : ((match_Through.f l0_0 l0_1 l0_2 a1 a2).bind fun bt396 => (some (bt396.2.1, bt396.2.2))) = some (r1, r2) := h
 clear h
 replace H := Option.bind_eq_some_iff.mp H
 obtain ⟨⟨t396, t399, t400⟩, A40, H⟩ := H
 replace H : (some (t399, t400)) = some (r1, r2) := H
 have A4 := Aside0.mk A40
 clear A40
 simp only [Option.some.injEq, Prod.mk.injEq] at H
 obtain ⟨rfl, rfl⟩ := H
 go_enter Try.func29, Try.ntmps29
 go_wp2_with (first | ((with_reducible refine gate_dst (N := 3) rfl ?_); refine box_event ?hg (N := 3) ?hd (cs := #[.slice A0_0 l0_0.length c0_0, .slice A0_1 l0_1.length c0_1, .slice A0_2 l0_2.length c0_2]) (t := 26) ?hr ?_; (case hd => rfl); (case hg => rfl); (case hr => first | (go_simp; done) | (go_simp; rfl)); intro gb395 hg w5 hbox hb; have n0_ := Aside0.mk (below_step (by repeat (first | (with_reducible first | exact HB.out | apply below_alloc | apply pw_below_drewN | apply below_drew1) | exact HB.out)) hb); have n1_ := Aside0.mk (hbox); have n2_ := Aside0.mk ((by rw [hg]; exact (below_size (by repeat (first | (with_reducible first | exact HB.out | apply below_alloc | apply pw_below_drewN | apply below_drew1) | exact HB.out))) : w.heap.size ≤ gb395)); have n3_ := Aside0.mk ((by rw [hg]; exact (below_size (by repeat (first | (with_reducible first | exact HB.out | apply below_alloc | apply pw_below_drewN | apply below_drew1) | exact HB.out))) : w.heap.size ≤ gb395)); clear HB; have HB := n0_; have BK395 := n1_; have GW395 := n2_; have GE395 := n3_; clear n0_ n1_ n2_ n3_; clear hb hbox hg; have hcz6_0 : w5.cell? ⟨gb395, 0, none⟩ = some (.slice A0_0 l0_0.length c0_0) := (blk_cell BK395.out 0).trans rfl; have hcz6_1 : w5.cell? ⟨gb395, 1, none⟩ = some (.slice A0_1 l0_1.length c0_1) := (blk_cell BK395.out 1).trans rfl; have hcz6_2 : w5.cell? ⟨gb395, 2, none⟩ = some (.slice A0_2 l0_2.length c0_2) := (blk_cell BK395.out 2).trans rfl; have hfz6_0 := blk_frozen BK395.out 0; have hfz6_1 := blk_frozen BK395.out 1; have hfz6_2 := blk_frozen BK395.out 2) | ((with_reducible refine gate_callee (f := 30) rfl ?_); refine goesL_ (some 15) rfl rfl Try.func30 (by kernel_rfl) rfl #[.agg #[.slice A0_0 l0_0.length c0_0, .slice A0_1 l0_1.length c0_1, .slice A0_2 l0_2.length c0_2], .int .i64 a1, .int .i64 a2] rfl (by (try simp only [List.map_toArray, List.map_cons, List.map_nil]); first | done | rfl | (simp only [List.length_drop, List.length_take]; rfl)) ?_; (with_reducible refine (match_Through.calls _ _ l0_0 _ _ l0_1 _ _ l0_2 a1 a2 t396 t399 t400 _ ?side1 ?side2 ?side3 ?side4 ?side5 ?side6 A4.out).mono ?_); (case side1 => repeat (first | exact (Kd.C_below HR0_0.out HB.out) | (with_reducible refine Kd.C_alloc ?_ _) | (with_reducible refine Kd.C_drewN ?_ _) | (with_reducible refine Kd.C_drew ?_))); (case side2 => exact HC0_0.out); (case side3 => repeat (first | exact (Kd.C_below HR0_1.out HB.out) | (with_reducible refine Kd.C_alloc ?_ _) | (with_reducible refine Kd.C_drewN ?_ _) | (with_reducible refine Kd.C_drew ?_))); (case side4 => exact HC0_1.out); (case side5 => repeat (first | exact (Kd.C_below HR0_2.out HB.out) | (with_reducible refine Kd.C_alloc ?_ _) | (with_reducible refine Kd.C_drewN ?_ _) | (with_reducible refine Kd.C_drew ?_))); (case side6 => exact HC0_2.out); rintro e w7 ⟨v397, rfl, ho0, hb⟩; refine ⟨_, rfl, ?_⟩; have n0_ := Aside0.mk (Kd.R_lower ho0 (below_size (by repeat (first | (with_reducible first | exact HB.out | apply below_alloc | apply pw_below_drewN | apply below_drew1 | refine below_set ?_ GE395.out) | exact HB.out)))); have n1_ := Aside0.mk (blk_below (g := gb395) (o := .cells #[.slice A0_0 l0_0.length c0_0, .slice A0_1 l0_1.length c0_1, .slice A0_2 l0_2.length c0_2] 26 (0, 0)) (by (with_reducible repeat (first | refine blk_drewN ?_ _ | refine blk_drew ?_ | refine blk_alloc ?_ _)); exact BK395.out) hb); have n2_ := Aside0.mk (below_step (by repeat (first | (with_reducible first | exact HB.out | apply below_alloc | apply pw_below_drewN | apply below_drew1 | refine below_set ?_ GE395.out) | exact HB.out)) hb); clear BK395; clear HB; have HO398 := n0_; have BK395 := n1_; have HB := n2_; clear n0_ n1_ n2_; (try clear hb); (try clear hb2); (try clear hk); (try clear hi); (try clear ho0)))
 go_ret2
 exact ⟨by first | rfl | (simp [errW_none, errW_some] <;> rfl) | (simp [*, errW_none, errW_some] <;> rfl), by repeat (first | (with_reducible first | exact HB.out | apply below_alloc | apply pw_below_drewN | apply below_drew1 | refine below_set ?_ GE395.out) | exact HB.out)⟩
end Go.Proofs.Ytkmmihadcbfkoaa.PM
end

section
namespace Go.Proofs.Ytkmmihadcbfkoaa
open Go.RowKit Go.Proofs.YtkmmihadcbfkoaaW.PrintWords PM
set_option linter.unusedVariables false
set_option linter.unusedSimpArgs false
section
variable {F : List Int} {S : List S50} {T : List (List Int)}
/-- What Through and Refuse come to on a board with an assignment. -/
structure Shown (F : List Int) (S : List S50) (T : List (List Int)) (fn : Nat) (slot : Int) (t r : List Int) (may : Bool) : Prop where
 through : match_Through.f F S T (fn : Int) slot = some (t, may, 0)
 refuse : match_Refuse.f F S T (fn : Int) slot = some (r, !may, 0)
 can : may = true ↔ CanB S T fn slot
 yes : may = true → AsgB S T t ∧ t.getD fn 0 = slot ∧ r = []
 no : may = false → t = [] ∧ refuseP F S T (fn : Int) slot r = (true, 0)
theorem shown_is {fn : Nat} {slot : Int} (hq : askB F S T (fn : Int) slot false false = 0) (his : isF F S T = true) : ∃ t r may, Shown F S T fn slot t r may := by
 obtain ⟨hc, hfd, hsl⟩ := ask_parts hq
 have h1 := hfd rfl
 have h2 := hsl rfl
 have hnt := (bok_of_check hc).nt
 have hft : fn < T.length := by omega
 obtain ⟨w1, w2⟩ := withB_spec hc his hft h2.1
 have wi := withB_iff hc his hft h2.1
 have hT : match_Through.f F S T (fn : Int) slot = some ((withF T (rooms S) S.length (hasF F S T) fn slot).has, (withF T (rooms S) S.length (hasF F S T) fn slot).ok, 0) := by
  unfold match_Through.f
  rw [if_neg (fun h => h hq), if_neg (by rw [his]; simp), Int.toNat_natCast]
 by_cases hin : slot ∈ T.getD fn []
 rotate_left
 ·
  have hR : match_Refuse.f F S T (fn : Int) slot = some ([], true, 0) := by
   unfold match_Refuse.f
   rw [if_neg (fun h => h hq), if_neg (by rw [his]; simp), Int.toNat_natCast, if_pos hin]
  have hf : (withF T (rooms S) S.length (hasF F S T) fn slot).ok = false := by
   cases e : (withF T (rooms S) S.length (hasF F S T) fn slot).ok with
   | false => rfl
   | true => exact absurd (can_in hft h2.1 (wi.1 e)) hin
  rw [hf] at hT wi w2
  refine ⟨_, _, _, hT, hR, wi, fun h => (by cases h), fun _ => ⟨(w2 rfl).1, ?_⟩⟩
  unfold refuseP
  rw [if_neg (fun h => h hq), Int.toNat_natCast, if_pos hin]
  rfl
 have hR : match_Refuse.f F S T (fn : Int) slot = some ((hallR F S T (fn : Int) (roomsLess S slot)).hall, !(hallR F S T (fn : Int) (roomsLess S slot)).ok, 0) := by
  unfold match_Refuse.f
  rw [if_neg (fun h => h hq), if_neg (by rw [his]; simp), Int.toNat_natCast, if_neg (fun h => h hin)]
 have hnn := less_nn hc h2.1 h2.2
 have hiff : (hallR F S T (fn : Int) (roomsLess S slot)).ok = true ↔ CanB S T fn slot := (hallR_iff hc hnn).trans (canB_iff hc hft hin).symm
 have hsame : (hallR F S T (fn : Int) (roomsLess S slot)).ok = (withF T (rooms S) S.length (hasF F S T) fn slot).ok := by
  cases e : (withF T (rooms S) S.length (hasF F S T) fn slot).ok with
  | true => exact hiff.2 (wi.1 e)
  | false =>
   cases e2 : (hallR F S T (fn : Int) (roomsLess S slot)).ok with
   | false => rfl
   | true => exact absurd (hiff.1 e2) (w2 e).2
 rw [hsame] at hR
 refine ⟨_, _, _, hT, hR, wi, fun h => ⟨(w1 h).1, (w1 h).2, hallR_yes hc hnn (hsame.trans h)⟩, fun h => ⟨(w2 h).1, ?_⟩⟩
 unfold refuseP
 rw [if_neg (fun h => h hq), Int.toNat_natCast, if_neg (fun h => h hin)]
 have := (crowded_deny hc h2.1 h2.2).2 (hallR_no hc hnn (hsame.trans h))
 rw [this]
theorem shown_may {fn : Nat} {slot : Int} {t r : List Int} {may : Bool} (h : Shown F S T fn slot t r may) : match_May.f F S T (fn : Int) slot = some (may, 0) := by
 unfold match_May.f
 rw [h.through]
 rfl
end
end Go.Proofs.Ytkmmihadcbfkoaa
end

section
namespace Go.Proofs.Ytkmmihadcbfkoaa
open Go.RowKit Go.Proofs.YtkmmihadcbfkoaaW.PrintWords PM
set_option linter.unusedVariables false
set_option linter.unusedSimpArgs false
section
variable {F : List Int} {S : List S50} {T : List (List Int)}
theorem ask_two (hc : checkB F S T = 0) (find slot : Int) : (askB F S T find slot false false = 0 ↔ 0 ≤ find ∧ find < F.length ∧ 0 ≤ slot ∧ slot < S.length) ∧ (askB F S T find slot false false = 0 ∨ askB F S T find slot false false = 1) := by
 unfold askB
 rw [if_neg (fun k => k hc)]
 have hi : ∀ x : Int, ∀ n : Nat, inB x 0 ((n : Int) - 1) = (decide (0 ≤ x) && decide (x < n)) := fun x n => by
  unfold inB
  congr 1
  exact decide_eq_decide.2 ⟨fun h => by omega, fun h => by omega⟩
 rw [hi, hi]
 by_cases a1 : 0 ≤ find <;> by_cases a2 : find < (F.length : Int) <;> by_cases a3 : 0 ≤ slot <;> by_cases a4 : slot < (S.length : Int) <;> simp [a1, a2, a3, a4]
/-- What May, Through and Refuse come to on a board as said. -/
structure MayAt (F : List Int) (S : List S50) (T : List (List Int)) (find slot : Int) (his : Bool) (may no : Bool) (t r : List Int) (ea : Int) : Prop where
 may_ : match_May.f F S T find slot = some (may, ea)
 through : match_Through.f F S T find slot = some (t, may, ea)
 refuse : match_Refuse.f F S T find slot = some (r, no, ea)
 out : ¬ (0 ≤ find ∧ find < F.length ∧ 0 ≤ slot ∧ slot < S.length) → ea = 1 ∧ may = false ∧ no = false ∧ t = [] ∧ r = []
 none : 0 ≤ find ∧ find < F.length ∧ 0 ≤ slot ∧ slot < S.length → his = false → ea = 40 ∧ may = false ∧ no = false ∧ t = [] ∧ r = []
 some : 0 ≤ find ∧ find < F.length ∧ 0 ≤ slot ∧ slot < S.length → his = true → ea = 0 ∧ no = (!may) ∧ Shown F S T find.toNat slot t r may
theorem may_is (hc : checkB F S T = 0) (find slot : Int) : ∃ may no t r ea, MayAt F S T find slot (isF F S T) may no t r ea := by
 obtain ⟨h1, h2⟩ := ask_two hc find slot
 by_cases hq : askB F S T find slot false false = 0
 rotate_left
 ·
  have hq1 : askB F S T find slot false false = 1 := h2.resolve_left hq
  have hT : match_Through.f F S T find slot = some ([], false, 1) := by
   unfold match_Through.f
   rw [if_pos hq, hq1]
  refine ⟨false, false, [], [], 1, ?_, hT, ?_, fun _ => ⟨rfl, rfl, rfl, rfl, rfl⟩, fun h => absurd (h1.2 h) hq, fun h => absurd (h1.2 h) hq⟩
  ·
   unfold match_May.f
   rw [hT]
   rfl
  unfold match_Refuse.f
  rw [if_pos hq, hq1]
 have hin := h1.1 hq
 cases his : isF F S T with
 | false =>
  have hT : match_Through.f F S T find slot = some ([], false, 40) := by
   unfold match_Through.f
   rw [if_neg (fun h => h hq), if_pos his]
  refine ⟨false, false, [], [], 40, ?_, hT, ?_, fun h => absurd hin h, fun _ _ => ⟨rfl, rfl, rfl, rfl, rfl⟩, fun _ h => (by cases h)⟩
  ·
   unfold match_May.f
   rw [hT]
   rfl
  unfold match_Refuse.f
  rw [if_neg (fun h => h hq), if_pos his]
 | true =>
  obtain ⟨fn, rfl⟩ : ∃ fn : Nat, find = (fn : Int) := ⟨find.toNat, by omega⟩
  obtain ⟨t, r, may, h⟩ := shown_is hq his
  exact ⟨may, !may, t, r, 0, shown_may h, h.through, h.refuse, fun k => absurd hin k, fun _ k => (by cases k), fun _ _ => ⟨rfl, rfl, h⟩⟩
end
end Go.Proofs.Ytkmmihadcbfkoaa
end

section
namespace Go.Proofs.Ytkmmihadcbfkoaa.PM
open Go.RowKit Go.Proofs.YtkmmihadcbfkoaaW.PrintWords Go.Proofs.YtkmmihadcbfkoaaW.PrintLast Go.Proofs.YtkmmihadcbfkoaaW.PrintMore
set_option linter.unusedVariables false
set_option linter.unusedSimpArgs false
def laganlaw04_part.l0 : Nat → List Int → List Int → Int → Option (Bool)
 | 0, _, _, _ => none
 | k + 1, x0, x1, x5 => if x5 < (x0.length : Int) then (if 0 ≤ x5 then ((laganref04_Has.f k x1 (rd x0 x5)).bind fun t997 => (if t997 = true then (laganlaw04_part.l0 k x0 x1 (wrap64 (x5 + 1))) else (some false))) else (none)) else (some true)
def laganlaw04_part.f (k : Nat) (l0 : List Int) (l1 : List Int) : Option (Bool) := laganlaw04_part.l0 k l0 l1 0
set_option maxHeartbeats 8000000 in
set_option maxRecDepth 100000 in
theorem laganlaw04_part.calls (k : Nat) (A0 : Option Addr) (c0 : Nat) (l0 : List Int) (A1 : Option Addr) (c1 : Nat) (l1 : List Int) (r : Bool) (w : World) (hr0 : Kd.C (Kd.int .i64) w A0 l0.length l0) (hc0 : l0.length ≤ c0) (hr1 : Kd.C (Kd.int .i64) w A1 l1.length l1) (hc1 : l1.length ≤ c1) (h : laganlaw04_part.f k l0 l1 = some r) :
  Calls Try.prog 49 #[.slice A0 l0.length c0, .slice A1 l1.length c1] w fun e w' => e = .returned (.bool r) ∧ Drawn0 w w' := by
 have HR0 := Aside0.mk hr0
 have HC0 := Aside0.mk hc0
 clear hr0 hc0
 have HR1 := Aside0.mk hr1
 have HC1 := Aside0.mk hc1
 clear hr1 hc1
 have H : (laganlaw04_part.l0 k l0 l1 0) = some r := h
 clear h
 have H' := Aside0.mk H
 clear H
 go_enter Try.func49, Try.ntmps49
 go_wp2
 go_loopg [5] k (fun kq v5 w' => ∃ (x5_1 : Int), v5 = .int .i64 x5_1 ∧ Aside0 (laganlaw04_part.l0 kq l0 l1 x5_1 = some r) ∧ Aside0 (kq ≤ k) ∧ Drawn0 w w')
 case atStart => exact ⟨(0), (by first | rfl | (simp; done) | (simp [*]; done)), H', ⟨Nat.le_refl _⟩, by repeat (first | exact Drawn0.refl _ | apply Drawn0.step)⟩
 clear H'
 try clear c1
 try clear p2
 obtain ⟨x5_1, rfl, HA, HK1, ⟨m1, rfl⟩⟩ := hrel
 cases gk with
 | zero => exact absurd HA.out (by simp [laganlaw04_part.l0])
 | succ k1 =>
  have H := HA.out
  clear HA
  simp only [laganlaw04_part.l0] at H
  by_cases c3 : x5_1 < (l0.length : Int)
  rotate_left
  ·
   rw [if_neg c3] at H
   have c3b0 : decide (x5_1 < (l0.length : Int)) = false := decide_eq_false c3
   clear c3
   obtain rfl := Option.some.inj H
   go_wp2
   go_ret
   exact ⟨by first | rfl | (simp; done) | (simp [*]; done), by repeat (first | exact Drawn0.refl _ | apply Drawn0.step)⟩
  rw [if_pos c3] at H
  have c3b0 : decide (x5_1 < (l0.length : Int)) = true := decide_eq_true c3
  clear c3
  by_cases c4 : 0 ≤ x5_1
  rotate_left
  ·
   rw [if_neg c4] at H
   exact absurd H (by simp)
  rw [if_pos c4] at H
  have c4b0 : decide (0 ≤ x5_1) = true := decide_eq_true c4
  clear c4
  replace H := Option.bind_eq_some_iff.mp H
  obtain ⟨t997, A50, H⟩ := H
  replace H : (if t997 = true then (laganlaw04_part.l0 k1 l0 l1 (wrap64 (x5_1 + 1))) else (some false)) = some r := H
  have A5 := Aside0.mk A50
  clear A50
  by_cases c6 : t997 = true
  rotate_left
  ·
   replace c6 := Bool.eq_false_iff.mpr c6
   subst c6
   have H1 : (some false) = some r := by rw [if_neg (show ¬ (false = true) by decide)] at H; exact H
   clear H
   have H := H1
   clear H1
   obtain rfl := Option.some.inj H
   have p996 : 0 ≤ (x5_1 : Int) := of_decide_eq_true (by first | (with_reducible assumption) | assumption)
   have q996 : x5_1 < (l0.length : Int) := of_decide_eq_true (by first | (with_reducible assumption) | assumption)
   obtain ⟨ad996, e996, hx996_0⟩ := Kd.at_int HR0.out x5_1 p996 q996
   cases e996
   replace p996 := eq_true p996
   replace q996 := eq_true q996
   go_wp2_with (first | ((with_reducible refine gate_callee (f := 33) rfl ?_); refine goesL_ (some 17) rfl rfl Try.func33 (by kernel_rfl) rfl #[.slice A1 l1.length c1, .int .i64 (rd l0 x5_1)] rfl (by (try simp only [List.map_toArray, List.map_cons, List.map_nil]); first | done | rfl | (simp only [List.length_drop, List.length_take]; rfl)) ?_; (with_reducible refine (laganref04_Has.calls k1 _ _ l1 (rd l0 x5_1) false _ ?side1 ?side2 A5.out).mono ?_); (case side1 => repeat (first | exact HR1.out | (with_reducible refine Kd.C_alloc ?_ _) | (with_reducible refine Kd.C_drewN ?_ _) | (with_reducible refine Kd.C_drew ?_))); (case side2 => exact HC1.out); rintro e w' ⟨rfl, ⟨nd, rfl⟩⟩; refine ⟨_, rfl, ?_⟩))
   go_ret
   exact ⟨by first | rfl | (simp; done) | (simp [*]; done), by repeat (first | exact Drawn0.refl _ | apply Drawn0.step)⟩
  subst c6
  have H1 : (laganlaw04_part.l0 k1 l0 l1 (wrap64 (x5_1 + 1))) = some r := by rw [if_pos rfl] at H; exact H
  clear H
  have H := H1
  clear H1
  have H' := Aside0.mk H
  clear H
  have p996 : 0 ≤ (x5_1 : Int) := of_decide_eq_true (by first | (with_reducible assumption) | assumption)
  have q996 : x5_1 < (l0.length : Int) := of_decide_eq_true (by first | (with_reducible assumption) | assumption)
  obtain ⟨ad996, e996, hx996_0⟩ := Kd.at_int HR0.out x5_1 p996 q996
  cases e996
  replace p996 := eq_true p996
  replace q996 := eq_true q996
  go_wp2_with (first | ((with_reducible refine gate_callee (f := 33) rfl ?_); refine goesL_ (some 17) rfl rfl Try.func33 (by kernel_rfl) rfl #[.slice A1 l1.length c1, .int .i64 (rd l0 x5_1)] rfl (by (try simp only [List.map_toArray, List.map_cons, List.map_nil]); first | done | rfl | (simp only [List.length_drop, List.length_take]; rfl)) ?_; (with_reducible refine (laganref04_Has.calls k1 _ _ l1 (rd l0 x5_1) true _ ?side1 ?side2 A5.out).mono ?_); (case side1 => repeat (first | exact HR1.out | (with_reducible refine Kd.C_alloc ?_ _) | (with_reducible refine Kd.C_drewN ?_ _) | (with_reducible refine Kd.C_drew ?_))); (case side2 => exact HC1.out); rintro e w' ⟨rfl, ⟨nd, rfl⟩⟩; refine ⟨_, rfl, ?_⟩))
  go_roundg k1
  case measure => have := HK1.out; omega
  case rel => exact ⟨(wrap64 (x5_1 + 1)), (by first | rfl | (simp; done) | (simp [*]; done)), H', ⟨by have := HK1.out; omega⟩, by repeat (first | exact Drawn0.refl _ | apply Drawn0.step)⟩
mutual
def laganlaw04_narrower.l0 : Nat → List (List Int) → List (List Int) → Int → Option (Bool)
 | 0, _, _, _ => none
 | k + 1, x0, x1, x5 => if x5 < (x0.length : Int) then (laganlaw04_narrower.j1 k x0 x1 x5 (decide (x5 < (x1.length : Int)))) else (laganlaw04_narrower.j1 k x0 x1 x5 false)
def laganlaw04_narrower.j1 : Nat → List (List Int) → List (List Int) → Int → Bool → Option (Bool)
 | 0, _, _, _, _ => none
 | k + 1, x0, x1, x5, x15 => if x15 = true then (if 0 ≤ x5 then (if x5 < (x0.length : Int) then (if x5 < (x1.length : Int) then ((laganlaw04_part.f k (rd_L1 x0 x5) (rd_L1 x1 x5)).bind fun t1000 => (if t1000 = true then (laganlaw04_narrower.l0 k x0 x1 (wrap64 (x5 + 1))) else (some false))) else (none)) else (none)) else (none)) else (some ((x0.length : Int) == (x1.length : Int)))
end
def laganlaw04_narrower.f (k : Nat) (l0 : List (List Int)) (l1 : List (List Int)) : Option (Bool) := laganlaw04_narrower.l0 k l0 l1 0
set_option maxHeartbeats 8000000 in
set_option maxRecDepth 100000 in
theorem laganlaw04_narrower.calls (k : Nat) (A0 : Option Addr) (c0 : Nat) (l0 : List (List Int)) (A1 : Option Addr) (c1 : Nat) (l1 : List (List Int)) (r : Bool) (w : World) (hr0 : Kd.C (Kd.slice 3 (Kd.int .i64)) w A0 l0.length l0) (hc0 : l0.length ≤ c0) (hr1 : Kd.C (Kd.slice 3 (Kd.int .i64)) w A1 l1.length l1) (hc1 : l1.length ≤ c1) (h : laganlaw04_narrower.f k l0 l1 = some r) :
  Calls Try.prog 50 #[.slice A0 l0.length c0, .slice A1 l1.length c1] w fun e w' => e = .returned (.bool r) ∧ Drawn0 w w' := by
 have HR0 := Aside0.mk hr0
 have HC0 := Aside0.mk hc0
 clear hr0 hc0
 have HR1 := Aside0.mk hr1
 have HC1 := Aside0.mk hc1
 clear hr1 hc1
 have H : (laganlaw04_narrower.l0 k l0 l1 0) = some r := h
 clear h
 have H' := Aside0.mk H
 clear H
 go_enter Try.func50, Try.ntmps50
 go_wp2
 repeat (go_quiet (fail); try go_wp2)
 go_loopg [5] k (fun kq v5 w' => ∃ (x5_1 : Int), v5 = .int .i64 x5_1 ∧ Aside0 (laganlaw04_narrower.l0 kq l0 l1 x5_1 = some r) ∧ Aside0 (kq ≤ k) ∧ Drawn0 w w')
 case atStart => exact ⟨(0), (by first | rfl | (simp; done) | (simp [*]; done)), H', ⟨Nat.le_refl _⟩, by repeat (first | exact Drawn0.refl _ | apply Drawn0.step)⟩
 clear H'
 try clear c1
 try clear p2
 obtain ⟨x5_1, rfl, HA, HK1, ⟨m1, rfl⟩⟩ := hrel
 cases gk with
 | zero => exact absurd HA.out (by simp [laganlaw04_narrower.l0])
 | succ k1 =>
  have H := HA.out
  clear HA
  simp only [laganlaw04_narrower.l0] at H
  have HC3 := Aside0.mk H
  clear H
  go_upto_region 2 with (fail)
  repeat (go_quiet (fail); go_upto_region 2 with (fail))
  go_cut [15] (fun v15 wc => ∃ (kq : Nat) (x15_2 : Bool), v15 = .bool x15_2 ∧ Aside0 (laganlaw04_narrower.j1 kq l0 l1 x5_1 x15_2 = some r) ∧ Aside0 (kq ≤ k1) ∧ Drawn0 w wc)
  case first =>
   have H := HC3.out
   clear HC3
   by_cases c4 : x5_1 < (l0.length : Int)
   rotate_left
   ·
    rw [if_neg c4] at H
    have c4b0 : decide (x5_1 < (l0.length : Int)) = false := decide_eq_false c4
    clear c4
    (first | rw [c4b0] | (simp only [i64_w, i32_w]; rw [c4b0]) | skip)
    have H' := Aside0.mk H
    clear H
    go_wp2
    repeat (go_quiet (fail); try go_wp2)
    go_meet
    case rel => exact ⟨_, (false), (by first | rfl | (simp; done) | (simp [*]; done)), H', ⟨by have := HK1.out; first | omega | exact Nat.le_refl _⟩, by repeat (first | exact Drawn0.refl _ | apply Drawn0.step)⟩
   rw [if_pos c4] at H
   have c4b0 : decide (x5_1 < (l0.length : Int)) = true := decide_eq_true c4
   clear c4
   (first | rw [c4b0] | (simp only [i64_w, i32_w]; rw [c4b0]) | skip)
   have H' := Aside0.mk H
   clear H
   go_wp2
   repeat (go_quiet (fail); try go_wp2)
   go_meet
   case rel => exact ⟨_, (decide (x5_1 < (l1.length : Int))), (by first | rfl | (simp; done) | (simp [*]; done)), H', ⟨by have := HK1.out; first | omega | exact Nat.le_refl _⟩, by repeat (first | exact Drawn0.refl _ | apply Drawn0.step)⟩
  case rest =>
   clear HC3
   try clear c1
   try clear p2
   try clear c4
   try clear c4b0
   try clear p2
   obtain ⟨kq, x15_2, rfl, HA, HJ2, ⟨mc2, rfl⟩⟩ := hcut
   cases kq with
   | zero => exact absurd HA.out (by simp [laganlaw04_narrower.j1])
   | succ kj2 =>
    have H := HA.out
    clear HA
    simp only [laganlaw04_narrower.j1] at H
    by_cases c5 : x15_2 = true
    rotate_left
    ·
     replace c5 := Bool.eq_false_iff.mpr c5
     subst c5
     have H1 : (some ((l0.length : Int) == (l1.length : Int))) = some r := by rw [if_neg (show ¬ (false = true) by decide)] at H; exact H
     clear H
     have H := H1
     clear H1
     obtain rfl := Option.some.inj H
     go_wp2
     repeat (go_quiet (fail); try go_wp2)
     go_ret
     exact ⟨by first | rfl | (simp; done) | (simp [*]; done), by repeat (first | exact Drawn0.refl _ | apply Drawn0.step)⟩
    subst c5
    have H1 : (if 0 ≤ x5_1 then (if x5_1 < (l0.length : Int) then (if x5_1 < (l1.length : Int) then ((laganlaw04_part.f kj2 (rd_L1 l0 x5_1) (rd_L1 l1 x5_1)).bind fun t1000 => (if t1000 = true then (laganlaw04_narrower.l0 kj2 l0 l1 (wrap64 (x5_1 + 1))) else (some false))) else (none)) else (none)) else (none)) = some r := by rw [if_pos rfl] at H; exact H
    clear H
    have H := H1
    clear H1
    by_cases c6 : 0 ≤ x5_1
    rotate_left
    ·
     rw [if_neg c6] at H
     exact absurd H (by simp)
    rw [if_pos c6] at H
    have c6b0 : decide (0 ≤ x5_1) = true := decide_eq_true c6
    clear c6
    by_cases c7 : x5_1 < (l0.length : Int)
    rotate_left
    ·
     rw [if_neg c7] at H
     exact absurd H (by simp)
    rw [if_pos c7] at H
    have c7b0 : decide (x5_1 < (l0.length : Int)) = true := decide_eq_true c7
    clear c7
    by_cases c8 : x5_1 < (l1.length : Int)
    rotate_left
    ·
     rw [if_neg c8] at H
     exact absurd H (by simp)
    rw [if_pos c8] at H
    have c8b0 : decide (x5_1 < (l1.length : Int)) = true := decide_eq_true c8
    clear c8
    replace H := Option.bind_eq_some_iff.mp H
    obtain ⟨t1000, A90, H⟩ := H
    replace H : (if t1000 = true then (laganlaw04_narrower.l0 kj2 l0 l1 (wrap64 (x5_1 + 1))) else (some false)) = some r := H
    have A9 := Aside0.mk A90
    clear A90
    by_cases c10 : t1000 = true
    rotate_left
    ·
     replace c10 := Bool.eq_false_iff.mpr c10
     subst c10
     have H1 : (some false) = some r := by rw [if_neg (show ¬ (false = true) by decide)] at H; exact H
     clear H
     have H := H1
     clear H1
     obtain rfl := Option.some.inj H
     have p998 : 0 ≤ (x5_1 : Int) := of_decide_eq_true (by first | (with_reducible assumption) | assumption)
     have q998 : x5_1 < (l0.length : Int) := of_decide_eq_true (by first | (with_reducible assumption) | assumption)
     obtain ⟨ad998, A998_0, c998_0, e998, hx998_0, hl998_0, hi998_0⟩ := at_L1 HR0.out x5_1 p998 q998
     cases e998
     have HR998_0 := Aside0.mk hi998_0
     have HC998_0 := Aside0.mk hl998_0
     clear hi998_0 hl998_0
     replace p998 := eq_true p998
     replace q998 := eq_true q998
     have p999 : 0 ≤ (x5_1 : Int) := of_decide_eq_true (by first | (with_reducible assumption) | assumption)
     have q999 : x5_1 < (l1.length : Int) := of_decide_eq_true (by first | (with_reducible assumption) | assumption)
     obtain ⟨ad999, A999_0, c999_0, e999, hx999_0, hl999_0, hi999_0⟩ := at_L1 HR1.out x5_1 p999 q999
     cases e999
     have HR999_0 := Aside0.mk hi999_0
     have HC999_0 := Aside0.mk hl999_0
     clear hi999_0 hl999_0
     replace p999 := eq_true p999
     replace q999 := eq_true q999
     go_wp2_with (first | (go_at_call 49; (with_reducible refine (laganlaw04_part.calls kj2 _ _ (rd_L1 l0 x5_1) _ _ (rd_L1 l1 x5_1) false _ ?side1 ?side2 ?side3 ?side4 A9.out).mono ?_); (case side1 => repeat (first | exact HR998_0.out | (with_reducible refine Kd.C_alloc ?_ _) | (with_reducible refine Kd.C_drewN ?_ _) | (with_reducible refine Kd.C_drew ?_))); (case side2 => exact HC998_0.out); (case side3 => repeat (first | exact HR999_0.out | (with_reducible refine Kd.C_alloc ?_ _) | (with_reducible refine Kd.C_drewN ?_ _) | (with_reducible refine Kd.C_drew ?_))); (case side4 => exact HC999_0.out); rintro e w' ⟨rfl, ⟨nd, rfl⟩⟩; (try first | exact ⟨rfl, _, World.drewN_drewN _ _ _⟩ | exact ⟨rfl, _, Eq.trans (World.drewN_drewN _ _ _) (congrArg (World.drewN _) (Nat.add_assoc _ _ _))⟩)))
     repeat (go_quiet (first | (go_at_call 49; (with_reducible refine (laganlaw04_part.calls kj2 _ _ (rd_L1 l0 x5_1) _ _ (rd_L1 l1 x5_1) false _ ?side1 ?side2 ?side3 ?side4 A9.out).mono ?_); (case side1 => repeat (first | exact HR998_0.out | (with_reducible refine Kd.C_alloc ?_ _) | (with_reducible refine Kd.C_drewN ?_ _) | (with_reducible refine Kd.C_drew ?_))); (case side2 => exact HC998_0.out); (case side3 => repeat (first | exact HR999_0.out | (with_reducible refine Kd.C_alloc ?_ _) | (with_reducible refine Kd.C_drewN ?_ _) | (with_reducible refine Kd.C_drew ?_))); (case side4 => exact HC999_0.out); rintro e w' ⟨rfl, ⟨nd, rfl⟩⟩; (try first | exact ⟨rfl, _, World.drewN_drewN _ _ _⟩ | exact ⟨rfl, _, Eq.trans (World.drewN_drewN _ _ _) (congrArg (World.drewN _) (Nat.add_assoc _ _ _))⟩))); try go_wp2_with (first | (go_at_call 49; (with_reducible refine (laganlaw04_part.calls kj2 _ _ (rd_L1 l0 x5_1) _ _ (rd_L1 l1 x5_1) false _ ?side1 ?side2 ?side3 ?side4 A9.out).mono ?_); (case side1 => repeat (first | exact HR998_0.out | (with_reducible refine Kd.C_alloc ?_ _) | (with_reducible refine Kd.C_drewN ?_ _) | (with_reducible refine Kd.C_drew ?_))); (case side2 => exact HC998_0.out); (case side3 => repeat (first | exact HR999_0.out | (with_reducible refine Kd.C_alloc ?_ _) | (with_reducible refine Kd.C_drewN ?_ _) | (with_reducible refine Kd.C_drew ?_))); (case side4 => exact HC999_0.out); rintro e w' ⟨rfl, ⟨nd, rfl⟩⟩; (try first | exact ⟨rfl, _, World.drewN_drewN _ _ _⟩ | exact ⟨rfl, _, Eq.trans (World.drewN_drewN _ _ _) (congrArg (World.drewN _) (Nat.add_assoc _ _ _))⟩))))
     go_ret
     exact ⟨by first | rfl | (simp; done) | (simp [*]; done), by repeat (first | exact Drawn0.refl _ | apply Drawn0.step)⟩
    subst c10
    have H1 : (laganlaw04_narrower.l0 kj2 l0 l1 (wrap64 (x5_1 + 1))) = some r := by rw [if_pos rfl] at H; exact H
    clear H
    have H := H1
    clear H1
    have H' := Aside0.mk H
    clear H
    have p998 : 0 ≤ (x5_1 : Int) := of_decide_eq_true (by first | (with_reducible assumption) | assumption)
    have q998 : x5_1 < (l0.length : Int) := of_decide_eq_true (by first | (with_reducible assumption) | assumption)
    obtain ⟨ad998, A998_0, c998_0, e998, hx998_0, hl998_0, hi998_0⟩ := at_L1 HR0.out x5_1 p998 q998
    cases e998
    have HR998_0 := Aside0.mk hi998_0
    have HC998_0 := Aside0.mk hl998_0
    clear hi998_0 hl998_0
    replace p998 := eq_true p998
    replace q998 := eq_true q998
    have p999 : 0 ≤ (x5_1 : Int) := of_decide_eq_true (by first | (with_reducible assumption) | assumption)
    have q999 : x5_1 < (l1.length : Int) := of_decide_eq_true (by first | (with_reducible assumption) | assumption)
    obtain ⟨ad999, A999_0, c999_0, e999, hx999_0, hl999_0, hi999_0⟩ := at_L1 HR1.out x5_1 p999 q999
    cases e999
    have HR999_0 := Aside0.mk hi999_0
    have HC999_0 := Aside0.mk hl999_0
    clear hi999_0 hl999_0
    replace p999 := eq_true p999
    replace q999 := eq_true q999
    go_wp2_with (first | (go_at_call 49; (with_reducible refine (laganlaw04_part.calls kj2 _ _ (rd_L1 l0 x5_1) _ _ (rd_L1 l1 x5_1) true _ ?side1 ?side2 ?side3 ?side4 A9.out).mono ?_); (case side1 => repeat (first | exact HR998_0.out | (with_reducible refine Kd.C_alloc ?_ _) | (with_reducible refine Kd.C_drewN ?_ _) | (with_reducible refine Kd.C_drew ?_))); (case side2 => exact HC998_0.out); (case side3 => repeat (first | exact HR999_0.out | (with_reducible refine Kd.C_alloc ?_ _) | (with_reducible refine Kd.C_drewN ?_ _) | (with_reducible refine Kd.C_drew ?_))); (case side4 => exact HC999_0.out); rintro e w' ⟨rfl, ⟨nd, rfl⟩⟩; (try first | exact ⟨rfl, _, World.drewN_drewN _ _ _⟩ | exact ⟨rfl, _, Eq.trans (World.drewN_drewN _ _ _) (congrArg (World.drewN _) (Nat.add_assoc _ _ _))⟩)))
    repeat (go_quiet (first | (go_at_call 49; (with_reducible refine (laganlaw04_part.calls kj2 _ _ (rd_L1 l0 x5_1) _ _ (rd_L1 l1 x5_1) true _ ?side1 ?side2 ?side3 ?side4 A9.out).mono ?_); (case side1 => repeat (first | exact HR998_0.out | (with_reducible refine Kd.C_alloc ?_ _) | (with_reducible refine Kd.C_drewN ?_ _) | (with_reducible refine Kd.C_drew ?_))); (case side2 => exact HC998_0.out); (case side3 => repeat (first | exact HR999_0.out | (with_reducible refine Kd.C_alloc ?_ _) | (with_reducible refine Kd.C_drewN ?_ _) | (with_reducible refine Kd.C_drew ?_))); (case side4 => exact HC999_0.out); rintro e w' ⟨rfl, ⟨nd, rfl⟩⟩; (try first | exact ⟨rfl, _, World.drewN_drewN _ _ _⟩ | exact ⟨rfl, _, Eq.trans (World.drewN_drewN _ _ _) (congrArg (World.drewN _) (Nat.add_assoc _ _ _))⟩))); try go_wp2_with (first | (go_at_call 49; (with_reducible refine (laganlaw04_part.calls kj2 _ _ (rd_L1 l0 x5_1) _ _ (rd_L1 l1 x5_1) true _ ?side1 ?side2 ?side3 ?side4 A9.out).mono ?_); (case side1 => repeat (first | exact HR998_0.out | (with_reducible refine Kd.C_alloc ?_ _) | (with_reducible refine Kd.C_drewN ?_ _) | (with_reducible refine Kd.C_drew ?_))); (case side2 => exact HC998_0.out); (case side3 => repeat (first | exact HR999_0.out | (with_reducible refine Kd.C_alloc ?_ _) | (with_reducible refine Kd.C_drewN ?_ _) | (with_reducible refine Kd.C_drew ?_))); (case side4 => exact HC999_0.out); rintro e w' ⟨rfl, ⟨nd, rfl⟩⟩; (try first | exact ⟨rfl, _, World.drewN_drewN _ _ _⟩ | exact ⟨rfl, _, Eq.trans (World.drewN_drewN _ _ _) (congrArg (World.drewN _) (Nat.add_assoc _ _ _))⟩))))
    go_roundg kj2
    case measure => have := HK1.out; have := HJ2.out; omega
    case rel => exact ⟨(wrap64 (x5_1 + 1)), (by first | rfl | (simp; done) | (simp [*]; done)), H', ⟨by have := HK1.out; have := HJ2.out; omega⟩, by repeat (first | exact Drawn0.refl _ | apply Drawn0.step)⟩
end Go.Proofs.Ytkmmihadcbfkoaa.PM
end

section
namespace Go.Proofs.Ytkmmihadcbfkoaa
open Go.RowKit Go.Proofs.YtkmmihadcbfkoaaW.PrintWords PM
set_option linter.unusedVariables false
set_option linter.unusedSimpArgs false
theorem getD_erase {α : Type} (l : List α) (i j : Nat) (d : α) : (l.eraseIdx i).getD j d = if j < i then l.getD j d else l.getD (j + 1) d := by
 rw [List.getD_eq_getElem?_getD, List.getElem?_eraseIdx]
 split <;> rw [List.getD_eq_getElem?_getD]
theorem ris_mk {l : List Int} {a b : Int} (h : l.Pairwise (· < ·)) (hr : ∀ x, x ∈ l → a ≤ x ∧ x ≤ b) : risB l a b = true := by
 unfold risB
 rw [List.all_eq_true]
 intro i hi
 rw [List.mem_range] at hi
 have hm : l.getD i 0 ∈ l := by rw [List.getD_eq_getElem?_getD, List.getElem?_eq_getElem hi]; exact List.getElem_mem hi
 have h1 := hr _ hm
 unfold risAt inB
 rw [Bool.and_eq_true, Bool.and_eq_true, decide_eq_true_eq, decide_eq_true_eq, Bool.or_eq_true, decide_eq_true_eq, decide_eq_true_eq]
 refine ⟨h1, ?_⟩
 by_cases h0 : i = 0
 ·
  exact Or.inl h0
 refine Or.inr ?_
 have := List.pairwise_iff_getElem.1 h (i - 1) i (by omega) hi (by omega)
 rw [List.getD_eq_getElem?_getD, List.getElem?_eq_getElem (show i - 1 < l.length by omega), List.getD_eq_getElem?_getD, List.getElem?_eq_getElem hi]
 exact this
theorem ris_in {l : List Int} {a b : Int} (h : risB l a b = true) {x : Int} (hx : x ∈ l) : a ≤ x ∧ x ≤ b := by
 obtain ⟨i, hi, rfl⟩ := List.getElem_of_mem hx
 have := risB_at h i hi
 rw [List.getD_eq_getElem?_getD, List.getElem?_eq_getElem hi, Option.getD_some] at this
 exact ⟨this.1, this.2.1⟩
theorem ris_sub {l m : List Int} {a b : Int} (h : risB l a b = true) (hs : m.Sublist l) : risB m a b = true :=
 ris_mk ((asc_of_ris h).sublist hs) (fun x hx => ris_in h (hs.subset hx))
section
variable {F : List Int} {S : List S50} {T : List (List Int)}
theorem check_mk (h1 : F.length ≤ 60) (h2 : S.length ≤ 200) (h3 : risB F 10 10000007 = true) (h4 : T.length = F.length) (h5 : slotsB S = true) (h6 : fitsB S T = true) : checkB F S T = 0 := by
 unfold checkB
 rw [if_neg (by omega), if_neg (by rw [h3]; simp [h4]), if_neg (by rw [h5]; simp), if_neg (by rw [h6]; simp)]
theorem valid_without (hc : checkB F S T = 0) {i : Nat} (hi : i < F.length) : checkB (F.eraseIdx i) S (T.eraseIdx i) = 0 := by
 obtain ⟨h1, h2, h3, h4, h5, h6⟩ := check_parts hc
 refine check_mk ?_ h2 (ris_sub h3 (List.eraseIdx_sublist F i)) ?_ h5 ?_
 ·
  have := List.length_eraseIdx_le F i
  omega
 ·
  rw [List.length_eraseIdx, List.length_eraseIdx, h4]
 unfold fitsB at h6 ⊢
 rw [List.all_eq_true] at h6 ⊢
 exact fun l hl => h6 l (List.mem_of_mem_eraseIdx hl)
theorem valid_row (hc : checkB F S T = 0) (i : Nat) {row : List Int} (hr : risB row 0 ((S.length : Int) - 1) = true) : checkB F S (T.set i row) = 0 := by
 obtain ⟨h1, h2, h3, h4, h5, h6⟩ := check_parts hc
 refine check_mk h1 h2 h3 (by rw [List.length_set]; exact h4) h5 ?_
 unfold fitsB at h6 ⊢
 rw [List.all_eq_true] at h6 ⊢
 intro l hl
 rcases List.mem_or_eq_of_mem_set hl with hl | hl
 ·
  exact h6 l hl
 rw [hl]; exact hr
theorem asg_erase {i : Nat} (hi : i < T.length) {l : List Int} (h : AsgB S T l) : AsgB S (T.eraseIdx i) (l.eraseIdx i) := by
 have hl : (T.eraseIdx i).length = T.length - 1 := by rw [List.length_eraseIdx, if_pos hi]
 refine ⟨by rw [List.length_eraseIdx, List.length_eraseIdx, h.len], fun f hf k => ?_, fun f hf k1 k2 => ?_, fun s hs => ?_⟩
 ·
  rw [getD_erase] at k ⊢
  rcases k with k | k
  ·
   by_cases e : f < i
   ·
    rw [if_pos e] at k ⊢
    exact h.none f (by omega) (Or.inl k)
   rw [if_neg e] at k ⊢
   exact h.none (f + 1) (by omega) (Or.inl k)
  omega
 ·
  rw [getD_erase] at k1
  rw [getD_erase, getD_erase]
  split at k1 <;> rename_i e
  ·
   rw [if_pos e, if_pos e]
   exact h.some f (by omega) k1 k2
  rw [if_neg e, if_neg e]
  exact h.some (f + 1) (by omega) k1 (by omega)
 have := h.load s hs
 rw [ld_cnt] at this ⊢
 have h2 := (List.eraseIdx_sublist l i).count_le (s : Int)
 omega
/-- An assignment of a board in which a find fits fewer slots, but some, is one of the board. -/
theorem asg_wider {i : Nat} (hi : i < T.length) {row : List Int} (hne : row ≠ []) (hsub : ∀ x, x ∈ row → x ∈ T.getD i []) {l : List Int} (h : AsgB S (T.set i row) l) : AsgB S T l := by
 refine ⟨by have := h.len; rwa [List.length_set] at this, fun f hf k => ?_, fun f hf k1 k2 => ?_, h.load⟩
 ·
  by_cases e : f = i
  rotate_left
  ·
   exact h.none f (by rw [List.length_set]; exact hf) (by rw [getD_set_row T i row f hi, if_neg e]; exact k)
  subst e
  rcases k with k | k
  ·
   obtain ⟨x, hx⟩ := List.exists_mem_of_ne_nil _ hne
   have := hsub x hx
   rw [k] at this
   cases this
  omega
 have h2 := h.some f (by rw [List.length_set]; exact hf)
 rw [getD_set_row T i row f hi] at h2
 by_cases e : f = i
 rotate_left
 ·
  rw [if_neg e] at h2
  exact h2 k1 k2
 rw [if_pos e] at h2
 rw [e]
 rw [e] at h2
 exact hsub _ (h2 hne (by omega))
theorem ch_len : (allChances F S T).length = F.length := by simp [allChances]
theorem ch_at {i : Nat} (hi : i < F.length) : (allChances F S T).getD i [] = chancesF T (rooms S) S.length (hasF F S T) i := by
 unfold allChances
 rw [List.getD_eq_getElem?_getD, List.getElem?_map, List.getElem?_range hi]
 rfl
theorem ch_mem (hc : checkB F S T = 0) (his : isF F S T = true) {i : Nat} (hi : i < F.length) {x : Int} : x ∈ (allChances F S T).getD i [] ↔ 0 ≤ x ∧ CanB S T i x := by
 rw [ch_at hi]
 exact mem_chances hc his (by rw [(bok_of_check hc).nt]; exact hi)
theorem chances_ok (hc : checkB F S T = 0) (his : isF F S T = true) : match_Chances.f F S T = some (allChances F S T, 0) := by
 unfold match_Chances.f
 rw [if_neg (by simp [hc]), if_neg (by simp [his])]
theorem chances_no (hc : checkB F S T = 0) (his : isF F S T = false) : match_Chances.f F S T = some ([], 40) := by
 unfold match_Chances.f
 rw [if_neg (by simp [hc]), if_pos his]
theorem chances_ill (hc : checkB F S T ≠ 0) : match_Chances.f F S T = some ([], checkB F S T) := by
 unfold match_Chances.f
 rw [if_pos hc]
/-- With a find less. -/
theorem less_find (hc : checkB F S T = 0) (his : isF F S T = true) {i : Nat} (hi : i < F.length) :
  checkB (F.eraseIdx i) S (T.eraseIdx i) = 0 ∧ isF (F.eraseIdx i) S (T.eraseIdx i) = true ∧ (F.eraseIdx i).length = F.length - 1 ∧
   ∀ j, j < F.length - 1 → ∀ x, x ∈ (allChances F S T).getD (if i ≤ j then j + 1 else j) [] → x ∈ (allChances (F.eraseIdx i) S (T.eraseIdx i)).getD j [] := by
 have hv := valid_without hc hi
 have hnt := (bok_of_check hc).nt
 have hl : (F.eraseIdx i).length = F.length - 1 := by rw [List.length_eraseIdx, if_pos hi]
 obtain ⟨l, ha⟩ := (isF_iff hc).1 his
 have hi2 : isF (F.eraseIdx i) S (T.eraseIdx i) = true := (isF_iff hv).2 ⟨_, asg_erase (by omega) ha⟩
 refine ⟨hv, hi2, hl, fun j hj x hx => ?_⟩
 rw [ch_mem hv hi2 (by omega)]
 rw [ch_mem hc his (by split <;> omega)] at hx
 obtain ⟨h0, l, ha, hlx⟩ := hx
 refine ⟨h0, l.eraseIdx i, asg_erase (by omega) ha, ?_⟩
 rw [getD_erase]
 split at hlx <;> rename_i e
 ·
  rw [if_neg (by omega)]; exact hlx
 rw [if_pos (by omega)]; exact hlx
/-- With a row of some of the find's slots. -/
theorem less_row (hc : checkB F S T = 0) {i : Nat} (hi : i < F.length) {row : List Int} (hr : risB row 0 ((S.length : Int) - 1) = true) (hsub : ∀ x, x ∈ row → x ∈ T.getD i []) (hne : row ≠ []) (his : isF F S (T.set i row) = true) :
  isF F S T = true ∧ ∀ j, j < F.length → ∀ x, x ∈ (allChances F S (T.set i row)).getD j [] → x ∈ (allChances F S T).getD j [] := by
 have hv := valid_row hc i hr
 have hnt := (bok_of_check hc).nt
 obtain ⟨l, ha⟩ := (isF_iff hv).1 his
 have hi2 : isF F S T = true := (isF_iff hc).2 ⟨_, asg_wider (by omega) hne hsub ha⟩
 refine ⟨hi2, fun j hj x hx => ?_⟩
 rw [ch_mem hv his hj] at hx
 rw [ch_mem hc hi2 hj]
 obtain ⟨h0, l, ha, hlx⟩ := hx
 exact ⟨h0, l, asg_wider (by omega) hne hsub ha, hlx⟩
theorem fixed_iff (hc : checkB F S T = 0) {i : Nat} (hi : i < F.length) {slot : Int} (hr : risB [slot] 0 ((S.length : Int) - 1) = true) (hin : slot ∈ T.getD i []) : isF F S (T.set i [slot]) = true ↔ CanB S T i slot := by
 have hnt := (bok_of_check hc).nt
 rw [isF_iff (valid_row hc i hr)]
 constructor
 ·
  rintro ⟨l, ha⟩
  exact ⟨l, (asg_unrow (by omega) ha hin).1, (asg_unrow (by omega) ha hin).2⟩
 rintro ⟨l, ha, hl⟩
 exact ⟨l, asg_row (row := []) (by omega) ha (fun e => by rw [e] at hin; cases hin) hl⟩
theorem row_ris (hc : checkB F S T = 0) {i : Nat} (hi : i < F.length) : risB (T.getD i []) 0 ((S.length : Int) - 1) = true :=
 fits_row (check_parts hc).2.2.2.2.2 i (by rw [(bok_of_check hc).nt]; exact hi)
theorem one_ris (hc : checkB F S T = 0) {i : Nat} (hi : i < F.length) {slot : Int} (hin : slot ∈ T.getD i []) : risB [slot] 0 ((S.length : Int) - 1) = true :=
 ris_mk (List.pairwise_singleton _ _) (fun x hx => by rw [List.mem_singleton.1 hx]; exact ris_in (row_ris hc hi) hin)
theorem bar_ris (hc : checkB F S T = 0) {i : Nat} (hi : i < F.length) (slot : Int) : risB ((T.getD i []).filter (fun s => decide (s ≠ slot))) 0 ((S.length : Int) - 1) = true :=
 ris_sub (row_ris hc hi) (List.filter_sublist)
end
theorem part_ev (a b : List Int) (ha : a.length ≤ 1000000) (hb : b.length ≤ 1000000) (hs : ∀ x, x ∈ a → x ∈ b) (m : Nat) : ∀ i : Nat, a.length - i = m → i ≤ a.length → Ev (fun k => laganlaw04_part.l0 k a b (i : Int)) true := by
 induction m with
 | zero => exact fun i hm hi => Ev.into (fun k => by rw [laganlaw04_part.l0]) (Ev.neg (by omega) (Ev.const _))
 | succ m ih =>
  intro i hm hi
  have hlt : i < a.length := by omega
  have hw := wrap_pm (i := (i : Int)) (by omega) (by omega)
  have hrd : rd a (i : Int) = a[i] := by simp [rd, List.getD_eq_getElem?_getD, List.getElem?_eq_getElem hlt]
  have hh := has_is b a[i] (by omega)
  rw [decide_eq_true (hs _ (List.getElem_mem hlt))] at hh
  refine Ev.into (fun k => by rw [laganlaw04_part.l0]) (Ev.pos (by omega) (Ev.pos (by omega) ?_))
  rw [hrd, hw.1, show (i : Int) + 1 = ((i + 1 : Nat) : Int) by omega]
  exact Ev.bind hh (Ev.pos rfl (ih (i + 1) (by omega) (by omega)))
theorem part_is (a b : List Int) (ha : a.length ≤ 1000000) (hb : b.length ≤ 1000000) (hs : ∀ x, x ∈ a → x ∈ b) : Ev (fun k => laganlaw04_part.f k a b) true :=
 part_ev a b ha hb hs a.length 0 (by omega) (by omega)
theorem narrow_ev (a b : List (List Int)) (hl : a.length = b.length) (ha : a.length ≤ 1000000) (hra : ∀ l, l ∈ a → l.length ≤ 1000000) (hrb : ∀ l, l ∈ b → l.length ≤ 1000000) (hs : ∀ j, j < a.length → ∀ x, x ∈ a.getD j [] → x ∈ b.getD j []) (m : Nat) : ∀ i : Nat, a.length - i = m → i ≤ a.length → Ev (fun k => laganlaw04_narrower.l0 k a b (i : Int)) true := by
 induction m with
 | zero =>
  intro i hm hi
  refine Ev.into (fun k => by rw [laganlaw04_narrower.l0]) (Ev.neg (by omega) (Ev.into (fun k => by rw [laganlaw04_narrower.j1]) (Ev.neg (by simp) ?_)))
  rw [hl]
  rw [show (((b.length : Int)) == ((b.length : Int))) = true from by simp]
  exact Ev.const _
 | succ m ih =>
  intro i hm hi
  have hlt : i < a.length := by omega
  have hlb : i < b.length := by omega
  have hw := wrap_pm (i := (i : Int)) (by omega) (by omega)
  have h1 : rd_L1 a (i : Int) = a[i] := by simp [rd_L1, List.getD_eq_getElem?_getD, List.getElem?_eq_getElem hlt]
  have h2 : rd_L1 b (i : Int) = b[i] := by simp [rd_L1, List.getD_eq_getElem?_getD, List.getElem?_eq_getElem hlb]
  have hh := part_is a[i] b[i] (hra _ (List.getElem_mem hlt)) (hrb _ (List.getElem_mem hlb)) (fun x hx => by
   have := hs i hlt x
   rw [List.getD_eq_getElem?_getD, List.getElem?_eq_getElem hlt, List.getD_eq_getElem?_getD, List.getElem?_eq_getElem hlb] at this
   exact this hx)
  refine Ev.into (fun k => by rw [laganlaw04_narrower.l0]) (Ev.pos (by omega) ?_)
  rw [decide_eq_true (show (i : Int) < (b.length : Int) by omega)]
  refine Ev.into (fun k => by rw [laganlaw04_narrower.j1]) (Ev.pos rfl (Ev.pos (by omega) (Ev.pos (by omega) (Ev.pos (by omega) ?_))))
  rw [h1, h2, hw.1, show (i : Int) + 1 = ((i + 1 : Nat) : Int) by omega]
  exact Ev.bind hh (Ev.pos rfl (ih (i + 1) (by omega) (by omega)))
theorem narrow_is (a b : List (List Int)) (hl : a.length = b.length) (ha : a.length ≤ 1000000) (hra : ∀ l, l ∈ a → l.length ≤ 1000000) (hrb : ∀ l, l ∈ b → l.length ≤ 1000000) (hs : ∀ j, j < a.length → ∀ x, x ∈ a.getD j [] → x ∈ b.getD j []) : Ev (fun k => laganlaw04_narrower.f k a b) true :=
 narrow_ev a b hl ha hra hrb hs a.length 0 (by omega) (by omega)
end Go.Proofs.Ytkmmihadcbfkoaa
end

section
namespace Go.Proofs.Ytkmmihadcbfkoaa
open Go.RowKit Go.Proofs.YtkmmihadcbfkoaaW.PrintWords PM
set_option linter.unusedVariables false
set_option linter.unusedSimpArgs false
section
variable {F : List Int} {S : List S50} {T : List (List Int)}
theorem ch_rows (hc : checkB F S T = 0) : ∀ l, l ∈ allChances F S T → l.length ≤ 1000 := by
 intro l hl
 unfold allChances at hl
 obtain ⟨f, hf, rfl⟩ := List.mem_map.1 hl
 have hk := bok_of_check hc
 have h1 := hk.row f (by rw [hk.nt]; exact List.mem_range.1 hf)
 exact Nat.le_trans (List.length_filter_le _ _) h1
theorem wo_zero {find : Int} {a : List Int} {b : List S50} {t : List (List Int)} (h : withoutP F S T find = (a, b, t, 0)) :
  checkB F S T = 0 ∧ 0 ≤ find ∧ find < F.length ∧ a = F.eraseIdx find.toNat ∧ b = S ∧ t = T.eraseIdx find.toNat := by
 unfold withoutP at h
 split at h
 ·
  rename_i hq
  injection h with h1 h
  injection h with h2 h
  injection h with h3 h4
  obtain ⟨hc, hf, _⟩ := ask_parts hq
  exact ⟨hc, (hf rfl).1, (hf rfl).2, h1.symm, h2.symm, h3.symm⟩
 rename_i hq
 injection h with h1 h
 injection h with h2 h
 injection h with h3 h4
 exact absurd h4 hq
theorem fit_zero {find slot : Int} {g : List Int → List Int} {a : List Int} {b : List S50} {t : List (List Int)} (h : fittedP F S T find slot g = (a, b, t, 0)) :
  askB F S T find slot false false = 0 ∧ slot ∈ T.getD find.toNat [] ∧ a = F ∧ b = S ∧ t = T.set find.toNat (g (T.getD find.toNat [])) := by
 unfold fittedP at h
 split at h
 ·
  rename_i hq
  split at h
  ·
   rename_i hin
   injection h with h1 h
   injection h with h2 h
   injection h with h3 h4
   exact ⟨hq, hin, h1.symm, h2.symm, h3.symm⟩
  injection h with h1 h
  injection h with h2 h
  injection h with h3 h4
  exact absurd h4 (by decide)
 rename_i hq
 injection h with h1 h
 injection h with h2 h
 injection h with h3 h4
 exact absurd h4 hq
theorem fit_same (find slot : Int) (g g' : List Int → List Int) : (fittedP F S T find slot g).2.2.2 = (fittedP F S T find slot g').2.2.2 := by
 unfold fittedP
 split
 ·
  split <;> rfl
 rfl
theorem ch_some (F : List Int) (S : List S50) (T : List (List Int)) : ∃ cl e, match_Chances.f F S T = some (cl, e) ∧ (e = 0 → checkB F S T = 0 ∧ isF F S T = true ∧ cl = allChances F S T) := by
 by_cases hc : checkB F S T = 0
 rotate_left
 ·
  exact ⟨_, _, chances_ill hc, fun h => absurd h hc⟩
 cases his : isF F S T with
 | true => exact ⟨_, _, chances_ok hc his, fun _ => ⟨hc, rfl, rfl⟩⟩
 | false => exact ⟨_, _, chances_no hc his, fun h => absurd h (by decide)⟩
/-- With a find less. -/
theorem part_first (hc : checkB F S T = 0) (his : isF F S T = true) {i : Nat} (hi : i < F.length) :
  ∃ dl, match_Chances.f (F.eraseIdx i) S (T.eraseIdx i) = some (dl, 0) ∧ dl.length = F.length - 1 ∧
   ∀ j, j < F.length - 1 → ∃ K, laganlaw04_part.f K ((allChances F S T).getD (if i ≤ j then j + 1 else j) []) (dl.getD j []) = some true := by
 obtain ⟨h1, h2, h3, h4⟩ := less_find hc his hi
 refine ⟨_, chances_ok h1 h2, by rw [ch_len, h3], fun j hj => ?_⟩
 have hm : ∀ (L : List (List Int)) (n : Nat), n < L.length → L.getD n [] ∈ L := fun L n hn => by
  rw [List.getD_eq_getElem?_getD, List.getElem?_eq_getElem hn]; exact List.getElem_mem hn
 have r1 := ch_rows hc _ (hm (allChances F S T) (if i ≤ j then j + 1 else j) (by rw [ch_len]; split <;> omega))
 have r2 := ch_rows h1 _ (hm (allChances (F.eraseIdx i) S (T.eraseIdx i)) j (by rw [ch_len]; omega))
 obtain ⟨K, hK⟩ := part_is _ _ (by omega) (by omega) (h4 j hj)
 exact ⟨K, hK K (Nat.le_refl _)⟩
theorem narrow_of {T' : List (List Int)} (hc : checkB F S T = 0) (hv : checkB F S T' = 0) (h : ∀ j, j < F.length → ∀ x, x ∈ (allChances F S T').getD j [] → x ∈ (allChances F S T).getD j []) :
  ∃ K, laganlaw04_narrower.f K (allChances F S T') (allChances F S T) = some true := by
 have hf := (bok_of_check hc).nf
 obtain ⟨K, hK⟩ := narrow_is (allChances F S T') (allChances F S T) (by rw [ch_len, ch_len]) (by rw [ch_len]; omega) (fun l hl => Nat.le_trans (ch_rows hv l hl) (by decide)) (fun l hl => Nat.le_trans (ch_rows hc l hl) (by decide)) (fun j hj => h j (by rwa [ch_len] at hj))
 exact ⟨K, hK K (Nat.le_refl _)⟩
/-- With a slot barred, and fixed. -/
theorem part_last (hc : checkB F S T = 0) (his : isF F S T = true) {i : Nat} {slot : Int} (hq : askB F S T (i : Int) slot false false = 0) (hin : slot ∈ T.getD i []) :
  ∃ l2 k2 l3 k3 may, match_Chances.f F S (T.set i ((T.getD i []).filter (fun s => decide (s ≠ slot)))) = some (l2, k2) ∧ match_Chances.f F S (T.set i [slot]) = some (l3, k3) ∧ match_May.f F S T (i : Int) slot = some (may, 0) ∧ (may = true ↔ k3 = 0) ∧
   (((T.getD i []).filter (fun s => decide (s ≠ slot))) ≠ [] → k2 = 0 → ∃ K, laganlaw04_narrower.f K l2 (allChances F S T) = some true) ∧ (k3 = 0 → ∃ K, laganlaw04_narrower.f K l3 (allChances F S T) = some true) := by
 obtain ⟨_, hfd, hsl⟩ := ask_parts hq
 have hf := hfd rfl
 have hs := hsl rfl
 have hi : i < F.length := by omega
 obtain ⟨l2, k2, e2, f2⟩ := ch_some F S (T.set i ((T.getD i []).filter (fun s => decide (s ≠ slot))))
 obtain ⟨l3, k3, e3, f3⟩ := ch_some F S (T.set i [slot])
 obtain ⟨may, no, t, r, ea, hm⟩ := may_is hc (i : Int) slot
 have hr := hm.some ⟨hf.1, hf.2, hs.1, hs.2⟩ his
 have h1 := one_ris hc hi hin
 have hfx := fixed_iff hc hi h1 hin
 have hv3 := valid_row hc i h1
 have hsub : ∀ x, x ∈ [slot] → x ∈ T.getD i [] := fun x hx => by rw [List.mem_singleton.1 hx]; exact hin
 refine ⟨l2, k2, l3, k3, may, e2, e3, by rw [hm.may_, hr.1], ?_, fun hne hk => ?_, fun hk => ?_⟩
 ·
  rw [hr.2.2.can, show ((i : Int)).toNat = i from Int.toNat_natCast i, ← hfx]
  constructor
  ·
   intro h
   rw [chances_ok hv3 h] at e3
   injection e3 with e3
   injection e3 with _ e3
   exact e3.symm
  exact fun h => (f3 h).2.1
 ·
  obtain ⟨hv, his2, rfl⟩ := f2 hk
  exact narrow_of hc hv (less_row hc hi (bar_ris hc hi slot) (fun x hx => (List.mem_filter.1 hx).1) hne his2).2
 obtain ⟨hv, his2, rfl⟩ := f3 hk
 exact narrow_of hc hv (less_row hc hi h1 hsub (by simp) his2).2
end
end Go.Proofs.Ytkmmihadcbfkoaa
end

section
namespace Go.Proofs.Ytkmmihadcbfkoaa
open Go.RowKit Go.Proofs.YtkmmihadcbfkoaaW.PrintWords Go.Proofs.YtkmmihadcbfkoaaW.PrintLast Go.Proofs.YtkmmihadcbfkoaaW.PrintMore PM
set_option linter.unusedVariables false
set_option linter.unusedSimpArgs false
def boards_T16 : Bool × List (List Nat × List Nat) := (true, [([], []), ([], []), ([0, 1], [0, 1]), ([2], [2]), ([], []), ([], []), ([4, 5], [4, 5]), ([6], [6]), ([3, 7], [3, 7]), ([8], [8])])
def boards_B16 : List Nat := [0, 0, 3, 7, 0, 0, 48, 112, 255, 511]
theorem boards_tab16 : rtab .any (opsOf Try.f12 16) = boards_T16 := by kernel_rfl
theorem boards_bits16 : waitsOk boards_T16.2 boards_B16 = true := by kernel_rfl
/-- A list of lists that a call has made, to be read. -/
def CAt (A : Option Addr) (c : Nat) (l : List (List Int)) (w : World) : Prop := l.length ≤ c ∧ Kd.C (Kd.slice 3 (Kd.int .i64)) w A l.length l
theorem CAt.later {A : Option Addr} {c : Nat} {l : List (List Int)} {w w' : World} (h : CAt A c l w) (hb : Below w.heap.size w w') : CAt A c l w' := ⟨h.1, Kd.C_below h.2 hb⟩
theorem cat_of {v : Value} {l : List (List Int)} {w w' : World} {base : Nat} {ok : Nat → Prop} (h : Kd.S (Kd.slice 3 (Kd.int .i64)) 22 w base ok v l) : ∃ A c, v = .slice A l.length c ∧ CAt A c l w := by
 obtain ⟨A, c, e, h1, h2⟩ := Kd.R_reads (Kd.S_R h)
 exact ⟨A, c, e, h1, h2⟩
/-- Chances at a board of a call's own. -/
theorem chances_own {F : List Int} {S : List S50} {T : List (List Int)} {A0 A1 A2 : Option Addr} {c0 c1 c2 : Nat} {w : World} {cl : List (List Int)} {e1 : Int}
  (h : OwnAt (F, S, T) (.slice A0 F.length c0) (.slice A1 S.length c1) (.slice A2 T.length c2) w) (hc : match_Chances.f F S T = some (cl, e1)) :
  Calls Try.prog 16 #[.agg #[.slice A0 F.length c0, .slice A1 S.length c1, .slice A2 T.length c2]] w fun e w' => ∃ A c, e = .returned (.tuple #[.slice A cl.length c, .int .i64 e1]) ∧ CAt A c cl w' ∧ Below w.heap.size w w' := by
 have a0 := Kd.R_reads' h.1
 have a1 := Kd.R_reads' h.2.1
 have a2 := Kd.S_reads' h.2.2
 refine (match_Chances.calls A0 c0 F A1 c1 S A2 c2 T cl e1 w a0.2.2 a0.2.1 a1.2.2 a1.2.1 a2.2.2 a2.2.1 hc).mono ?_
 rintro e w' ⟨v, rfl, hS, hB⟩
 obtain ⟨A, c, rfl, hC⟩ := cat_of (w' := w') hS
 exact ⟨A, c, rfl, hC, hB⟩
theorem chances_at {F : List Int} {S : List S50} {T : List (List Int)} {A0 A1 A2 : Option Addr} {c0 c1 c2 : Nat} {w0 w : World} {cl : List (List Int)} {e1 : Int}
  (h : LAt w0 A0 c0 F A1 c1 S A2 c2 T w) (hc : match_Chances.f F S T = some (cl, e1)) :
  Calls Try.prog 16 #[.agg #[.slice A0 F.length c0, .slice A1 S.length c1, .slice A2 T.length c2]] w fun e w' => ∃ A c, e = .returned (.tuple #[.slice A cl.length c, .int .i64 e1]) ∧ CAt A c cl w' ∧ Below w.heap.size w w' := by
 refine (match_Chances.calls A0 c0 F A1 c1 S A2 c2 T cl e1 w h.C0 h.l0 h.C1 h.l1 h.C2 h.l2 hc).mono ?_
 rintro e w' ⟨v, rfl, hS, hB⟩
 obtain ⟨A, c, rfl, hC⟩ := cat_of (w' := w') hS
 exact ⟨A, c, rfl, hC, hB⟩
set_option maxRecDepth 100000 in
set_option maxHeartbeats 8000000 in
theorem boards_walk (A0 : Option Addr) (c0 : Nat) (F : List Int) (A1 : Option Addr) (c1 : Nat) (S : List S50) (A2 : Option Addr) (c2 : Nat) (T : List (List Int)) (find slot : Int) (w : World)
  (hr0 : Kd.C (Kd.int .i64) w A0 F.length F) (hc0 : F.length ≤ c0) (hr1 : Kd.C k50 w A1 S.length S) (hc1 : S.length ≤ c1) (hr2 : Kd.C (Kd.slice 3 (Kd.int .i64)) w A2 T.length T) (hc2 : T.length ≤ c2) :
  Calls Try.prog 12 #[.agg #[.slice A0 F.length c0, .slice A1 S.length c1, .slice A2 T.length c2], .int .i64 find, .int .i64 slot] w fun e w' => e = .returned (.bool true) ∧ Below w.heap.size w w' := by
 have HL := Go.Lib.hid (LO.start hr0 hc0 hr1 hc1 hr2 hc2)
 have HS := Go.Lib.hid (And.intro hr0.2.1 (And.intro hr1.2.1 (And.intro hr2.2.1 HL.out.at.rows)))
 clear hr0 hc0 hr1 hc1 hr2 hc2
 obtain ⟨b, hK⟩ := wide_is F S T HS.out.2.2.1
 obtain ⟨K, hK⟩ := hK
 have HK := Go.Lib.hid (hK K (Nat.le_refl _))
 obtain ⟨cl, e1, hch, hch0⟩ := ch_some F S T
 obtain ⟨r, er1⟩ : ∃ r, withoutP F S T find = r := ⟨_, rfl⟩
 obtain ⟨a1, b1, t1, q1⟩ := r
 obtain ⟨r, er2⟩ : ∃ r, barredP F S T find slot = r := ⟨_, rfl⟩
 obtain ⟨a2, b2, t2, q2⟩ := r
 obtain ⟨r, er3⟩ : ∃ r, fixedP F S T find slot = r := ⟨_, rfl⟩
 obtain ⟨a3, b3, t3, q3⟩ := r
 obtain rfl : q2 = q3 := by
  have h := fit_same (F := F) (S := S) (T := T) find slot (fun l => l.filter (fun s => decide (s ≠ slot))) (fun _ => [slot])
  rw [show fittedP F S T find slot (fun l => l.filter (fun s => decide (s ≠ slot))) = _ from er2, show fittedP F S T find slot (fun _ => [slot]) = _ from er3] at h
  exact h
 have H1 := Go.Lib.hid (And.intro hch (And.intro hch0 er1))
 have H2 := Go.Lib.hid (And.intro er2 er3)
 have n2 : (q2 != q2) = false := by simp
 clear hK hch hch0 er1 er2 er3 HS
 go_enter Try.func12, Try.ntmps12
 have k0 := HL.out.at.k0
 have k1 := HL.out.at.k1
 have k2 := HL.out.at.k2
 have CC := laganlaw04_wide.calls K A0 c0 F A1 c1 S A2 c2 T b _ HL.out.at.C0 HL.out.at.l0 HL.out.at.C1 HL.out.at.l1 HL.out.at.C2 HL.out.at.l2 HK.out
 go_wp2_with fail
 clear k0 k1 k2 HK
 refine CC.mono ?_
 clear CC
 rintro e w1 ⟨rfl, hB⟩
 replace HL := Go.Lib.hid (HL.out.later hB)
 clear hB
 cases b with
 | false =>
  have k0 := HL.out.at.k0
  have k1 := HL.out.at.k1
  have k2 := HL.out.at.k2
  have CC := matched_walk w1
  go_wp2_with fail
  clear k0 k1 k2
  refine CC.mono ?_
  clear CC
  rintro e w99 ⟨rfl, hB⟩
  replace HL := Go.Lib.hid (HL.out.later hB)
  go_wp2_with fail
  go_ret
  exact ⟨rfl, HL.out.at.B⟩
 | true =>
 have k0 := HL.out.at.k0
 have k1 := HL.out.at.k1
 have k2 := HL.out.at.k2
 have CC := chances_at HL.out.at H1.out.1
 go_wp2_with fail
 clear k0 k1 k2
 refine CC.mono ?_
 clear CC
 rintro e w2 ⟨Ac, cc, rfl, hC, hB⟩
 replace HL := Go.Lib.hid (HL.out.later hB)
 clear hB
 have HC := Go.Lib.hid hC
 clear hC
 have k0 := HL.out.at.k0
 have k1 := HL.out.at.k1
 have k2 := HL.out.at.k2
 have CC := without_own HL.out.at H1.out.2.2
 go_wp2_with fail
 clear k0 k1 k2
 refine CC.mono ?_
 clear CC
 rintro e w3 ⟨X0, x0, X1, x1, X2, x2, rfl, hO, hB⟩
 replace HL := Go.Lib.hid (HL.out.later hB)
 replace HC := Go.Lib.hid (HC.out.later hB)
 clear hB
 have hB : Below w3.heap.size w3 (w3.alloc (.cells #[.slice X0 a1.length x0, .slice X1 b1.length x1, .slice X2 t1.length x2] 26)) := (Below.refl _ _).alloc (Nat.le_refl _) _
 have HX := Go.Lib.hid (hO.later hB)
 have HBX := Go.Lib.hid (World.alloc_heap_new w3 (.cells #[.slice X0 a1.length x0, .slice X1 b1.length x1, .slice X2 t1.length x2] 26))
 clear hO
 replace HL := Go.Lib.hid (HL.out.later hB)
 replace HC := Go.Lib.hid (HC.out.later hB)
 clear hB
 by_cases g1 : e1 = 0
 rotate_left
 ·
  have g2 : (e1 != 0) = true := by simpa using g1
  have k0 := HL.out.at.k0
  have k1 := HL.out.at.k1
  have k2 := HL.out.at.k2
  have CC := matched_walk (w3.alloc (.cells #[.slice X0 a1.length x0, .slice X1 b1.length x1, .slice X2 t1.length x2] 26))
  go_wp2_with fail
  clear k0 k1 k2
  refine CC.mono ?_
  clear CC
  rintro e w99 ⟨rfl, hB⟩
  replace HL := Go.Lib.hid (HL.out.later hB)
  go_wp2_with fail
  go_ret
  exact ⟨rfl, HL.out.at.B⟩
 subst g1
 by_cases g1 : q1 = 0
 rotate_left
 ·
  have g2 : (q1 != 0) = true := by simpa using g1
  have k0 := HL.out.at.k0
  have k1 := HL.out.at.k1
  have k2 := HL.out.at.k2
  have CC := matched_walk (w3.alloc (.cells #[.slice X0 a1.length x0, .slice X1 b1.length x1, .slice X2 t1.length x2] 26))
  go_wp2_with fail
  clear k0 k1 k2
  refine CC.mono ?_
  clear CC
  rintro e w99 ⟨rfl, hB⟩
  replace HL := Go.Lib.hid (HL.out.later hB)
  go_wp2_with fail
  go_ret
  exact ⟨rfl, HL.out.at.B⟩
 subst g1
 obtain ⟨hc, his, hcl⟩ := H1.out.2.1 rfl
 obtain ⟨_, hf0, hf1, e2, e3, e4⟩ := wo_zero H1.out.2.2
 obtain ⟨fn, rfl⟩ := Int.eq_ofNat_of_zero_le hf0
 rw [Int.toNat_natCast] at e2 e4
 obtain ⟨dl, hdl, hdn, hpart⟩ := part_first hc his (i := fn) (by omega)
 rw [← e2, ← e3, ← e4] at hdl
 rw [← hcl] at hpart
 have hcn : cl.length = F.length := by rw [hcl]; exact ch_len
 have hf60 := (bok_of_check hc).nf
 have HP := Go.Lib.hid (And.intro hpart (And.intro hc (And.intro his hcl)))
 have HD := Go.Lib.hid hdl
 clear hpart hdl hc his hcl e2 e3 e4 H1 hf0
 have g3 : ((dl.length : Int) != wrap64 ((cl.length : Int) - 1)) = false := by rw [hcn, hdn]; have hw := (wrap_pm (i := (F.length : Int)) (by omega) (by omega)).2; rw [hw]; simp; omega
 have HN := Go.Lib.hid (And.intro hcn (And.intro hdn (And.intro hf60 hf1)))
 clear hcn hdn hf60 hf1
 have x0 := cell_of_heap HBX.out (j := 0) rfl
 have x1 := cell_of_heap HBX.out (j := 1) rfl
 have x2 := cell_of_heap HBX.out (j := 2) rfl
 have k0 := HL.out.at.k0
 have k1 := HL.out.at.k1
 have k2 := HL.out.at.k2
 have CC := chances_own HX.out HD.out
 go_wp2_with fail
 clear k0 k1 k2
 clear x0 x1 x2
 refine CC.mono ?_
 clear CC HD HX
 rintro e w4 ⟨Ad, cd, rfl, hC, hB⟩
 replace HL := Go.Lib.hid (HL.out.later hB)
 replace HC := Go.Lib.hid (HC.out.later hB)
 clear hB
 have HD := Go.Lib.hid hC
 clear hC HBX
 go_wp2_with fail
 go_loopw [13] (fun i wr => ∃ k : Nat, k ≤ dl.length ∧ i = .int .i64 k ∧ Hid (LO w A0 c0 F A1 c1 S A2 c2 T wr ∧ CAt Ac cc cl wr ∧ CAt Ad cd dl wr)) (fun i _ => dl.length - (intOf i).toNat)
 case atStart => exact ⟨0, Nat.zero_le _, rfl, HL.out, HC.out, HD.out⟩
 obtain ⟨k, hk, rfl, HI⟩ := hrel
 by_cases hlt : k < dl.length
 rotate_left
 ·
  have hke : k = dl.length := by omega
  subst hke
  replace HL := Go.Lib.hid HI.out.1
  replace HC := Go.Lib.hid HI.out.2.1
  clear HI HD hk hlt
  have k0 := HL.out.at.k0
  have k1 := HL.out.at.k1
  have k2 := HL.out.at.k2
  have CC := barred_own HL.out.at H2.out.1
  go_wp2_with fail
  clear k0 k1 k2
  refine CC.mono ?_
  clear CC
  rintro e w5 ⟨Y0, y0, Y1, y1, Y2, y2, rfl, hO, hB⟩
  replace HL := Go.Lib.hid (HL.out.later hB)
  replace HC := Go.Lib.hid (HC.out.later hB)
  clear hB
  have hB : Below w5.heap.size w5 (w5.alloc (.cells #[.slice Y0 a2.length y0, .slice Y1 b2.length y1, .slice Y2 t2.length y2] 26)) := (Below.refl _ _).alloc (Nat.le_refl _) _
  have HY := Go.Lib.hid (hO.later hB)
  have HBY := Go.Lib.hid (World.alloc_heap_new w5 (.cells #[.slice Y0 a2.length y0, .slice Y1 b2.length y1, .slice Y2 t2.length y2] 26))
  clear hO
  replace HL := Go.Lib.hid (HL.out.later hB)
  replace HC := Go.Lib.hid (HC.out.later hB)
  clear hB
  have k0 := HL.out.at.k0
  have k1 := HL.out.at.k1
  have k2 := HL.out.at.k2
  have CC := fixed_own HL.out.at H2.out.2
  go_wp2_with fail
  clear k0 k1 k2
  refine CC.mono ?_
  clear CC
  rintro e w6 ⟨Z0, z0, Z1, z1, Z2, z2, rfl, hO, hB⟩
  replace HL := Go.Lib.hid (HL.out.later hB)
  replace HC := Go.Lib.hid (HC.out.later hB)
  replace HY := Go.Lib.hid (HY.out.later hB)
  replace HBY := Go.Lib.hid ((hB.block _ (blk_lt HBY.out)).trans HBY.out)
  clear hB
  have hB : Below w6.heap.size w6 (w6.alloc (.cells #[.slice Z0 a3.length z0, .slice Z1 b3.length z1, .slice Z2 t3.length z2] 26)) := (Below.refl _ _).alloc (Nat.le_refl _) _
  have HZ := Go.Lib.hid (hO.later hB)
  have HBZ := Go.Lib.hid (World.alloc_heap_new w6 (.cells #[.slice Z0 a3.length z0, .slice Z1 b3.length z1, .slice Z2 t3.length z2] 26))
  clear hO
  replace HL := Go.Lib.hid (HL.out.later hB)
  replace HC := Go.Lib.hid (HC.out.later hB)
  replace HY := Go.Lib.hid (HY.out.later hB)
  replace HBY := Go.Lib.hid ((hB.block _ (blk_lt HBY.out)).trans HBY.out)
  clear hB
  by_cases g1 : q2 = 0
  rotate_left
  ·
   have g2 : (q2 != 0) = true := by simpa using g1
   have k0 := HL.out.at.k0
   have k1 := HL.out.at.k1
   have k2 := HL.out.at.k2
   have CC := matched_walk (w6.alloc (.cells #[.slice Z0 a3.length z0, .slice Z1 b3.length z1, .slice Z2 t3.length z2] 26))
   go_wp2_with fail
   clear k0 k1 k2
   refine CC.mono ?_
   clear CC
   rintro e w99 ⟨rfl, hB⟩
   replace HL := Go.Lib.hid (HL.out.later hB)
   go_wp2_with fail
   go_ret
   exact ⟨rfl, HL.out.at.B⟩
  subst g1
  obtain ⟨hq, hin, e2, e3, e4⟩ := fit_zero (show fittedP F S T (fn : Int) slot (fun l => l.filter (fun s => decide (s ≠ slot))) = _ from H2.out.1)
  obtain ⟨_, _, z2, z3, z4⟩ := fit_zero (show fittedP F S T (fn : Int) slot (fun _ => [slot]) = _ from H2.out.2)
  rw [Int.toNat_natCast] at hin e4 z4
  obtain ⟨l2, k2, l3, k3, may, hl2, hl3, hmay, hmk, hn2, hn3⟩ := part_last HP.out.2.1 HP.out.2.2.1 hq hin
  have hrow : t2.getD fn [] = (T.getD fn []).filter (fun s => decide (s ≠ slot)) := by rw [e4, getD_set_row T fn _ fn (by rw [(bok_of_check HP.out.2.1).nt]; exact Int.ofNat_lt.1 HN.out.2.2.2), if_pos rfl]
  have hfn : fn < t2.length := by rw [e4, List.length_set, (bok_of_check HP.out.2.1).nt]; exact Int.ofNat_lt.1 HN.out.2.2.2
  rw [← hrow] at hn2
  rw [← e4] at hl2
  rw [← z4] at hl3
  have hl2' : match_Chances.f a2 b2 t2 = some (l2, k2) := by rw [e2, e3]; exact hl2
  have hl3' : match_Chances.f a3 b3 t3 = some (l3, k3) := by rw [z2, z3]; exact hl3
  rw [← HP.out.2.2.2] at hn2 hn3
  have HQ := Go.Lib.hid (And.intro hl2' (And.intro hl3' (And.intro hmay (And.intro hmk (And.intro hn2 (And.intro hn3 hfn))))))
  clear hl2 hl3 hl2' hl3' hmay hmk hn2 hn3 hrow hq hin e2 e3 e4 z2 z3 z4 hfn H2 HP
  have x0 := cell_of_heap HBY.out (j := 0) rfl
  have x1 := cell_of_heap HBY.out (j := 1) rfl
  have x2 := cell_of_heap HBY.out (j := 2) rfl
  have k0 := HL.out.at.k0
  have k1 := HL.out.at.k1
  have k2 := HL.out.at.k2
  have CC := chances_own HY.out HQ.out.1
  go_wp2_with fail
  clear k0 k1 k2
  clear x0 x1 x2
  refine CC.mono ?_
  clear CC
  rintro e w7 ⟨Al, cx, rfl, hC, hB⟩
  replace HL := Go.Lib.hid (HL.out.later hB)
  replace HC := Go.Lib.hid (HC.out.later hB)
  replace HY := Go.Lib.hid (HY.out.later hB)
  replace HBY := Go.Lib.hid ((hB.block _ (blk_lt HBY.out)).trans HBY.out)
  replace HZ := Go.Lib.hid (HZ.out.later hB)
  replace HBZ := Go.Lib.hid ((hB.block _ (blk_lt HBZ.out)).trans HBZ.out)
  clear hB
  have HE := Go.Lib.hid hC
  clear hC
  have x0 := cell_of_heap HBZ.out (j := 0) rfl
  have x1 := cell_of_heap HBZ.out (j := 1) rfl
  have x2 := cell_of_heap HBZ.out (j := 2) rfl
  have k0 := HL.out.at.k0
  have k1 := HL.out.at.k1
  have k2 := HL.out.at.k2
  have CC := chances_own HZ.out HQ.out.2.1
  go_wp2_with fail
  clear k0 k1 k2
  clear x0 x1 x2
  refine CC.mono ?_
  clear CC HZ HBZ
  rintro e w8 ⟨Am, cm, rfl, hC, hB⟩
  replace HL := Go.Lib.hid (HL.out.later hB)
  replace HC := Go.Lib.hid (HC.out.later hB)
  replace HY := Go.Lib.hid (HY.out.later hB)
  replace HBY := Go.Lib.hid ((hB.block _ (blk_lt HBY.out)).trans HBY.out)
  replace HE := Go.Lib.hid (HE.out.later hB)
  clear hB
  have HM := Go.Lib.hid hC
  clear hC
  have k0 := HL.out.at.k0
  have k1 := HL.out.at.k1
  have k2 := HL.out.at.k2
  have CC := match_May.calls A0 c0 F A1 c1 S A2 c2 T fn slot may 0 w8 HL.out.at.C0 HL.out.at.l0 HL.out.at.C1 HL.out.at.l1 HL.out.at.C2 HL.out.at.l2 HQ.out.2.2.1
  go_wp2_with fail
  clear k0 k1 k2
  refine CC.mono ?_
  clear CC
  rintro e w9 ⟨rfl, hB⟩
  replace HL := Go.Lib.hid (HL.out.later hB)
  replace HC := Go.Lib.hid (HC.out.later hB)
  replace HY := Go.Lib.hid (HY.out.later hB)
  replace HBY := Go.Lib.hid ((hB.block _ (blk_lt HBY.out)).trans HBY.out)
  replace HE := Go.Lib.hid (HE.out.later hB)
  replace HM := Go.Lib.hid (HM.out.later hB)
  clear hB
  obtain ⟨bd, As, cs, ebd, hbell, hls, hCs⟩ := rows_at (Kd.S_reads' HY.out.2.2).2.2 (fn : Int) (by omega) (by have := HQ.out.2.2.2.2.2.2; exact Int.ofNat_lt.2 this)
  rw [Int.toNat_natCast] at hbell hls hCs
  have hnn := HQ.out.2.2.2.2.1
  obtain ⟨row, erow⟩ : ∃ row, t2.getD fn [] = row := ⟨_, rfl⟩
  rw [erow] at hbell hnn
  have HNN := Go.Lib.hid hnn
  clear hls hCs hnn erow
  cases ebd
  have n1 : (0 ≤ (fn : Int)) = True := eq_true (by omega)
  have n2b : fn < t2.length := HQ.out.2.2.2.2.2.2
  have n3 : ((fn : Int) < (t2.length : Int)) = True := eq_true (Int.ofNat_lt.2 n2b)
  have HMK := Go.Lib.hid HQ.out.2.2.2.1
  have HN3 := Go.Lib.hid HQ.out.2.2.2.2.2.1
  clear HQ
  have x0 := cell_of_heap HBY.out (j := 0) rfl
  have x1 := cell_of_heap HBY.out (j := 1) rfl
  have x2 := cell_of_heap HBY.out (j := 2) rfl
  by_cases h3 : k3 = 0
  rotate_left
  ·
   have g3 : (k3 == 0) = false := by simpa using h3
   have g3b : decide (k3 = 0) = false := decide_eq_false h3
   obtain rfl : may = false := by cases may with | false => rfl | true => exact absurd (HMK.out.1 rfl) h3
   by_cases h4 : row.length = 0
   ·
    have g4 : decide ((row.length : Int) > 0) = false := decide_eq_false (by omega)
    have CC := matched_walk w9
    go_wp2_with fail
    refine CC.mono ?_
    clear CC
    rintro e w99 ⟨rfl, hB⟩
    replace HL := Go.Lib.hid (HL.out.later hB)
    go_wp2_with fail
    go_ret
    exact ⟨rfl, HL.out.at.B⟩
   have g4 : decide ((row.length : Int) > 0) = true := decide_eq_true (by omega)
   have g4b : 0 < row.length := Nat.pos_of_ne_zero h4
   by_cases h5 : k2 = 0
   rotate_left
   ·
    have g5 : (k2 == 0) = false := by simpa using h5
    have g5b : decide (k2 = 0) = false := decide_eq_false h5
    have CC := matched_walk w9
    go_wp2_with fail
    refine CC.mono ?_
    clear CC
    rintro e w99 ⟨rfl, hB⟩
    replace HL := Go.Lib.hid (HL.out.later hB)
    go_wp2_with fail
    go_ret
    exact ⟨rfl, HL.out.at.B⟩
   subst h5
   obtain ⟨K2, hK⟩ := HNN.out (fun e => h4 (by rw [e]; rfl)) (by simp)
   have CC := laganlaw04_narrower.calls K2 Al cx l2 Ac cc cl true w9 HE.out.2 HE.out.1 HC.out.2 HC.out.1 hK
   go_wp2_with fail
   refine CC.mono ?_
   clear CC hK
   rintro e we ⟨rfl, hd⟩
   have hB := hd.below
   have hbell2 : we.cell? (bd.add fn) = some (.slice As row.length cs) := by obtain ⟨n, rfl⟩ := hd; exact hbell
   clear hd hbell
   have hbell := hbell2
   clear hbell2
   replace HL := Go.Lib.hid (HL.out.later hB)
   replace HC := Go.Lib.hid (HC.out.later hB)
   replace HBY := Go.Lib.hid ((hB.block _ (blk_lt HBY.out)).trans HBY.out)
   replace HE := Go.Lib.hid (HE.out.later hB)
   replace HM := Go.Lib.hid (HM.out.later hB)
   clear hB
   have CC := matched_walk we
   go_wp2_with fail
   refine CC.mono ?_
   clear CC
   rintro e w99 ⟨rfl, hB⟩
   replace HL := Go.Lib.hid (HL.out.later hB)
   go_wp2_with fail
   go_ret
   exact ⟨rfl, HL.out.at.B⟩
  subst h3
  obtain rfl := HMK.out.2 rfl
  by_cases h4 : row.length = 0
  ·
   have g4 : decide ((row.length : Int) > 0) = false := decide_eq_false (by omega)
   obtain ⟨K3, hK⟩ := HN3.out (by simp)
   have CC := laganlaw04_narrower.calls K3 Am cm l3 Ac cc cl true w9 HM.out.2 HM.out.1 HC.out.2 HC.out.1 hK
   go_wp2_with fail
   refine CC.mono ?_
   clear CC hK
   rintro e wf ⟨rfl, hd⟩
   have hB := hd.below
   have hbell2 : wf.cell? (bd.add fn) = some (.slice As row.length cs) := by obtain ⟨n, rfl⟩ := hd; exact hbell
   clear hd hbell
   have hbell := hbell2
   clear hbell2
   replace HL := Go.Lib.hid (HL.out.later hB)
   replace HC := Go.Lib.hid (HC.out.later hB)
   replace HBY := Go.Lib.hid ((hB.block _ (blk_lt HBY.out)).trans HBY.out)
   replace HE := Go.Lib.hid (HE.out.later hB)
   replace HM := Go.Lib.hid (HM.out.later hB)
   clear hB
   have CC := matched_walk wf
   go_wp2_with fail
   refine CC.mono ?_
   clear CC
   rintro e w99 ⟨rfl, hB⟩
   replace HL := Go.Lib.hid (HL.out.later hB)
   go_wp2_with fail
   go_ret
   exact ⟨rfl, HL.out.at.B⟩
  have g4 : decide ((row.length : Int) > 0) = true := decide_eq_true (by omega)
  have g4b : 0 < row.length := Nat.pos_of_ne_zero h4
  by_cases h5 : k2 = 0
  rotate_left
  ·
   have g5 : (k2 == 0) = false := by simpa using h5
   have g5b : decide (k2 = 0) = false := decide_eq_false h5
   obtain ⟨K3, hK⟩ := HN3.out (by simp)
   have CC := laganlaw04_narrower.calls K3 Am cm l3 Ac cc cl true w9 HM.out.2 HM.out.1 HC.out.2 HC.out.1 hK
   go_wp2_with fail
   refine CC.mono ?_
   clear CC hK
   rintro e wf ⟨rfl, hd⟩
   have hB := hd.below
   have hbell2 : wf.cell? (bd.add fn) = some (.slice As row.length cs) := by obtain ⟨n, rfl⟩ := hd; exact hbell
   clear hd hbell
   have hbell := hbell2
   clear hbell2
   replace HL := Go.Lib.hid (HL.out.later hB)
   replace HC := Go.Lib.hid (HC.out.later hB)
   replace HBY := Go.Lib.hid ((hB.block _ (blk_lt HBY.out)).trans HBY.out)
   replace HE := Go.Lib.hid (HE.out.later hB)
   replace HM := Go.Lib.hid (HM.out.later hB)
   clear hB
   have CC := matched_walk wf
   go_wp2_with fail
   refine CC.mono ?_
   clear CC
   rintro e w99 ⟨rfl, hB⟩
   replace HL := Go.Lib.hid (HL.out.later hB)
   go_wp2_with fail
   go_ret
   exact ⟨rfl, HL.out.at.B⟩
  subst h5
  obtain ⟨K2, hK⟩ := HNN.out (fun e => h4 (by rw [e]; rfl)) (by simp)
  have CC := laganlaw04_narrower.calls K2 Al cx l2 Ac cc cl true w9 HE.out.2 HE.out.1 HC.out.2 HC.out.1 hK
  go_wp2_with fail
  refine CC.mono ?_
  clear CC hK
  rintro e we ⟨rfl, hd⟩
  have hB := hd.below
  have hbell2 : we.cell? (bd.add fn) = some (.slice As row.length cs) := by obtain ⟨n, rfl⟩ := hd; exact hbell
  clear hd hbell
  have hbell := hbell2
  clear hbell2
  replace HL := Go.Lib.hid (HL.out.later hB)
  replace HC := Go.Lib.hid (HC.out.later hB)
  replace HBY := Go.Lib.hid ((hB.block _ (blk_lt HBY.out)).trans HBY.out)
  replace HE := Go.Lib.hid (HE.out.later hB)
  replace HM := Go.Lib.hid (HM.out.later hB)
  clear hB
  obtain ⟨K3, hK⟩ := HN3.out (by simp)
  have CC := laganlaw04_narrower.calls K3 Am cm l3 Ac cc cl true we HM.out.2 HM.out.1 HC.out.2 HC.out.1 hK
  go_wp2_with fail
  refine CC.mono ?_
  clear CC hK
  rintro e wf ⟨rfl, hd⟩
  have hB := hd.below
  have hbell2 : wf.cell? (bd.add fn) = some (.slice As row.length cs) := by obtain ⟨n, rfl⟩ := hd; exact hbell
  clear hd hbell
  have hbell := hbell2
  clear hbell2
  replace HL := Go.Lib.hid (HL.out.later hB)
  replace HC := Go.Lib.hid (HC.out.later hB)
  replace HBY := Go.Lib.hid ((hB.block _ (blk_lt HBY.out)).trans HBY.out)
  replace HE := Go.Lib.hid (HE.out.later hB)
  replace HM := Go.Lib.hid (HM.out.later hB)
  clear hB
  have CC := matched_walk wf
  go_wp2_with fail
  refine CC.mono ?_
  clear CC
  rintro e w99 ⟨rfl, hB⟩
  replace HL := Go.Lib.hid (HL.out.later hB)
  go_wp2_with fail
  go_ret
  exact ⟨rfl, HL.out.at.B⟩
 obtain ⟨m, hm⟩ : ∃ m : Nat, m = k + 1 := ⟨_, rfl⟩
 obtain ⟨hcn, hdn, hf60, hf1⟩ := HN.out
 have hw : wrap64 ((k : Int) + 1) = (m : Int) := by rw [(wrap_pm (i := (k : Int)) (by omega) (by omega)).1, hm]; omega
 have hw1 : IntKind.i64.wrap ((k : Int) + 1) = (m : Int) := (YtkmmihadcbfkoaaW.PrintLast.i64_w _).trans hw
 have hpk := HP.out.1 k (by omega)
 have Hm := Go.Lib.hid hm
 by_cases hge : fn ≤ k
 ·
  have g4 : decide ((k : Int) ≥ (fn : Int)) = true := decide_eq_true (by omega)
  rw [if_pos hge, ← hm] at hpk
  obtain ⟨K, hpk⟩ := hpk
  obtain ⟨ad, Ar, cr, ead, hcell, hlr, hCr⟩ := rows_at HI.out.2.1.2 (m : Int) (by omega) (by omega)
  obtain ⟨bd, As, cs, ebd, hbell, hls, hCs⟩ := rows_at HI.out.2.2.2 (k : Int) (by omega) (by omega)
  rw [Int.toNat_natCast] at hcell hlr hCr hbell hls hCs
  obtain ⟨row, erow⟩ : ∃ row, cl.getD m [] = row := ⟨_, rfl⟩
  obtain ⟨sow, esow⟩ : ∃ sow, dl.getD k [] = sow := ⟨_, rfl⟩
  rw [erow] at hcell hlr hCr hpk
  rw [esow] at hbell hls hCs hpk
  cases ead
  cases ebd
  have HR := Go.Lib.hid (And.intro hlr (And.intro hCr (And.intro hls (And.intro hCs hpk))))
  clear hCr hlr hCs hls hpk erow esow
  have n1 : (0 ≤ (m : Int)) = True := eq_true (by omega)
  have n2 : ((m : Int) < (cl.length : Int)) = True := eq_true (by omega)
  have n2b : m < cl.length := by omega
  have n3 : ((k : Int) < (dl.length : Int)) = True := eq_true (by omega)
  clear hm hcn hdn hf60 hf1
  go_wp2_with fail
  refine start_ (n := 10) (S := fun w' => w'.cell? (ad.add m) = some (.slice Ar row.length cr) ∧ w'.cell? (bd.add k) = some (.slice As sow.length cs)) (ds := []) #[false, false, false, false, false, false, false, false, false, false] (by kernel_rfl) rfl rfl ⟨hcell, hbell⟩ (fun hHeld => ?_); refine with_tabW boards_tab16 boards_bits16 (fun HT_ HW_ => ?_)
  have HI2 := Go.Lib.hid (And.intro (HI.out.1.later (below_drew (Below.refl _ _))) (And.intro (HI.out.2.1.later (below_drew (Below.refl _ _))) (HI.out.2.2.later (below_drew (Below.refl _ _)))))
  have HR2 := Go.Lib.hid (And.intro (Kd.C_below HR.out.2.1 (below_drew (Below.refl _ wr))) (Kd.C_below HR.out.2.2.2.1 (below_drew (Below.refl _ wr))))
  clear HI hcell hbell
  generalize wr.drew = wd at HI2 HR2 hHeld ⊢
  refine pure_ (i := 0) (N := some 74) (v := ?_) (a' := ?_) #[true, false, false, false, false, false, false, false, false, false] rfl rfl (any_of HT_.out (by kernel_rfl)) (fun _ _ _ h => h) (Or.inl ⟨by rfl, ?_⟩) ?_ ?_
  rotate_left
  ·
   intro w'
   go_simp
   with_reducible rfl
  rotate_left
  ·
   simp only [Act.put, List.setIfInBounds_toArray, List.set_cons_zero, List.set_cons_succ]
   rfl
  refine pure_ (i := 1) (N := some 75) (v := ?_) (a' := ?_) #[true, true, false, false, false, false, false, false, false, false] rfl rfl (any_of HT_.out (by kernel_rfl)) (fun _ _ _ h => h) (Or.inl ⟨by rfl, ?_⟩) ?_ ?_
  rotate_left
  ·
   intro w'
   go_simp
   with_reducible rfl
  rotate_left
  ·
   simp only [Act.put, List.setIfInBounds_toArray, List.set_cons_zero, List.set_cons_succ]
   rfl
  refine pure_ (i := 4) (N := some 78) (v := ?_) (a' := ?_) #[true, true, false, false, true, false, false, false, false, false] rfl rfl (any_of HT_.out (by kernel_rfl)) (fun _ _ _ h => h) (Or.inl ⟨by rfl, ?_⟩) ?_ ?_
  rotate_left
  ·
   intro w'
   go_simp
   with_reducible rfl
  rotate_left
  ·
   simp only [Act.put, List.setIfInBounds_toArray, List.set_cons_zero, List.set_cons_succ]
   rfl
  refine pure_ (i := 5) (N := some 79) (v := ?_) (a' := ?_) #[true, true, false, false, true, true, false, false, false, false] rfl rfl (any_of HT_.out (by kernel_rfl)) (fun _ _ _ h => h) (Or.inl ⟨by rfl, ?_⟩) ?_ ?_
  rotate_left
  ·
   intro w'
   go_simp
   with_reducible rfl
  rotate_left
  ·
   simp only [Act.put, List.setIfInBounds_toArray, List.set_cons_zero, List.set_cons_succ]
   rfl
  refine pure_ (i := 2) (N := some 76) (v := ?_) (a' := ?_) #[true, true, true, false, true, true, false, false, false, false] rfl rfl (any_of HT_.out (by kernel_rfl)) (fun _ _ _ h => h) (Or.inl ⟨by rfl, ?_⟩) ?_ ?_
  rotate_left
  ·
   intro w'
   go_simp
   with_reducible rfl
  rotate_left
  ·
   simp only [Act.put, List.setIfInBounds_toArray, List.set_cons_zero, List.set_cons_succ]
   rfl
  refine pure_ (i := 6) (N := some 80) (v := ?_) (a' := ?_) #[true, true, true, false, true, true, true, false, false, false] rfl rfl (any_of HT_.out (by kernel_rfl)) (fun _ _ _ h => h) (Or.inl ⟨by rfl, ?_⟩) ?_ ?_
  rotate_left
  ·
   intro w'
   go_simp
   with_reducible rfl
  rotate_left
  ·
   simp only [Act.put, List.setIfInBounds_toArray, List.set_cons_zero, List.set_cons_succ]
   rfl
  refine take_ (i := 3) (N := some 77) (v := ?_) (a' := ?_) #[true, true, true, true, true, true, true, false, false, false] rfl rfl (take_ofW HT_.out HW_.out (by kernel_rfl)) (fun _ _ _ h => h) (Or.inl ⟨by rfl, ?_⟩) hHeld ?_ ?_
  rotate_left
  ·
   rintro w' ⟨s0, s1⟩
   go_simp
   with_reducible rfl
  rotate_left
  ·
   simp only [Act.put, List.setIfInBounds_toArray, List.set_cons_zero, List.set_cons_succ]
   rfl
  refine take_ (i := 7) (N := some 81) (v := ?_) (a' := ?_) #[true, true, true, true, true, true, true, true, false, false] rfl rfl (take_ofW HT_.out HW_.out (by kernel_rfl)) (fun _ _ _ h => h) (Or.inl ⟨by rfl, ?_⟩) hHeld ?_ ?_
  rotate_left
  ·
   rintro w' ⟨s0, s1⟩
   go_simp
   with_reducible rfl
  rotate_left
  ·
   simp only [Act.put, List.setIfInBounds_toArray, List.set_cons_zero, List.set_cons_succ]
   rfl
  refine one_ (i := 8) (N := some 82) #[true, true, true, true, true, true, true, true, true, false] rfl rfl (one_of HT_.out (by kernel_rfl)) (by decide) (fun K hK => ?_)
  refine goes_ Try.func49 (by kernel_rfl) rfl #[.slice Ar row.length cr, .slice As sow.length cs] (by rfl) rfl rfl (by (try simp only [List.map_toArray, List.map_cons, List.map_nil]); first | done | rfl) ?_
  refine (laganlaw04_part.calls _ Ar cr row As cs sow true wd HR2.out.1 HR.out.1 HR2.out.2 HR.out.2.2.1 HR.out.2.2.2.2).mono ?_
  rintro e we ⟨rfl, hd⟩
  refine ⟨_, rfl, ?_⟩
  have hB := hd.below
  have hHe : we.cell? (ad.add m) = some (.slice Ar row.length cr) ∧ we.cell? (bd.add k) = some (.slice As sow.length cs) := by obtain ⟨n, rfl⟩ := hd; exact hHeld
  have REL := Go.Lib.hid (And.intro (HI2.out.1.later hB) (And.intro (HI2.out.2.1.later hB) (HI2.out.2.2.later hB)))
  clear hB hd HI2
  refine hK.out _ _ hHe (fun hHeld => ?_)
  clear hK K hHe
  refine norm_ (a' := ?_) ?_ ?_
  rotate_left
  ·
   show Act.put _ (some 82) _ = _
   simp only [Act.put, List.setIfInBounds_toArray, List.set_cons_zero, List.set_cons_succ]
   rfl
  refine pure_ (i := 9) (N := some 83) (v := ?_) (a' := ?_) #[true, true, true, true, true, true, true, true, true, true] rfl rfl (any_of HT_.out (by kernel_rfl)) (fun _ _ _ h => h) (Or.inl ⟨by rfl, ?_⟩) ?_ ?_
  rotate_left
  ·
   intro w'
   go_simp
   with_reducible rfl
  rotate_left
  ·
   simp only [Act.put, List.setIfInBounds_toArray, List.set_cons_zero, List.set_cons_succ]
   rfl
  refine done_ (done_of HT_.out (by kernel_rfl)) ?_
  go_wp2_with fail
  go_roundw
  case rel => exact ⟨k + 1, by omega, by rw [Hm.out], REL.out⟩
  case measure => have := Hm.out; simp [intOf, hw1, hw]; omega
 have g4 : decide ((k : Int) ≥ (fn : Int)) = false := decide_eq_false (by omega)
 have hge2 : k < fn := Nat.lt_of_not_le hge
 rw [if_neg hge] at hpk
 obtain ⟨K, hpk⟩ := hpk
 obtain ⟨ad, Ar, cr, ead, hcell, hlr, hCr⟩ := rows_at HI.out.2.1.2 (k : Int) (by omega) (by omega)
 obtain ⟨bd, As, cs, ebd, hbell, hls, hCs⟩ := rows_at HI.out.2.2.2 (k : Int) (by omega) (by omega)
 rw [Int.toNat_natCast] at hcell hlr hCr hbell hls hCs
 obtain ⟨row, erow⟩ : ∃ row, cl.getD k [] = row := ⟨_, rfl⟩
 obtain ⟨sow, esow⟩ : ∃ sow, dl.getD k [] = sow := ⟨_, rfl⟩
 rw [erow] at hcell hlr hCr hpk
 rw [esow] at hbell hls hCs hpk
 cases ead
 cases ebd
 have HR := Go.Lib.hid (And.intro hlr (And.intro hCr (And.intro hls (And.intro hCs hpk))))
 clear hCr hlr hCs hls hpk erow esow
 have n1 : (0 ≤ (k : Int)) = True := eq_true (by omega)
 have n2 : ((k : Int) < (cl.length : Int)) = True := eq_true (by omega)
 have n2b : k < cl.length := by omega
 have n3 : ((k : Int) < (dl.length : Int)) = True := eq_true (by omega)
 clear hm hcn hdn hf60 hf1
 go_wp2_with fail
 refine start_ (n := 10) (S := fun w' => w'.cell? (ad.add k) = some (.slice Ar row.length cr) ∧ w'.cell? (bd.add k) = some (.slice As sow.length cs)) (ds := []) #[false, false, false, false, false, false, false, false, false, false] (by kernel_rfl) rfl rfl ⟨hcell, hbell⟩ (fun hHeld => ?_); refine with_tabW boards_tab16 boards_bits16 (fun HT_ HW_ => ?_)
 have HI2 := Go.Lib.hid (And.intro (HI.out.1.later (below_drew (Below.refl _ _))) (And.intro (HI.out.2.1.later (below_drew (Below.refl _ _))) (HI.out.2.2.later (below_drew (Below.refl _ _)))))
 have HR2 := Go.Lib.hid (And.intro (Kd.C_below HR.out.2.1 (below_drew (Below.refl _ wr))) (Kd.C_below HR.out.2.2.2.1 (below_drew (Below.refl _ wr))))
 clear HI hcell hbell
 generalize wr.drew = wd at HI2 HR2 hHeld ⊢
 refine pure_ (i := 0) (N := some 74) (v := ?_) (a' := ?_) #[true, false, false, false, false, false, false, false, false, false] rfl rfl (any_of HT_.out (by kernel_rfl)) (fun _ _ _ h => h) (Or.inl ⟨by rfl, ?_⟩) ?_ ?_
 rotate_left
 ·
  intro w'
  go_simp
  with_reducible rfl
 rotate_left
 ·
  simp only [Act.put, List.setIfInBounds_toArray, List.set_cons_zero, List.set_cons_succ]
  rfl
 refine pure_ (i := 1) (N := some 75) (v := ?_) (a' := ?_) #[true, true, false, false, false, false, false, false, false, false] rfl rfl (any_of HT_.out (by kernel_rfl)) (fun _ _ _ h => h) (Or.inl ⟨by rfl, ?_⟩) ?_ ?_
 rotate_left
 ·
  intro w'
  go_simp
  with_reducible rfl
 rotate_left
 ·
  simp only [Act.put, List.setIfInBounds_toArray, List.set_cons_zero, List.set_cons_succ]
  rfl
 refine pure_ (i := 4) (N := some 78) (v := ?_) (a' := ?_) #[true, true, false, false, true, false, false, false, false, false] rfl rfl (any_of HT_.out (by kernel_rfl)) (fun _ _ _ h => h) (Or.inl ⟨by rfl, ?_⟩) ?_ ?_
 rotate_left
 ·
  intro w'
  go_simp
  with_reducible rfl
 rotate_left
 ·
  simp only [Act.put, List.setIfInBounds_toArray, List.set_cons_zero, List.set_cons_succ]
  rfl
 refine pure_ (i := 5) (N := some 79) (v := ?_) (a' := ?_) #[true, true, false, false, true, true, false, false, false, false] rfl rfl (any_of HT_.out (by kernel_rfl)) (fun _ _ _ h => h) (Or.inl ⟨by rfl, ?_⟩) ?_ ?_
 rotate_left
 ·
  intro w'
  go_simp
  with_reducible rfl
 rotate_left
 ·
  simp only [Act.put, List.setIfInBounds_toArray, List.set_cons_zero, List.set_cons_succ]
  rfl
 refine pure_ (i := 2) (N := some 76) (v := ?_) (a' := ?_) #[true, true, true, false, true, true, false, false, false, false] rfl rfl (any_of HT_.out (by kernel_rfl)) (fun _ _ _ h => h) (Or.inl ⟨by rfl, ?_⟩) ?_ ?_
 rotate_left
 ·
  intro w'
  go_simp
  with_reducible rfl
 rotate_left
 ·
  simp only [Act.put, List.setIfInBounds_toArray, List.set_cons_zero, List.set_cons_succ]
  rfl
 refine pure_ (i := 6) (N := some 80) (v := ?_) (a' := ?_) #[true, true, true, false, true, true, true, false, false, false] rfl rfl (any_of HT_.out (by kernel_rfl)) (fun _ _ _ h => h) (Or.inl ⟨by rfl, ?_⟩) ?_ ?_
 rotate_left
 ·
  intro w'
  go_simp
  with_reducible rfl
 rotate_left
 ·
  simp only [Act.put, List.setIfInBounds_toArray, List.set_cons_zero, List.set_cons_succ]
  rfl
 refine take_ (i := 3) (N := some 77) (v := ?_) (a' := ?_) #[true, true, true, true, true, true, true, false, false, false] rfl rfl (take_ofW HT_.out HW_.out (by kernel_rfl)) (fun _ _ _ h => h) (Or.inl ⟨by rfl, ?_⟩) hHeld ?_ ?_
 rotate_left
 ·
  rintro w' ⟨s0, s1⟩
  go_simp
  with_reducible rfl
 rotate_left
 ·
  simp only [Act.put, List.setIfInBounds_toArray, List.set_cons_zero, List.set_cons_succ]
  rfl
 refine take_ (i := 7) (N := some 81) (v := ?_) (a' := ?_) #[true, true, true, true, true, true, true, true, false, false] rfl rfl (take_ofW HT_.out HW_.out (by kernel_rfl)) (fun _ _ _ h => h) (Or.inl ⟨by rfl, ?_⟩) hHeld ?_ ?_
 rotate_left
 ·
  rintro w' ⟨s0, s1⟩
  go_simp
  with_reducible rfl
 rotate_left
 ·
  simp only [Act.put, List.setIfInBounds_toArray, List.set_cons_zero, List.set_cons_succ]
  rfl
 refine one_ (i := 8) (N := some 82) #[true, true, true, true, true, true, true, true, true, false] rfl rfl (one_of HT_.out (by kernel_rfl)) (by decide) (fun K hK => ?_)
 refine goes_ Try.func49 (by kernel_rfl) rfl #[.slice Ar row.length cr, .slice As sow.length cs] (by rfl) rfl rfl (by (try simp only [List.map_toArray, List.map_cons, List.map_nil]); first | done | rfl) ?_
 refine (laganlaw04_part.calls _ Ar cr row As cs sow true wd HR2.out.1 HR.out.1 HR2.out.2 HR.out.2.2.1 HR.out.2.2.2.2).mono ?_
 rintro e we ⟨rfl, hd⟩
 refine ⟨_, rfl, ?_⟩
 have hB := hd.below
 have hHe : we.cell? (ad.add k) = some (.slice Ar row.length cr) ∧ we.cell? (bd.add k) = some (.slice As sow.length cs) := by obtain ⟨n, rfl⟩ := hd; exact hHeld
 have REL := Go.Lib.hid (And.intro (HI2.out.1.later hB) (And.intro (HI2.out.2.1.later hB) (HI2.out.2.2.later hB)))
 clear hB hd HI2
 refine hK.out _ _ hHe (fun hHeld => ?_)
 clear hK K hHe
 refine norm_ (a' := ?_) ?_ ?_
 rotate_left
 ·
  show Act.put _ (some 82) _ = _
  simp only [Act.put, List.setIfInBounds_toArray, List.set_cons_zero, List.set_cons_succ]
  rfl
 refine pure_ (i := 9) (N := some 83) (v := ?_) (a' := ?_) #[true, true, true, true, true, true, true, true, true, true] rfl rfl (any_of HT_.out (by kernel_rfl)) (fun _ _ _ h => h) (Or.inl ⟨by rfl, ?_⟩) ?_ ?_
 rotate_left
 ·
  intro w'
  go_simp
  with_reducible rfl
 rotate_left
 ·
  simp only [Act.put, List.setIfInBounds_toArray, List.set_cons_zero, List.set_cons_succ]
  rfl
 refine done_ (done_of HT_.out (by kernel_rfl)) ?_
 go_wp2_with fail
 go_roundw
 case rel => exact ⟨k + 1, by omega, by rw [Hm.out], REL.out⟩
 case measure => have := Hm.out; simp [intOf, hw1, hw]; omega
end Go.Proofs.Ytkmmihadcbfkoaa
end

section
namespace Go.Proofs.Ytkmmihadcbfkoaa
open Go.ChangeShapes Go.WideShapes Go.RowKit Go.Deep Go.Joins Go.Proofs.YtkmmihadcbfkoaaW.PrintWords PM
set_option linter.unusedVariables false
set_option linter.unusedSimpArgs false
section
variable {H : Type} {enc : TypeId × Value → H} {W : World} {base : Nat} {held : Bool}
theorem C_of_cells {A : Option Addr} {L C : Nat} {Z : List Int} (hl : L ≤ C) (hm : C ≤ maxLen) (hz : Z.length = C) (hn : A = none → C = 0) (hc : ∀ a, A = some a → ∀ c, c < C → W.cell? (a.add c) = some (.int .i64 (Z.getD c 0))) :
  (Z.take L).length = L ∧ Kd.C (Kd.int .i64) W A L (Z.take L) := by
 have hlen : (Z.take L).length = L := by rw [List.length_take]; omega
 have hmx : maxLen = 9223372036854775807 := rfl
 refine ⟨hlen, ?_⟩
 cases A with
 | none =>
  have h0 : L = 0 := by have := hn rfl; omega
  subst h0
  exact Kd.C_nil _ _
 | some a =>
  refine Kd.C_of_reads (enc := Value.int .i64) (d := (0 : Int)) (h1 := fun _ => rfl) ⟨hlen, by omega, fun _ => ⟨a, rfl, fun j hj => ?_⟩⟩
  rw [hc a rfl j (by omega)]
  simp [List.getD_eq_getElem?_getD, List.getElem?_take, hj]
theorem open_intsC {fuel : Nat} {cs : List Value} {x : DataW H × List MemPlace} (h : DataW.trod enc Try.prog W base (fun _ => true) held fuel 22 cs = some x) :
  ∃ A c F, cs = [.slice A F.length c] ∧ F.length ≤ c ∧ Kd.C (Kd.int .i64) W A F.length F := by
 rcases open_ints Try.underlying22 Try.underlying3 (by kernel_rfl) h with ⟨rfl, _⟩ | ⟨a, len, cap, zs, rfl, _, hl, hm, hz, _, hcell, _⟩
 ·
  exact ⟨none, 0, [], rfl, Nat.zero_le _, Kd.C_nil _ _⟩
 simp only [if_true] at hz
 obtain ⟨e, hC⟩ := C_of_cells (W := W) (A := some a) (L := len) (C := cap) (Z := zs) hl hm hz (fun k => by cases k) (fun a' k c hc => by cases k; exact hcell c (by omega))
 exact ⟨some a, cap, zs.take len, by rw [e], by rw [e]; exact hl, by rw [e]; exact hC⟩
theorem open_rowsC {fuel : Nat} {cs : List Value} {x : DataW H × List MemPlace} (h : DataW.trod enc Try.prog W base (fun _ => true) held fuel 24 cs = some x) :
  ∃ A c T, cs = [.slice A T.length c] ∧ T.length ≤ c ∧ Kd.C (Kd.slice 3 (Kd.int .i64)) W A T.length T := by
 rcases open_int_rows Try.underlying24 Try.underlying22 Try.underlying3 (by kernel_rfl) (by kernel_rfl) h with ⟨rfl, _⟩ | ⟨a, len, cap, A, L, C, Z, rfl, _, hl, hm, _, hr⟩
 ·
  exact ⟨none, 0, [], rfl, Nat.zero_le _, Kd.C_nil _ _⟩
 have hmx : maxLen = 9223372036854775807 := rfl
 have hlen : ((List.range len).map fun r => (Z r).take (L r)).length = len := by simp
 refine ⟨some a, cap, (List.range len).map fun r => (Z r).take (L r), by rw [hlen], by rw [hlen]; exact hl, ?_⟩
 rw [hlen]
 refine ⟨hlen, by omega, fun _ => ⟨a, rfl, fun j p hj => ?_⟩⟩
 obtain ⟨hjl, hp⟩ := List.getElem?_eq_some_iff.1 hj
 rw [hlen] at hjl
 rw [List.getElem_map, List.getElem_range] at hp
 obtain ⟨h1, h2, h3, h4, _, h6, h7⟩ := hr j (by omega)
 obtain ⟨e, hC⟩ := C_of_cells (W := W) (A := A j) h2 h3 h4 h6 (fun a' k => (h7 a' k).2)
 rw [hp] at e hC
 refine ⟨[.slice (A j) (L j) (C j)], rfl, ⟨A j, C j, by rw [e], by rw [e]; exact h2, by rw [e]; exact hC⟩, fun i u hu => ?_⟩
 cases i with
 | zero =>
  simp only [List.getElem?_cons_zero, Option.some.injEq] at hu
  subst hu
  show W.cell? (a.add (j * 1 + 0)) = _
  rw [Nat.mul_one, Nat.add_zero]
  exact h1
 | succ i => simp at hu
set_option maxRecDepth 100000 in
theorem open_slotsC {fuel : Nat} {cs : List Value} {x : DataW H × List MemPlace} (h : DataW.trod enc Try.prog W base (fun _ => true) held fuel 23 cs = some x) :
  ∃ A c S, cs = [.slice A S.length c] ∧ S.length ≤ c ∧ Kd.C k50 W A S.length S := by
 rcases open_slice Try.underlying23 h with ⟨rfl, _⟩ | ⟨a, len, cap, m, n, D, Pl, rfl, _, hl, hm, hmm, _, hx⟩
 ·
  exact ⟨none, 0, [], rfl, Nat.zero_le _, Kd.C_nil _ _⟩
 simp only [if_true] at hmm
 have hmx : maxLen = 9223372036854775807 := rfl
 have hsz : Try.prog.cellsOf 50 = 3 := by kernel_rfl
 have c3 : Try.prog.cellsOf 3 = 1 := by kernel_rfl
 rw [hsz] at hx
 have each : ∀ i, i < len → ∃ s : Int × Int × Int, W.cell? (a.add (i * 3 + 0)) = some (.int .i64 s.1) ∧ W.cell? (a.add (i * 3 + 1)) = some (.int .i64 s.2.1) ∧ W.cell? (a.add (i * 3 + 2)) = some (.int .i64 s.2.2) := fun i hi => by
  obtain ⟨cs', hcs, ht⟩ := hx i (by omega)
  obtain ⟨_, hlen, hcell⟩ := World.cells?_some hcs
  obtain ⟨y0, y1, y2, n', _, _, g0, g1, g2⟩ := trod_struct3 Try.underlying50 ht
  obtain ⟨u0, u1, u2, rfl⟩ : ∃ u0 u1 u2, cs' = [u0, u1, u2] := by
   match cs', hlen with
   | [u0, u1, u2], _ => exact ⟨u0, u1, u2, rfl⟩
  obtain ⟨n0, e0, _⟩ := DataW.trod_int Try.underlying3 g0
  obtain ⟨n1, e1, _⟩ := DataW.trod_int Try.underlying3 g1
  obtain ⟨n2, e2, _⟩ := DataW.trod_int Try.underlying3 g2
  rw [c3] at e0 e1 e2
  simp only [List.drop_zero, List.drop_succ_cons, List.take_succ_cons, List.take_zero, List.cons.injEq, and_true] at e0 e1 e2
  subst e0 e1 e2
  have k0 := hcell 0 (by omega)
  have k1 := hcell 1 (by omega)
  have k2 := hcell 2 (by omega)
  rw [Deep.add_add] at k0 k1 k2
  exact ⟨(n0, n1, n2), k0, k1, k2⟩
 obtain ⟨f, hf⟩ := choose_lt (α := Int × Int × Int) each
 have hlen : ((List.range len).map fun r => (⟨(f r).1, (f r).2.1, (f r).2.2⟩ : S50)).length = len := by simp
 refine ⟨some a, cap, (List.range len).map fun r => (⟨(f r).1, (f r).2.1, (f r).2.2⟩ : S50), by rw [hlen], by rw [hlen]; exact hl, ?_⟩
 rw [hlen]
 refine ⟨hlen, by omega, fun _ => ⟨a, rfl, fun j p hj => ?_⟩⟩
 obtain ⟨hjl, hp⟩ := List.getElem?_eq_some_iff.1 hj
 rw [hlen] at hjl
 rw [List.getElem_map, List.getElem_range] at hp
 obtain ⟨h0, h1, h2⟩ := hf j hjl
 refine ⟨[.int .i64 p.f0, .int .i64 p.f1, .int .i64 p.f2], rfl, k50_mk W p, fun i u hu => ?_⟩
 subst hp
 match i, hu with
 | 0, hu => simp only [List.getElem?_cons_zero, Option.some.injEq] at hu; subst hu; exact h0
 | 1, hu => simp only [List.getElem?_cons_succ, List.getElem?_cons_zero, Option.some.injEq] at hu; subst hu; exact h1
 | 2, hu => simp only [List.getElem?_cons_succ, List.getElem?_cons_zero, Option.some.injEq] at hu; subst hu; exact h2
 | i + 3, hu => simp at hu
set_option maxRecDepth 100000 in
/-- A board that came in. -/
theorem open_boardV {r : Reach} {b0 : Nat} {v : Value} {d : DataW H} {p : List MemPlace} (hv : Value.okWide Try.prog W r b0 26 v) (h : DataW.Trod enc Try.prog W base (fun _ => true) held 26 v d p) :
  ∃ A0 c0 F A1 c1 S A2 c2 T, v = .agg #[.slice A0 F.length c0, .slice A1 S.length c1, .slice A2 T.length c2] ∧ Kd.C (Kd.int .i64) W A0 F.length F ∧ F.length ≤ c0 ∧ Kd.C k50 W A1 S.length S ∧ S.length ≤ c1 ∧ Kd.C (Kd.slice 3 (Kd.int .i64)) W A2 T.length T ∧ T.length ≤ c2 := by
 obtain ⟨v0, v1, v2, y0, y1, y2, n, rfl, _, _, h0, h1, h2⟩ := open_agg3 Try.underlying26 (by kernel_rfl) (by kernel_rfl) hv h
 obtain ⟨A0, c0, F, e0, l0, C0⟩ := open_intsC h0
 obtain ⟨A1, c1, S, e1, l1, C1⟩ := open_slotsC h1
 obtain ⟨A2, c2, T, e2, l2, C2⟩ := open_rowsC h2
 simp only [List.cons.injEq, and_true] at e0 e1 e2
 subst e0 e1 e2
 exact ⟨A0, c0, F, A1, c1, S, A2, c2, T, rfl, C0, l0, C1, l1, C2, l2⟩
end
end Go.Proofs.Ytkmmihadcbfkoaa
end

section
namespace Go.Proofs.Ytkmmihadcbfkoaa
open Go.ChangeShapes Go.WideShapes Go.ChangeAt Go.RowKit Go.Proofs.YtkmmihadcbfkoaaW.PrintWords PM
set_option linter.unusedVariables false
set_option linter.unusedSimpArgs false
theorem matchBoards_own : ownKnob Try.prog.godebug = none := by kernel_rfl
theorem matchBoards_laid : laidOutB Try.prog = true := by kernel_rfl
set_option maxRecDepth 100000 in
theorem matchBoards_lifted (os : Os) (started : os.Started) (H : Type) (enc : TypeId × Value → H) :
  ReturnsInHanded {} Try.checked os 12 .any (Rows.matchBoardsSpec.pre6 enc Try.prog Try.f12 Rows.matchBoardsRow.domain false) (Rows.matchBoardsSpec.post enc Try.prog Try.f12 false true false false) := by
 refine returnsInHanded_of_change (C := Try.checked) matchBoards_own started (by kernel_rfl) Try.func12
  (ChangeSpec.witness6 (enc := enc) (C := Try.checked) false ⟨#[], #[.agg #[.slice none 0 0, .slice none 0 0, .slice none 0 0], .int .i64 0, .int .i64 0], []⟩ 8 (by kernel_rfl) (by kernel_rfl) (by kernel_rfl) (by kernel_rfl)) ?_
 intro W base args ds gs before hval0 hW hcnd _
 have hval : ∀ (j : Nat) t v, Try.f12.params[j]? = some t → args[j]? = some v → Value.okWide Try.prog W .any base t v := hval0
 have hW' := hW
 obtain ⟨p, q, hA0, hV, rfl, hfz, hnd⟩ := hW
 have hA : DataW.TrodAll enc Try.prog W 0 (fun _ => true) true Try.f12.params.toList args.toList ds p := hA0
 rw [Try.params12] at hA hval
 obtain ⟨v0, vs0, d0, ds0, p0, q0, hargs, rfl, rfl, h0, r0⟩ := trodAll_cons hA
 obtain ⟨v1, vs1, d1, ds1, p1, q1, rfl, rfl, rfl, h1, r1⟩ := trodAll_cons r0
 obtain ⟨v2, vs2, d2, ds2, p2, q2, rfl, rfl, rfl, h2, r2⟩ := trodAll_cons r1
 obtain ⟨rfl, rfl, rfl⟩ := trodAll_nil r2
 obtain rfl : args = #[v0, v1, v2] := by cases args; simp_all
 obtain ⟨rfl, rfl⟩ := trodVars_none hV
 have k0 := h0
 have lt0 : ∀ x ∈ p0, x.block < W.heap.size := by obtain ⟨m, hm⟩ := k0; exact DataW.trod_lt m _ _ _ hm
 obtain ⟨A0a, c0a, F, A0b, c0b, S, A0c, c0c, T, rfl, Ca, la, Cb, lb, Cc, lc⟩ := open_boardV (hval 0 26 v0 rfl rfl) h0
 obtain ⟨x1, rfl, rfl, rfl, w1⟩ := open_int Try.underlying3 (hval 1 3 v1 rfl rfl) h1
 obtain ⟨x2, rfl, rfl, rfl, w2⟩ := open_int Try.underlying3 (hval 2 3 v2 rfl rfl) h2
 clear hA0 hval0
 refine (boards_walk A0a c0a F A0b c0b S A0c c0c T x1 x2 W Ca la Cb lb Cc lc).mono fun e W' ⟨he, bel⟩ => ?_
 subst he
 exact ⟨_, rfl, _, _, _, [], _, [], hW', trodAll_mk1 (shut_bool Try.underlying4 _), (trodAll_cons_mk (Below.trod matchBoards_laid (by kernel_rfl) (of_decide_eq_true (by kernel_rfl)) k0 bel lt0) (trodAll_cons_mk (shut_int Try.underlying3 w1) (trodAll_cons_mk (shut_int Try.underlying3 w2) trodAll_mk0))), rfl, bel.frame _, fun h => by cases h⟩
theorem matchBoards_holds : Rows.MatchBoardsSaid :=
 OpenClaim.holds_of_wide 12 Try.f12 rfl rfl rfl rfl rfl rfl rfl ⟨rfl, rfl, rfl, rfl, rfl⟩ rfl rfl rfl rfl rfl (by kernel_rfl) Try.func12 (by kernel_rfl)
  (of_decide_eq_true (by kernel_rfl)) (by unfold Func.isWrapper; first | (rw [if_pos (by decide +kernel)]; kernel_rfl) | (rw [if_neg (by decide +kernel)]; exact ⟨rfl, rfl⟩))
  (fun os started H enc _ => matchBoards_lifted os started H enc)
#print axioms matchBoards_holds
end Go.Proofs.Ytkmmihadcbfkoaa
end
