/-
  MatchOthers holds: for every board, find and slot, the law returns true and what it is given reads as it did. (part 6 of 6 of the texts that it stands on)
-/
import Derived.Shelf.SlicesE.DeleteFunc
import Derived.Lib.SmallJoins
import Derived.Deep.Matrix
import Derived.Deep.Slices
import Derived.Deep.Strs
import Derived.ChangeSlices
import Derived.ProofKit
import Derived.OpenShut
import Derived.ChangeOld
import Derived.Below
import Derived.WalkKit
import Derived.Test.YtkmmihadcbfkoaaRows
import Derived.Test.YtkmmihadcbfkoaaZOtherse
section
namespace Go.Proofs.Ytkmmihadcbfkoaa.PM
open Go.RowKit Go.Proofs.YtkmmihadcbfkoaaW.PrintWords Go.Proofs.YtkmmihadcbfkoaaW.PrintLast Go.Proofs.YtkmmihadcbfkoaaW.PrintMore
set_option linter.unusedVariables false
set_option linter.unusedSimpArgs false
def match_other.l0 : Nat → List (List Int) → Int → Int → List Int → List (S50) → List (List Int) → Option (List Int × (List (S50)) × (List (List Int)))
 | 0, _, _, _, _, _, _ => none
 | k + 1, x14, x15, x16, x528000, x528001, x528002 => if x16 < x15 then (if 0 ≤ x16 then (if x16 < (x14.length : Int) then ((match_copied_int_88.f (rd_L1 x14 x16)).bind fun t529 => (if x528002.length < 5864062014805 then (match_other.l0 k x14 x15 (wrap64 (x16 + 1)) x528000 x528001 (x528002 ++ [t529])) else (none))) else (none)) else (none)) else (some (x528000, x528001, x528002))
def match_other.f (k : Nat) (l0_0 : List Int) (l0_1 : List (S50)) (l0_2 : List (List Int)) : Option (List Int × (List (S50)) × (List (List Int))) := (match_copied_int_88.f l0_0).bind fun t521 => ((api_Slot.f l0_1).bind fun t524 => (match_other.l0 k l0_2 (l0_2.length : Int) 0 t521 t524 ([] : List (List Int))))
def match_other.T1 : Bool × List (List Nat × List Nat) := (true, [([], []), ([0], [0]), ([1], [1]), ([], []), ([3], [3]), ([4, 2], [4]), ([2, 5], [2, 5]), ([], []), ([7, 6, 5, 0, 1, 2, 3, 4, 5, 6, 7], [6, 7])])
def match_other.B1 : List Nat := [0, 1, 3, 0, 8, 31, 63, 0, 255]
theorem match_other.tab1 : rtab .any (opsOf Try.f76 1) = match_other.T1 := by kernel_rfl
theorem match_other.bits1 : waitsOk match_other.T1.2 match_other.B1 = true := by kernel_rfl
def match_other.T5 : Bool × List (List Nat × List Nat) := (true, [([], []), ([0], [0]), ([], []), ([2], [2]), ([3], [3]), ([1, 4, 3], [1, 4]), ([0, 1, 2, 3, 4, 5], []), ([6, 5, 5, 0, 1, 2, 3, 4, 5], [5, 6])])
def match_other.B5 : List Nat := [0, 1, 0, 4, 12, 31, 63, 127]
theorem match_other.tab5 : rtab .any (opsOf Try.f76 5) = match_other.T5 := by kernel_rfl
theorem match_other.bits5 : waitsOk match_other.T5.2 match_other.B5 = true := by kernel_rfl
set_option maxHeartbeats 8000000 in
set_option maxRecDepth 100000 in
theorem match_other.calls (k : Nat) (A0_0 : Option Addr) (c0_0 : Nat) (l0_0 : List Int) (A0_1 : Option Addr) (c0_1 : Nat) (l0_1 : List (S50)) (A0_2 : Option Addr) (c0_2 : Nat) (l0_2 : List (List Int)) (r1 : List Int) (r2 : List (S50)) (r3 : List (List Int)) (w : World) (hr0_0 : Kd.C (Kd.int .i64) w A0_0 l0_0.length l0_0) (hc0_0 : l0_0.length ≤ c0_0) (hr0_1 : Kd.C k50 w A0_1 l0_1.length l0_1) (hc0_1 : l0_1.length ≤ c0_1) (hr0_2 : Kd.C (Kd.slice 3 (Kd.int .i64)) w A0_2 l0_2.length l0_2) (hc0_2 : l0_2.length ≤ c0_2) (h : match_other.f k l0_0 l0_1 l0_2 = some (r1, r2, r3)) :
  Calls Try.prog 76 #[.agg #[.slice A0_0 l0_0.length c0_0, .slice A0_1 l0_1.length c0_1, .slice A0_2 l0_2.length c0_2]] w fun e w' => ∃ v0_ v1_ v2_ : Value, e = .returned (.agg #[v0_, v1_, v2_]) ∧ Kd.R (Kd.int .i64) 3 w' w.heap.size (fun _ => True) v0_ r1 ∧ Kd.R k50 50 w' w.heap.size (fun _ => True) v1_ r2 ∧ Kd.S (Kd.slice 3 (Kd.int .i64)) 22 w' w.heap.size (fun k_ => some k_ ≠ (v0_ : Value).ownBlock) v2_ r3 ∧ Below w.heap.size w w' := by
 have hu26 := Try.underlying26
 have HR0_0 := Aside0.mk hr0_0
 have HC0_0 := Aside0.mk hc0_0
 clear hr0_0 hc0_0
 have HR0_1 := Aside0.mk hr0_1
 have HC0_1 := Aside0.mk hc0_1
 clear hr0_1 hc0_1
 have HR0_2 := Aside0.mk hr0_2
 have HC0_2 := Aside0.mk hc0_2
 clear hr0_2 hc0_2
 have HB := Aside0.mk (Below.refl w.heap.size w)
 have H : ((match_copied_int_88.f l0_0).bind fun t521 => ((api_Slot.f l0_1).bind fun t524 => (match_other.l0 k l0_2 (l0_2.length : Int) 0 t521 t524 ([] : List (List Int))))) = some (r1, r2, r3) := h
 clear h
 replace H := Option.bind_eq_some_iff.mp H
 obtain ⟨t521, A20, H⟩ := H
 replace H : ((api_Slot.f l0_1).bind fun t524 => (match_other.l0 k l0_2 (l0_2.length : Int) 0 t521 t524 ([] : List (List Int)))) = some (r1, r2, r3) := H
 have A2 := Aside0.mk A20
 clear A20
 replace H := Option.bind_eq_some_iff.mp H
 obtain ⟨t524, A30, H⟩ := H
 replace H : (match_other.l0 k l0_2 (l0_2.length : Int) 0 t521 t524 ([] : List (List Int))) = some (r1, r2, r3) := H
 have A3 := Aside0.mk A30
 clear A30
 have H' := Aside0.mk H
 clear H
 go_enter Try.func76, Try.ntmps76
 try go_wp2_with (first | ((with_reducible refine gate_dst (N := 1) rfl ?_); refine box_event ?hg (N := 1) ?hd (cs := #[.slice A0_0 l0_0.length c0_0, .slice A0_1 l0_1.length c0_1, .slice A0_2 l0_2.length c0_2]) (t := 26) ?hr ?_; (case hd => rfl); (case hg => rfl); (case hr => first | (go_simp; done) | (go_simp; rfl)); intro gb519 hg w4 hbox hb; have n0_ := Aside0.mk (below_step (by repeat (first | (with_reducible first | exact HB.out | apply below_alloc | apply pw_below_drewN | apply below_drew1) | exact HB.out)) hb); have n1_ := Aside0.mk (hbox); have n2_ := Aside0.mk ((by rw [hg]; exact (below_size (by repeat (first | (with_reducible first | exact HB.out | apply below_alloc | apply pw_below_drewN | apply below_drew1) | exact HB.out))) : w.heap.size ≤ gb519)); have n3_ := Aside0.mk ((by rw [hg]; exact (below_size (by repeat (first | (with_reducible first | exact HB.out | apply below_alloc | apply pw_below_drewN | apply below_drew1) | exact HB.out))) : w.heap.size ≤ gb519)); clear HB; have HB := n0_; have BK519 := n1_; have GW519 := n2_; have GE519 := n3_; clear n0_ n1_ n2_ n3_; clear hb hbox hg) | ((with_reducible refine gate_dst (N := 2) rfl ?_); refine box_event ?hg (N := 2) ?hd (cs := #[.slice none 0 0, .slice none 0 0, .slice none 0 0]) (t := 26) ?hr ?_; (case hd => rfl); (case hg => rfl); (case hr => first | (go_simp; done) | (go_simp; rfl)); intro gb520 hg w5 hbox hb; have n0_ := Aside0.mk (blk_below (g := gb519) (o := .cells #[.slice A0_0 l0_0.length c0_0, .slice A0_1 l0_1.length c0_1, .slice A0_2 l0_2.length c0_2] 26 (0, 0)) (by (with_reducible repeat (first | refine blk_drewN ?_ _ | refine blk_drew ?_ | refine blk_alloc ?_ _)); exact BK519.out) hb); have n1_ := Aside0.mk (below_step (by repeat (first | (with_reducible first | exact HB.out | apply below_alloc | apply pw_below_drewN | apply below_drew1 | refine below_set ?_ GE519.out) | exact HB.out)) hb); have n2_ := Aside0.mk (hbox); have n3_ := Aside0.mk ((by rw [hg]; exact (below_size (by repeat (first | (with_reducible first | exact HB.out | apply below_alloc | apply pw_below_drewN | apply below_drew1 | refine below_set ?_ GE519.out) | exact HB.out))) : w.heap.size ≤ gb520)); have n4_ := Aside0.mk ((by rw [hg]; exact (below_size (by repeat (first | (with_reducible first | exact HB.out | apply below_alloc | apply pw_below_drewN | apply below_drew1 | refine below_set ?_ GE519.out) | exact HB.out))) : w.heap.size ≤ gb520)); have n5_ := Aside0.mk ((by rw [hg]; exact Nat.ne_of_lt (blk_lt (g := gb519) (o := .cells #[.slice A0_0 l0_0.length c0_0, .slice A0_1 l0_1.length c0_1, .slice A0_2 l0_2.length c0_2] 26 (0, 0)) (by (with_reducible repeat (first | refine blk_drewN ?_ _ | refine blk_drew ?_ | refine blk_alloc ?_ _)); exact BK519.out)) : gb519 ≠ gb520)); have n6_ := Aside0.mk ((by rw [hg]; exact Nat.ne_of_gt (blk_lt (g := gb519) (o := .cells #[.slice A0_0 l0_0.length c0_0, .slice A0_1 l0_1.length c0_1, .slice A0_2 l0_2.length c0_2] 26 (0, 0)) (by (with_reducible repeat (first | refine blk_drewN ?_ _ | refine blk_drew ?_ | refine blk_alloc ?_ _)); exact BK519.out)) : gb520 ≠ gb519)); clear BK519; clear HB; have BK519 := n0_; have HB := n1_; have BK520 := n2_; have GW520 := n3_; have GE520 := n4_; have NB519_520 := n5_; have NB520_519 := n6_; clear n0_ n1_ n2_ n3_ n4_ n5_ n6_; clear hb hbox hg))
 have n0_ := Aside0.mk (blk_drew BK519.out)
 have n1_ := Aside0.mk (blk_drew BK520.out)
 have n2_ := Aside0.mk (below_drew1 HB.out)
 clear BK519
 clear BK520
 clear HB
 have BK519 := n0_
 have BK520 := n1_
 have HB := n2_
 clear n0_ n1_ n2_
 refine start_ (n := 9) (S := fun w' => w'.cell? ⟨gb519, 0, none⟩ = some (.slice A0_0 l0_0.length c0_0) ∧ w'.cell? ⟨gb519, 1, none⟩ = some (.slice A0_1 l0_1.length c0_1) ∧ w'.cell? ⟨gb519, 2, none⟩ = some (.slice A0_2 l0_2.length c0_2)) (ds := []) #[false, false, false, false, false, false, false, false, false] (by kernel_rfl) rfl rfl ⟨(blk_cell BK519.out 0).trans rfl, (blk_cell BK519.out 1).trans rfl, (blk_cell BK519.out 2).trans rfl⟩ (fun hHeld => ?_); refine with_tabW match_other.tab1 match_other.bits1 (fun HT_ HW_ => ?_)
 generalize w5.drew = w6 at BK519 BK520 HB hHeld ⊢
 refine pure_ (i := 0) (N := some 6) (v := ?_) (a' := ?_) #[true, false, false, false, false, false, false, false, false] rfl rfl (any_of HT_.out (by kernel_rfl)) (fun _ _ _ h => h) (Or.inl ⟨by rfl, ?_⟩) ?_ ?_
 rotate_left
 ·
  intro w'
  go_simp
  with_reducible rfl
 rotate_left
 ·
  simp only [Act.put, List.setIfInBounds_toArray, List.set_cons_zero, List.set_cons_succ, i64_w, i32_w]
  rfl
 refine pure_ (i := 3) (N := some 9) (v := ?_) (a' := ?_) #[true, false, false, true, false, false, false, false, false] rfl rfl (any_of HT_.out (by kernel_rfl)) (fun _ _ _ h => h) (Or.inl ⟨by rfl, ?_⟩) ?_ ?_
 rotate_left
 ·
  intro w'
  go_simp
  with_reducible rfl
 rotate_left
 ·
  simp only [Act.put, List.setIfInBounds_toArray, List.set_cons_zero, List.set_cons_succ, i64_w, i32_w]
  rfl
 refine take_ (i := 1) (N := some 7) (v := ?_) (a' := ?_) #[true, true, false, true, false, false, false, false, false] rfl rfl (take_ofW HT_.out HW_.out (by kernel_rfl)) (fun _ _ _ h => h) (Or.inl ⟨by rfl, ?_⟩) hHeld ?_ ?_
 rotate_left
 ·
  rintro w' ⟨s0, s1, s2⟩
  go_simp
  with_reducible rfl
 rotate_left
 ·
  simp only [Act.put, List.setIfInBounds_toArray, List.set_cons_zero, List.set_cons_succ, i64_w, i32_w]
  rfl
 refine take_ (i := 4) (N := some 10) (v := ?_) (a' := ?_) #[true, true, false, true, true, false, false, false, false] rfl rfl (take_ofW HT_.out HW_.out (by kernel_rfl)) (fun _ _ _ h => h) (Or.inl ⟨by rfl, ?_⟩) hHeld ?_ ?_
 rotate_left
 ·
  rintro w' ⟨s0, s1, s2⟩
  go_simp
  with_reducible rfl
 rotate_left
 ·
  simp only [Act.put, List.setIfInBounds_toArray, List.set_cons_zero, List.set_cons_succ, i64_w, i32_w]
  rfl
 refine join_ (σ := Value × Value × Nat) 1 #[true, true, true, true, true, true, true, true, false] (fun s_ => [(8, s_.1), (11, s_.2.1), (3, .pointer (some ⟨s_.2.2, 0, none⟩)), (12, .agg #[s_.1, s_.2.1, .slice none 0 0])]) (fun s_ w' => (w'.cell? ⟨gb519, 0, none⟩ = some (.slice A0_0 l0_0.length c0_0) ∧ w'.cell? ⟨gb519, 1, none⟩ = some (.slice A0_1 l0_1.length c0_1) ∧ w'.cell? ⟨gb519, 2, none⟩ = some (.slice A0_2 l0_2.length c0_2)) ∧ (Kd.R (Kd.int .i64) 3 w' w.heap.size (fun _ => True) s_.1 t521) ∧ (Kd.R k50 50 w' w.heap.size (fun _ => True) s_.2.1 t524) ∧ (w'.heap[gb519]? = some (.cells #[.slice A0_0 l0_0.length c0_0, .slice A0_1 l0_1.length c0_1, .slice A0_2 l0_2.length c0_2] 26 (0, 0))) ∧ (w'.heap[gb520]? = some (.cells #[.slice none 0 0, .slice none 0 0, .slice none 0 0] 26 (0, 0))) ∧ (w'.heap[s_.2.2]? = some (.cells #[.slice none 0 0, .slice none 0 0, .slice none 0 0] 26 (0, 0))) ∧ (w.heap.size ≤ s_.2.2) ∧ (w.heap.size ≤ s_.2.2) ∧ (gb519 ≠ s_.2.2) ∧ (s_.2.2 ≠ gb519) ∧ (gb520 ≠ s_.2.2) ∧ (s_.2.2 ≠ gb520) ∧ (Below w.heap.size w w')) ?_ ?_
 rotate_left
 ·
  intro hCont
  refine two_ (i := 2) (j := 7) (Ni := some 8) (Nj := some 3) #[true, true, true, true, true, false, false, false, false] #[true, true, false, true, true, false, false, true, false] rfl rfl rfl rfl (two_of HT_.out (by kernel_rfl)) (by decide) (by decide) (fun K hK => ?_) (fun K hK => ?_)
  ·
   skip
   refine goes_ Try.func88 (by kernel_rfl) rfl #[.slice A0_0 l0_0.length c0_0] (by rfl) rfl rfl (by (try simp only [List.map_toArray, List.map_cons, List.map_nil]); first | done | rfl | (simp only [List.length_drop, List.length_take]; rfl)) ?_
   with_reducible refine (match_copied_int_88.calls _ _ l0_0 t521 _ ?side1 ?side2 A2.out).mono ?_
   (case side1 => repeat (first | exact (Kd.C_below HR0_0.out HB.out) | (with_reducible refine Kd.C_alloc ?_ _) | (with_reducible refine Kd.C_drewN ?_ _) | (with_reducible refine Kd.C_drew ?_)))
   (case side2 => exact HC0_0.out)
   rintro e w7 ⟨v522, rfl, ho0, hb⟩
   refine ⟨_, rfl, ?_⟩
   have n0_ := Aside0.mk (Kd.R_lower ho0 (below_size (by repeat (first | (with_reducible first | exact HB.out | apply below_alloc | apply pw_below_drewN | apply below_drew1 | refine below_set ?_ GE519.out | refine below_set ?_ GE520.out) | exact HB.out))))
   have n1_ := Aside0.mk (blk_below (g := gb519) (o := .cells #[.slice A0_0 l0_0.length c0_0, .slice A0_1 l0_1.length c0_1, .slice A0_2 l0_2.length c0_2] 26 (0, 0)) (by (with_reducible repeat (first | refine blk_drewN ?_ _ | refine blk_drew ?_ | refine blk_alloc ?_ _)); exact BK519.out) hb)
   have n2_ := Aside0.mk (blk_below (g := gb520) (o := .cells #[.slice none 0 0, .slice none 0 0, .slice none 0 0] 26 (0, 0)) (by (with_reducible repeat (first | refine blk_drewN ?_ _ | refine blk_drew ?_ | refine blk_alloc ?_ _)); exact BK520.out) hb)
   have n3_ := Aside0.mk (below_step (by repeat (first | (with_reducible first | exact HB.out | apply below_alloc | apply pw_below_drewN | apply below_drew1 | refine below_set ?_ GE519.out | refine below_set ?_ GE520.out) | exact HB.out)) hb)
   clear BK519
   clear BK520
   clear HB
   have HO523 := n0_
   have BK519 := n1_
   have BK520 := n2_
   have HB := n3_
   clear n0_ n1_ n2_ n3_
   (try clear hb)
   (try clear hb2)
   (try clear hk)
   (try clear hi)
   (try clear ho0)
   refine hK.out _ _ ⟨(blk_cell BK519.out 0).trans rfl, (blk_cell BK519.out 1).trans rfl, (blk_cell BK519.out 2).trans rfl⟩ (fun hHeld => ?_)
   clear hK K
   refine norm_ (a' := ?_) ?_ ?_
   rotate_left
   ·
    show Act.put _ (some 8) _ = _
    simp only [Act.put, List.setIfInBounds_toArray, List.set_cons_zero, List.set_cons_succ, i64_w, i32_w]
    rfl
   refine two_ (i := 5) (j := 7) (Ni := some 11) (Nj := some 3) #[true, true, true, true, true, true, false, false, false] #[true, true, true, true, true, false, false, true, false] rfl rfl rfl rfl (two_of HT_.out (by kernel_rfl)) (by decide) (by decide) (fun K hK => ?_) (fun K hK => ?_)
   ·
    skip
    refine goes_ Try.func92 (by kernel_rfl) rfl #[.slice A0_1 l0_1.length c0_1] (by rfl) rfl rfl (by (try simp only [List.map_toArray, List.map_cons, List.map_nil]); first | done | rfl | (simp only [List.length_drop, List.length_take]; rfl)) ?_
    with_reducible refine (api_Slot.calls _ _ l0_1 t524 _ ?side1 ?side2 A3.out).mono ?_
    (case side1 => repeat (first | exact (Kd.C_below HR0_1.out HB.out) | (with_reducible refine Kd.C_alloc ?_ _) | (with_reducible refine Kd.C_drewN ?_ _) | (with_reducible refine Kd.C_drew ?_)))
    (case side2 => exact HC0_1.out)
    rintro e w8 ⟨v525, rfl, ho0, hb⟩
    refine ⟨_, rfl, ?_⟩
    have n0_ := Aside0.mk (Kd.R_below (by (with_reducible repeat (first | apply Kd.R_alloc | apply Kd.R_drewN | apply Kd.R_drew)); exact HO523.out) hb)
    have n1_ := Aside0.mk (Kd.R_lower ho0 (below_size (by repeat (first | (with_reducible first | exact HB.out | apply below_alloc | apply pw_below_drewN | apply below_drew1 | refine below_set ?_ GE519.out | refine below_set ?_ GE520.out) | exact HB.out))))
    have n2_ := Aside0.mk (blk_below (g := gb519) (o := .cells #[.slice A0_0 l0_0.length c0_0, .slice A0_1 l0_1.length c0_1, .slice A0_2 l0_2.length c0_2] 26 (0, 0)) (by (with_reducible repeat (first | refine blk_drewN ?_ _ | refine blk_drew ?_ | refine blk_alloc ?_ _)); exact BK519.out) hb)
    have n3_ := Aside0.mk (blk_below (g := gb520) (o := .cells #[.slice none 0 0, .slice none 0 0, .slice none 0 0] 26 (0, 0)) (by (with_reducible repeat (first | refine blk_drewN ?_ _ | refine blk_drew ?_ | refine blk_alloc ?_ _)); exact BK520.out) hb)
    have n4_ := Aside0.mk (below_step (by repeat (first | (with_reducible first | exact HB.out | apply below_alloc | apply pw_below_drewN | apply below_drew1 | refine below_set ?_ GE519.out | refine below_set ?_ GE520.out) | exact HB.out)) hb)
    clear HO523
    clear BK519
    clear BK520
    clear HB
    have HO523 := n0_
    have HO526 := n1_
    have BK519 := n2_
    have BK520 := n3_
    have HB := n4_
    clear n0_ n1_ n2_ n3_ n4_
    (try clear hb)
    (try clear hb2)
    (try clear hk)
    (try clear hi)
    (try clear ho0)
    obtain ⟨Ao9, co9, eo9⟩ := Kd.R_slice HO526.out
    (first | subst eo9 | (injection eo9 with f1_ f2_ f3_; have f4_ := f1_.symm; have f5_ := f3_.symm; clear f1_ f2_ f3_; subst f4_; subst f5_))
    obtain ⟨Ao10, co10, eo10⟩ := Kd.R_slice HO523.out
    (first | subst eo10 | (injection eo10 with f1_ f2_ f3_; have f4_ := f1_.symm; have f5_ := f3_.symm; clear f1_ f2_ f3_; subst f4_; subst f5_))
    refine hK.out _ _ ⟨(blk_cell BK519.out 0).trans rfl, (blk_cell BK519.out 1).trans rfl, (blk_cell BK519.out 2).trans rfl⟩ (fun hHeld => ?_)
    clear hK K
    refine norm_ (a' := ?_) ?_ ?_
    rotate_left
    ·
     show Act.put _ (some 11) _ = _
     simp only [Act.put, List.setIfInBounds_toArray, List.set_cons_zero, List.set_cons_succ, i64_w, i32_w]
     rfl
    refine pure_ (i := 6) (N := some 12) (v := ?_) (a' := ?_) #[true, true, true, true, true, true, true, false, false] rfl rfl (any_of HT_.out (by kernel_rfl)) (fun _ _ _ h => h) (Or.inl ⟨by rfl, ?_⟩) ?_ ?_
    rotate_left
    ·
     intro w'
     go_simp
     with_reducible rfl
    rotate_left
    ·
     simp only [Act.put, List.setIfInBounds_toArray, List.set_cons_zero, List.set_cons_succ, i64_w, i32_w]
     rfl
    refine one_ (i := 7) (N := some 3) #[true, true, true, true, true, true, true, true, false] rfl rfl (one_of HT_.out (by kernel_rfl)) (by decide) (fun K hK => ?_)
    refine box_step ?hg (N := 3) ?hd (cs := #[.slice none 0 0, .slice none 0 0, .slice none 0 0]) (t := 26) ?hr ?_; (case hd => rfl); (case hg => rfl); (case hr => first | (go_simp; done) | (go_simp; rfl))
    intro gb527 hg w11 hbox hb
    have n0_ := Aside0.mk (Kd.R_below (by (with_reducible repeat (first | apply Kd.R_alloc | apply Kd.R_drewN | apply Kd.R_drew)); exact HO523.out) hb)
    have n1_ := Aside0.mk (Kd.R_below (by (with_reducible repeat (first | apply Kd.R_alloc | apply Kd.R_drewN | apply Kd.R_drew)); exact HO526.out) hb)
    have n2_ := Aside0.mk (blk_below (g := gb519) (o := .cells #[.slice A0_0 l0_0.length c0_0, .slice A0_1 l0_1.length c0_1, .slice A0_2 l0_2.length c0_2] 26 (0, 0)) (by (with_reducible repeat (first | refine blk_drewN ?_ _ | refine blk_drew ?_ | refine blk_alloc ?_ _)); exact BK519.out) hb)
    have n3_ := Aside0.mk (blk_below (g := gb520) (o := .cells #[.slice none 0 0, .slice none 0 0, .slice none 0 0] 26 (0, 0)) (by (with_reducible repeat (first | refine blk_drewN ?_ _ | refine blk_drew ?_ | refine blk_alloc ?_ _)); exact BK520.out) hb)
    have n4_ := Aside0.mk (below_step (by repeat (first | (with_reducible first | exact HB.out | apply below_alloc | apply pw_below_drewN | apply below_drew1 | refine below_set ?_ GE519.out | refine below_set ?_ GE520.out) | exact HB.out)) hb)
    have n5_ := Aside0.mk (hbox)
    have n6_ := Aside0.mk ((by rw [hg]; exact (below_size (by repeat (first | (with_reducible first | exact HB.out | apply below_alloc | apply pw_below_drewN | apply below_drew1 | refine below_set ?_ GE519.out | refine below_set ?_ GE520.out) | exact HB.out))) : w.heap.size ≤ gb527))
    have n7_ := Aside0.mk ((by rw [hg]; exact (below_size (by repeat (first | (with_reducible first | exact HB.out | apply below_alloc | apply pw_below_drewN | apply below_drew1 | refine below_set ?_ GE519.out | refine below_set ?_ GE520.out) | exact HB.out))) : w.heap.size ≤ gb527))
    have n8_ := Aside0.mk ((by rw [hg]; exact Nat.ne_of_lt (blk_lt (g := gb519) (o := .cells #[.slice A0_0 l0_0.length c0_0, .slice A0_1 l0_1.length c0_1, .slice A0_2 l0_2.length c0_2] 26 (0, 0)) (by (with_reducible repeat (first | refine blk_drewN ?_ _ | refine blk_drew ?_ | refine blk_alloc ?_ _)); exact BK519.out)) : gb519 ≠ gb527))
    have n9_ := Aside0.mk ((by rw [hg]; exact Nat.ne_of_gt (blk_lt (g := gb519) (o := .cells #[.slice A0_0 l0_0.length c0_0, .slice A0_1 l0_1.length c0_1, .slice A0_2 l0_2.length c0_2] 26 (0, 0)) (by (with_reducible repeat (first | refine blk_drewN ?_ _ | refine blk_drew ?_ | refine blk_alloc ?_ _)); exact BK519.out)) : gb527 ≠ gb519))
    have n10_ := Aside0.mk ((by rw [hg]; exact Nat.ne_of_lt (blk_lt (g := gb520) (o := .cells #[.slice none 0 0, .slice none 0 0, .slice none 0 0] 26 (0, 0)) (by (with_reducible repeat (first | refine blk_drewN ?_ _ | refine blk_drew ?_ | refine blk_alloc ?_ _)); exact BK520.out)) : gb520 ≠ gb527))
    have n11_ := Aside0.mk ((by rw [hg]; exact Nat.ne_of_gt (blk_lt (g := gb520) (o := .cells #[.slice none 0 0, .slice none 0 0, .slice none 0 0] 26 (0, 0)) (by (with_reducible repeat (first | refine blk_drewN ?_ _ | refine blk_drew ?_ | refine blk_alloc ?_ _)); exact BK520.out)) : gb527 ≠ gb520))
    clear HO523
    clear HO526
    clear BK519
    clear BK520
    clear HB
    have HO523 := n0_
    have HO526 := n1_
    have BK519 := n2_
    have BK520 := n3_
    have HB := n4_
    have BK527 := n5_
    have GW527 := n6_
    have GE527 := n7_
    have NB519_527 := n8_
    have NB527_519 := n9_
    have NB520_527 := n10_
    have NB527_520 := n11_
    clear n0_ n1_ n2_ n3_ n4_ n5_ n6_ n7_ n8_ n9_ n10_ n11_
    clear hb hbox hg
    refine hK.out _ _ ⟨(blk_cell BK519.out 0).trans rfl, (blk_cell BK519.out 1).trans rfl, (blk_cell BK519.out 2).trans rfl⟩ (fun hHeld => ?_)
    clear hK K
    refine norm_ (a' := ?_) ?_ ?_
    rotate_left
    ·
     show Act.put _ (some 3) _ = _
     simp only [Act.put, List.setIfInBounds_toArray, List.set_cons_zero, List.set_cons_succ, i64_w, i32_w]
     rfl
    exact norm_ (by simp only [putAll, Act.put, List.setIfInBounds_toArray, List.set_cons_zero, List.set_cons_succ]) (hCont (.slice Ao10 t521.length co10, .slice Ao9 t524.length co9, gb527) _ ⟨hHeld, (by (with_reducible repeat (first | apply Kd.R_alloc | apply Kd.R_drewN | apply Kd.R_drew)); exact HO523.out), (by (with_reducible repeat (first | apply Kd.R_alloc | apply Kd.R_drewN | apply Kd.R_drew)); exact HO526.out), (by (with_reducible repeat (first | refine blk_drewN ?_ _ | refine blk_drew ?_ | refine blk_alloc ?_ _)); exact BK519.out), (by (with_reducible repeat (first | refine blk_drewN ?_ _ | refine blk_drew ?_ | refine blk_alloc ?_ _)); exact BK520.out), (by (with_reducible repeat (first | refine blk_drewN ?_ _ | refine blk_drew ?_ | refine blk_alloc ?_ _)); exact BK527.out), GW527.out, GE527.out, NB519_527.out, NB527_519.out, NB520_527.out, NB527_520.out, (by repeat (first | (with_reducible first | exact HB.out | apply below_alloc | apply pw_below_drewN | apply below_drew1 | refine below_set ?_ GE519.out | refine below_set ?_ GE520.out | refine below_set ?_ GE527.out) | exact HB.out))⟩)
   skip
   refine box_step ?hg (N := 3) ?hd (cs := #[.slice none 0 0, .slice none 0 0, .slice none 0 0]) (t := 26) ?hr ?_; (case hd => rfl); (case hg => rfl); (case hr => first | (go_simp; done) | (go_simp; rfl))
   intro gb527 hg w8 hbox hb
   have n0_ := Aside0.mk (Kd.R_below (by (with_reducible repeat (first | apply Kd.R_alloc | apply Kd.R_drewN | apply Kd.R_drew)); exact HO523.out) hb)
   have n1_ := Aside0.mk (blk_below (g := gb519) (o := .cells #[.slice A0_0 l0_0.length c0_0, .slice A0_1 l0_1.length c0_1, .slice A0_2 l0_2.length c0_2] 26 (0, 0)) (by (with_reducible repeat (first | refine blk_drewN ?_ _ | refine blk_drew ?_ | refine blk_alloc ?_ _)); exact BK519.out) hb)
   have n2_ := Aside0.mk (blk_below (g := gb520) (o := .cells #[.slice none 0 0, .slice none 0 0, .slice none 0 0] 26 (0, 0)) (by (with_reducible repeat (first | refine blk_drewN ?_ _ | refine blk_drew ?_ | refine blk_alloc ?_ _)); exact BK520.out) hb)
   have n3_ := Aside0.mk (below_step (by repeat (first | (with_reducible first | exact HB.out | apply below_alloc | apply pw_below_drewN | apply below_drew1 | refine below_set ?_ GE519.out | refine below_set ?_ GE520.out) | exact HB.out)) hb)
   have n4_ := Aside0.mk (hbox)
   have n5_ := Aside0.mk ((by rw [hg]; exact (below_size (by repeat (first | (with_reducible first | exact HB.out | apply below_alloc | apply pw_below_drewN | apply below_drew1 | refine below_set ?_ GE519.out | refine below_set ?_ GE520.out) | exact HB.out))) : w.heap.size ≤ gb527))
   have n6_ := Aside0.mk ((by rw [hg]; exact (below_size (by repeat (first | (with_reducible first | exact HB.out | apply below_alloc | apply pw_below_drewN | apply below_drew1 | refine below_set ?_ GE519.out | refine below_set ?_ GE520.out) | exact HB.out))) : w.heap.size ≤ gb527))
   have n7_ := Aside0.mk ((by rw [hg]; exact Nat.ne_of_lt (blk_lt (g := gb519) (o := .cells #[.slice A0_0 l0_0.length c0_0, .slice A0_1 l0_1.length c0_1, .slice A0_2 l0_2.length c0_2] 26 (0, 0)) (by (with_reducible repeat (first | refine blk_drewN ?_ _ | refine blk_drew ?_ | refine blk_alloc ?_ _)); exact BK519.out)) : gb519 ≠ gb527))
   have n8_ := Aside0.mk ((by rw [hg]; exact Nat.ne_of_gt (blk_lt (g := gb519) (o := .cells #[.slice A0_0 l0_0.length c0_0, .slice A0_1 l0_1.length c0_1, .slice A0_2 l0_2.length c0_2] 26 (0, 0)) (by (with_reducible repeat (first | refine blk_drewN ?_ _ | refine blk_drew ?_ | refine blk_alloc ?_ _)); exact BK519.out)) : gb527 ≠ gb519))
   have n9_ := Aside0.mk ((by rw [hg]; exact Nat.ne_of_lt (blk_lt (g := gb520) (o := .cells #[.slice none 0 0, .slice none 0 0, .slice none 0 0] 26 (0, 0)) (by (with_reducible repeat (first | refine blk_drewN ?_ _ | refine blk_drew ?_ | refine blk_alloc ?_ _)); exact BK520.out)) : gb520 ≠ gb527))
   have n10_ := Aside0.mk ((by rw [hg]; exact Nat.ne_of_gt (blk_lt (g := gb520) (o := .cells #[.slice none 0 0, .slice none 0 0, .slice none 0 0] 26 (0, 0)) (by (with_reducible repeat (first | refine blk_drewN ?_ _ | refine blk_drew ?_ | refine blk_alloc ?_ _)); exact BK520.out)) : gb527 ≠ gb520))
   clear HO523
   clear BK519
   clear BK520
   clear HB
   have HO523 := n0_
   have BK519 := n1_
   have BK520 := n2_
   have HB := n3_
   have BK527 := n4_
   have GW527 := n5_
   have GE527 := n6_
   have NB519_527 := n7_
   have NB527_519 := n8_
   have NB520_527 := n9_
   have NB527_520 := n10_
   clear n0_ n1_ n2_ n3_ n4_ n5_ n6_ n7_ n8_ n9_ n10_
   clear hb hbox hg
   refine hK.out _ _ ⟨(blk_cell BK519.out 0).trans rfl, (blk_cell BK519.out 1).trans rfl, (blk_cell BK519.out 2).trans rfl⟩ (fun hHeld => ?_)
   clear hK K
   refine norm_ (a' := ?_) ?_ ?_
   rotate_left
   ·
    show Act.put _ (some 3) _ = _
    simp only [Act.put, List.setIfInBounds_toArray, List.set_cons_zero, List.set_cons_succ, i64_w, i32_w]
    rfl
   refine one_ (i := 5) (N := some 11) #[true, true, true, true, true, true, false, true, false] rfl rfl (one_of HT_.out (by kernel_rfl)) (by decide) (fun K hK => ?_)
   refine goes_ Try.func92 (by kernel_rfl) rfl #[.slice A0_1 l0_1.length c0_1] (by rfl) rfl rfl (by (try simp only [List.map_toArray, List.map_cons, List.map_nil]); first | done | rfl | (simp only [List.length_drop, List.length_take]; rfl)) ?_
   with_reducible refine (api_Slot.calls _ _ l0_1 t524 _ ?side1 ?side2 A3.out).mono ?_
   (case side1 => repeat (first | exact (Kd.C_below HR0_1.out HB.out) | (with_reducible refine Kd.C_alloc ?_ _) | (with_reducible refine Kd.C_drewN ?_ _) | (with_reducible refine Kd.C_drew ?_)))
   (case side2 => exact HC0_1.out)
   rintro e w9 ⟨v525, rfl, ho0, hb⟩
   refine ⟨_, rfl, ?_⟩
   have n0_ := Aside0.mk (Kd.R_below (by (with_reducible repeat (first | apply Kd.R_alloc | apply Kd.R_drewN | apply Kd.R_drew)); exact HO523.out) hb)
   have n1_ := Aside0.mk (Kd.R_lower ho0 (below_size (by repeat (first | (with_reducible first | exact HB.out | apply below_alloc | apply pw_below_drewN | apply below_drew1 | refine below_set ?_ GE519.out | refine below_set ?_ GE520.out | refine below_set ?_ GE527.out) | exact HB.out))))
   have n2_ := Aside0.mk (blk_below (g := gb519) (o := .cells #[.slice A0_0 l0_0.length c0_0, .slice A0_1 l0_1.length c0_1, .slice A0_2 l0_2.length c0_2] 26 (0, 0)) (by (with_reducible repeat (first | refine blk_drewN ?_ _ | refine blk_drew ?_ | refine blk_alloc ?_ _)); exact BK519.out) hb)
   have n3_ := Aside0.mk (blk_below (g := gb520) (o := .cells #[.slice none 0 0, .slice none 0 0, .slice none 0 0] 26 (0, 0)) (by (with_reducible repeat (first | refine blk_drewN ?_ _ | refine blk_drew ?_ | refine blk_alloc ?_ _)); exact BK520.out) hb)
   have n4_ := Aside0.mk (blk_below (g := gb527) (o := .cells #[.slice none 0 0, .slice none 0 0, .slice none 0 0] 26 (0, 0)) (by (with_reducible repeat (first | refine blk_drewN ?_ _ | refine blk_drew ?_ | refine blk_alloc ?_ _)); exact BK527.out) hb)
   have n5_ := Aside0.mk (below_step (by repeat (first | (with_reducible first | exact HB.out | apply below_alloc | apply pw_below_drewN | apply below_drew1 | refine below_set ?_ GE519.out | refine below_set ?_ GE520.out | refine below_set ?_ GE527.out) | exact HB.out)) hb)
   clear HO523
   clear BK519
   clear BK520
   clear BK527
   clear HB
   have HO523 := n0_
   have HO526 := n1_
   have BK519 := n2_
   have BK520 := n3_
   have BK527 := n4_
   have HB := n5_
   clear n0_ n1_ n2_ n3_ n4_ n5_
   (try clear hb)
   (try clear hb2)
   (try clear hk)
   (try clear hi)
   (try clear ho0)
   obtain ⟨Ao10, co10, eo10⟩ := Kd.R_slice HO526.out
   (first | subst eo10 | (injection eo10 with f1_ f2_ f3_; have f4_ := f1_.symm; have f5_ := f3_.symm; clear f1_ f2_ f3_; subst f4_; subst f5_))
   obtain ⟨Ao11, co11, eo11⟩ := Kd.R_slice HO523.out
   (first | subst eo11 | (injection eo11 with f1_ f2_ f3_; have f4_ := f1_.symm; have f5_ := f3_.symm; clear f1_ f2_ f3_; subst f4_; subst f5_))
   refine hK.out _ _ ⟨(blk_cell BK519.out 0).trans rfl, (blk_cell BK519.out 1).trans rfl, (blk_cell BK519.out 2).trans rfl⟩ (fun hHeld => ?_)
   clear hK K
   refine norm_ (a' := ?_) ?_ ?_
   rotate_left
   ·
    show Act.put _ (some 11) _ = _
    simp only [Act.put, List.setIfInBounds_toArray, List.set_cons_zero, List.set_cons_succ, i64_w, i32_w]
    rfl
   refine pure_ (i := 6) (N := some 12) (v := ?_) (a' := ?_) #[true, true, true, true, true, true, true, true, false] rfl rfl (any_of HT_.out (by kernel_rfl)) (fun _ _ _ h => h) (Or.inl ⟨by rfl, ?_⟩) ?_ ?_
   rotate_left
   ·
    intro w'
    go_simp
    with_reducible rfl
   rotate_left
   ·
    simp only [Act.put, List.setIfInBounds_toArray, List.set_cons_zero, List.set_cons_succ, i64_w, i32_w]
    rfl
   exact norm_ (by simp only [putAll, Act.put, List.setIfInBounds_toArray, List.set_cons_zero, List.set_cons_succ]) (hCont (.slice Ao11 t521.length co11, .slice Ao10 t524.length co10, gb527) _ ⟨hHeld, (by (with_reducible repeat (first | apply Kd.R_alloc | apply Kd.R_drewN | apply Kd.R_drew)); exact HO523.out), (by (with_reducible repeat (first | apply Kd.R_alloc | apply Kd.R_drewN | apply Kd.R_drew)); exact HO526.out), (by (with_reducible repeat (first | refine blk_drewN ?_ _ | refine blk_drew ?_ | refine blk_alloc ?_ _)); exact BK519.out), (by (with_reducible repeat (first | refine blk_drewN ?_ _ | refine blk_drew ?_ | refine blk_alloc ?_ _)); exact BK520.out), (by (with_reducible repeat (first | refine blk_drewN ?_ _ | refine blk_drew ?_ | refine blk_alloc ?_ _)); exact BK527.out), GW527.out, GE527.out, NB519_527.out, NB527_519.out, NB520_527.out, NB527_520.out, (by repeat (first | (with_reducible first | exact HB.out | apply below_alloc | apply pw_below_drewN | apply below_drew1 | refine below_set ?_ GE519.out | refine below_set ?_ GE520.out | refine below_set ?_ GE527.out) | exact HB.out))⟩)
  skip
  refine box_step ?hg (N := 3) ?hd (cs := #[.slice none 0 0, .slice none 0 0, .slice none 0 0]) (t := 26) ?hr ?_; (case hd => rfl); (case hg => rfl); (case hr => first | (go_simp; done) | (go_simp; rfl))
  intro gb527 hg w7 hbox hb
  have n0_ := Aside0.mk (blk_below (g := gb519) (o := .cells #[.slice A0_0 l0_0.length c0_0, .slice A0_1 l0_1.length c0_1, .slice A0_2 l0_2.length c0_2] 26 (0, 0)) (by (with_reducible repeat (first | refine blk_drewN ?_ _ | refine blk_drew ?_ | refine blk_alloc ?_ _)); exact BK519.out) hb)
  have n1_ := Aside0.mk (blk_below (g := gb520) (o := .cells #[.slice none 0 0, .slice none 0 0, .slice none 0 0] 26 (0, 0)) (by (with_reducible repeat (first | refine blk_drewN ?_ _ | refine blk_drew ?_ | refine blk_alloc ?_ _)); exact BK520.out) hb)
  have n2_ := Aside0.mk (below_step (by repeat (first | (with_reducible first | exact HB.out | apply below_alloc | apply pw_below_drewN | apply below_drew1 | refine below_set ?_ GE519.out | refine below_set ?_ GE520.out) | exact HB.out)) hb)
  have n3_ := Aside0.mk (hbox)
  have n4_ := Aside0.mk ((by rw [hg]; exact (below_size (by repeat (first | (with_reducible first | exact HB.out | apply below_alloc | apply pw_below_drewN | apply below_drew1 | refine below_set ?_ GE519.out | refine below_set ?_ GE520.out) | exact HB.out))) : w.heap.size ≤ gb527))
  have n5_ := Aside0.mk ((by rw [hg]; exact (below_size (by repeat (first | (with_reducible first | exact HB.out | apply below_alloc | apply pw_below_drewN | apply below_drew1 | refine below_set ?_ GE519.out | refine below_set ?_ GE520.out) | exact HB.out))) : w.heap.size ≤ gb527))
  have n6_ := Aside0.mk ((by rw [hg]; exact Nat.ne_of_lt (blk_lt (g := gb519) (o := .cells #[.slice A0_0 l0_0.length c0_0, .slice A0_1 l0_1.length c0_1, .slice A0_2 l0_2.length c0_2] 26 (0, 0)) (by (with_reducible repeat (first | refine blk_drewN ?_ _ | refine blk_drew ?_ | refine blk_alloc ?_ _)); exact BK519.out)) : gb519 ≠ gb527))
  have n7_ := Aside0.mk ((by rw [hg]; exact Nat.ne_of_gt (blk_lt (g := gb519) (o := .cells #[.slice A0_0 l0_0.length c0_0, .slice A0_1 l0_1.length c0_1, .slice A0_2 l0_2.length c0_2] 26 (0, 0)) (by (with_reducible repeat (first | refine blk_drewN ?_ _ | refine blk_drew ?_ | refine blk_alloc ?_ _)); exact BK519.out)) : gb527 ≠ gb519))
  have n8_ := Aside0.mk ((by rw [hg]; exact Nat.ne_of_lt (blk_lt (g := gb520) (o := .cells #[.slice none 0 0, .slice none 0 0, .slice none 0 0] 26 (0, 0)) (by (with_reducible repeat (first | refine blk_drewN ?_ _ | refine blk_drew ?_ | refine blk_alloc ?_ _)); exact BK520.out)) : gb520 ≠ gb527))
  have n9_ := Aside0.mk ((by rw [hg]; exact Nat.ne_of_gt (blk_lt (g := gb520) (o := .cells #[.slice none 0 0, .slice none 0 0, .slice none 0 0] 26 (0, 0)) (by (with_reducible repeat (first | refine blk_drewN ?_ _ | refine blk_drew ?_ | refine blk_alloc ?_ _)); exact BK520.out)) : gb527 ≠ gb520))
  clear BK519
  clear BK520
  clear HB
  have BK519 := n0_
  have BK520 := n1_
  have HB := n2_
  have BK527 := n3_
  have GW527 := n4_
  have GE527 := n5_
  have NB519_527 := n6_
  have NB527_519 := n7_
  have NB520_527 := n8_
  have NB527_520 := n9_
  clear n0_ n1_ n2_ n3_ n4_ n5_ n6_ n7_ n8_ n9_
  clear hb hbox hg
  refine hK.out _ _ ⟨(blk_cell BK519.out 0).trans rfl, (blk_cell BK519.out 1).trans rfl, (blk_cell BK519.out 2).trans rfl⟩ (fun hHeld => ?_)
  clear hK K
  refine norm_ (a' := ?_) ?_ ?_
  rotate_left
  ·
   show Act.put _ (some 3) _ = _
   simp only [Act.put, List.setIfInBounds_toArray, List.set_cons_zero, List.set_cons_succ, i64_w, i32_w]
   rfl
  refine one_ (i := 2) (N := some 8) #[true, true, true, true, true, false, false, true, false] rfl rfl (one_of HT_.out (by kernel_rfl)) (by decide) (fun K hK => ?_)
  refine goes_ Try.func88 (by kernel_rfl) rfl #[.slice A0_0 l0_0.length c0_0] (by rfl) rfl rfl (by (try simp only [List.map_toArray, List.map_cons, List.map_nil]); first | done | rfl | (simp only [List.length_drop, List.length_take]; rfl)) ?_
  with_reducible refine (match_copied_int_88.calls _ _ l0_0 t521 _ ?side1 ?side2 A2.out).mono ?_
  (case side1 => repeat (first | exact (Kd.C_below HR0_0.out HB.out) | (with_reducible refine Kd.C_alloc ?_ _) | (with_reducible refine Kd.C_drewN ?_ _) | (with_reducible refine Kd.C_drew ?_)))
  (case side2 => exact HC0_0.out)
  rintro e w8 ⟨v522, rfl, ho0, hb⟩
  refine ⟨_, rfl, ?_⟩
  have n0_ := Aside0.mk (Kd.R_lower ho0 (below_size (by repeat (first | (with_reducible first | exact HB.out | apply below_alloc | apply pw_below_drewN | apply below_drew1 | refine below_set ?_ GE519.out | refine below_set ?_ GE520.out | refine below_set ?_ GE527.out) | exact HB.out))))
  have n1_ := Aside0.mk (blk_below (g := gb519) (o := .cells #[.slice A0_0 l0_0.length c0_0, .slice A0_1 l0_1.length c0_1, .slice A0_2 l0_2.length c0_2] 26 (0, 0)) (by (with_reducible repeat (first | refine blk_drewN ?_ _ | refine blk_drew ?_ | refine blk_alloc ?_ _)); exact BK519.out) hb)
  have n2_ := Aside0.mk (blk_below (g := gb520) (o := .cells #[.slice none 0 0, .slice none 0 0, .slice none 0 0] 26 (0, 0)) (by (with_reducible repeat (first | refine blk_drewN ?_ _ | refine blk_drew ?_ | refine blk_alloc ?_ _)); exact BK520.out) hb)
  have n3_ := Aside0.mk (blk_below (g := gb527) (o := .cells #[.slice none 0 0, .slice none 0 0, .slice none 0 0] 26 (0, 0)) (by (with_reducible repeat (first | refine blk_drewN ?_ _ | refine blk_drew ?_ | refine blk_alloc ?_ _)); exact BK527.out) hb)
  have n4_ := Aside0.mk (below_step (by repeat (first | (with_reducible first | exact HB.out | apply below_alloc | apply pw_below_drewN | apply below_drew1 | refine below_set ?_ GE519.out | refine below_set ?_ GE520.out | refine below_set ?_ GE527.out) | exact HB.out)) hb)
  clear BK519
  clear BK520
  clear BK527
  clear HB
  have HO523 := n0_
  have BK519 := n1_
  have BK520 := n2_
  have BK527 := n3_
  have HB := n4_
  clear n0_ n1_ n2_ n3_ n4_
  (try clear hb)
  (try clear hb2)
  (try clear hk)
  (try clear hi)
  (try clear ho0)
  refine hK.out _ _ ⟨(blk_cell BK519.out 0).trans rfl, (blk_cell BK519.out 1).trans rfl, (blk_cell BK519.out 2).trans rfl⟩ (fun hHeld => ?_)
  clear hK K
  refine norm_ (a' := ?_) ?_ ?_
  rotate_left
  ·
   show Act.put _ (some 8) _ = _
   simp only [Act.put, List.setIfInBounds_toArray, List.set_cons_zero, List.set_cons_succ, i64_w, i32_w]
   rfl
  refine one_ (i := 5) (N := some 11) #[true, true, true, true, true, true, false, true, false] rfl rfl (one_of HT_.out (by kernel_rfl)) (by decide) (fun K hK => ?_)
  refine goes_ Try.func92 (by kernel_rfl) rfl #[.slice A0_1 l0_1.length c0_1] (by rfl) rfl rfl (by (try simp only [List.map_toArray, List.map_cons, List.map_nil]); first | done | rfl | (simp only [List.length_drop, List.length_take]; rfl)) ?_
  with_reducible refine (api_Slot.calls _ _ l0_1 t524 _ ?side1 ?side2 A3.out).mono ?_
  (case side1 => repeat (first | exact (Kd.C_below HR0_1.out HB.out) | (with_reducible refine Kd.C_alloc ?_ _) | (with_reducible refine Kd.C_drewN ?_ _) | (with_reducible refine Kd.C_drew ?_)))
  (case side2 => exact HC0_1.out)
  rintro e w9 ⟨v525, rfl, ho0, hb⟩
  refine ⟨_, rfl, ?_⟩
  have n0_ := Aside0.mk (Kd.R_below (by (with_reducible repeat (first | apply Kd.R_alloc | apply Kd.R_drewN | apply Kd.R_drew)); exact HO523.out) hb)
  have n1_ := Aside0.mk (Kd.R_lower ho0 (below_size (by repeat (first | (with_reducible first | exact HB.out | apply below_alloc | apply pw_below_drewN | apply below_drew1 | refine below_set ?_ GE519.out | refine below_set ?_ GE520.out | refine below_set ?_ GE527.out) | exact HB.out))))
  have n2_ := Aside0.mk (blk_below (g := gb519) (o := .cells #[.slice A0_0 l0_0.length c0_0, .slice A0_1 l0_1.length c0_1, .slice A0_2 l0_2.length c0_2] 26 (0, 0)) (by (with_reducible repeat (first | refine blk_drewN ?_ _ | refine blk_drew ?_ | refine blk_alloc ?_ _)); exact BK519.out) hb)
  have n3_ := Aside0.mk (blk_below (g := gb520) (o := .cells #[.slice none 0 0, .slice none 0 0, .slice none 0 0] 26 (0, 0)) (by (with_reducible repeat (first | refine blk_drewN ?_ _ | refine blk_drew ?_ | refine blk_alloc ?_ _)); exact BK520.out) hb)
  have n4_ := Aside0.mk (blk_below (g := gb527) (o := .cells #[.slice none 0 0, .slice none 0 0, .slice none 0 0] 26 (0, 0)) (by (with_reducible repeat (first | refine blk_drewN ?_ _ | refine blk_drew ?_ | refine blk_alloc ?_ _)); exact BK527.out) hb)
  have n5_ := Aside0.mk (below_step (by repeat (first | (with_reducible first | exact HB.out | apply below_alloc | apply pw_below_drewN | apply below_drew1 | refine below_set ?_ GE519.out | refine below_set ?_ GE520.out | refine below_set ?_ GE527.out) | exact HB.out)) hb)
  clear HO523
  clear BK519
  clear BK520
  clear BK527
  clear HB
  have HO523 := n0_
  have HO526 := n1_
  have BK519 := n2_
  have BK520 := n3_
  have BK527 := n4_
  have HB := n5_
  clear n0_ n1_ n2_ n3_ n4_ n5_
  (try clear hb)
  (try clear hb2)
  (try clear hk)
  (try clear hi)
  (try clear ho0)
  obtain ⟨Ao10, co10, eo10⟩ := Kd.R_slice HO526.out
  (first | subst eo10 | (injection eo10 with f1_ f2_ f3_; have f4_ := f1_.symm; have f5_ := f3_.symm; clear f1_ f2_ f3_; subst f4_; subst f5_))
  obtain ⟨Ao11, co11, eo11⟩ := Kd.R_slice HO523.out
  (first | subst eo11 | (injection eo11 with f1_ f2_ f3_; have f4_ := f1_.symm; have f5_ := f3_.symm; clear f1_ f2_ f3_; subst f4_; subst f5_))
  refine hK.out _ _ ⟨(blk_cell BK519.out 0).trans rfl, (blk_cell BK519.out 1).trans rfl, (blk_cell BK519.out 2).trans rfl⟩ (fun hHeld => ?_)
  clear hK K
  refine norm_ (a' := ?_) ?_ ?_
  rotate_left
  ·
   show Act.put _ (some 11) _ = _
   simp only [Act.put, List.setIfInBounds_toArray, List.set_cons_zero, List.set_cons_succ, i64_w, i32_w]
   rfl
  refine pure_ (i := 6) (N := some 12) (v := ?_) (a' := ?_) #[true, true, true, true, true, true, true, true, false] rfl rfl (any_of HT_.out (by kernel_rfl)) (fun _ _ _ h => h) (Or.inl ⟨by rfl, ?_⟩) ?_ ?_
  rotate_left
  ·
   intro w'
   go_simp
   with_reducible rfl
  rotate_left
  ·
   simp only [Act.put, List.setIfInBounds_toArray, List.set_cons_zero, List.set_cons_succ, i64_w, i32_w]
   rfl
  exact norm_ (by simp only [putAll, Act.put, List.setIfInBounds_toArray, List.set_cons_zero, List.set_cons_succ]) (hCont (.slice Ao11 t521.length co11, .slice Ao10 t524.length co10, gb527) _ ⟨hHeld, (by (with_reducible repeat (first | apply Kd.R_alloc | apply Kd.R_drewN | apply Kd.R_drew)); exact HO523.out), (by (with_reducible repeat (first | apply Kd.R_alloc | apply Kd.R_drewN | apply Kd.R_drew)); exact HO526.out), (by (with_reducible repeat (first | refine blk_drewN ?_ _ | refine blk_drew ?_ | refine blk_alloc ?_ _)); exact BK519.out), (by (with_reducible repeat (first | refine blk_drewN ?_ _ | refine blk_drew ?_ | refine blk_alloc ?_ _)); exact BK520.out), (by (with_reducible repeat (first | refine blk_drewN ?_ _ | refine blk_drew ?_ | refine blk_alloc ?_ _)); exact BK527.out), GW527.out, GE527.out, NB519_527.out, NB527_519.out, NB520_527.out, NB527_520.out, (by repeat (first | (with_reducible first | exact HB.out | apply below_alloc | apply pw_below_drewN | apply below_drew1 | refine below_set ?_ GE519.out | refine below_set ?_ GE520.out | refine below_set ?_ GE527.out) | exact HB.out))⟩)
 rintro ⟨v522, v525, gb527⟩ w12 ⟨hS_, h0_, h1_, h2_, h3_, h4_, h5_, h6_, h7_, h8_, h9_, h10_, h11_⟩
 have n0_ : Aside0 (Kd.R (Kd.int .i64) 3 w12 w.heap.size (fun _ => True) v522 t521) := ⟨h0_⟩
 have n1_ : Aside0 (Kd.R k50 50 w12 w.heap.size (fun _ => True) v525 t524) := ⟨h1_⟩
 have n2_ : Aside0 (w12.heap[gb519]? = some (.cells #[.slice A0_0 l0_0.length c0_0, .slice A0_1 l0_1.length c0_1, .slice A0_2 l0_2.length c0_2] 26 (0, 0))) := ⟨h2_⟩
 have n3_ : Aside0 (w12.heap[gb520]? = some (.cells #[.slice none 0 0, .slice none 0 0, .slice none 0 0] 26 (0, 0))) := ⟨h3_⟩
 have n4_ : Aside0 (w12.heap[gb527]? = some (.cells #[.slice none 0 0, .slice none 0 0, .slice none 0 0] 26 (0, 0))) := ⟨h4_⟩
 have n5_ : Aside0 (w.heap.size ≤ gb527) := ⟨h5_⟩
 have n6_ : Aside0 (w.heap.size ≤ gb527) := ⟨h6_⟩
 have n7_ : Aside0 (gb519 ≠ gb527) := ⟨h7_⟩
 have n8_ : Aside0 (gb527 ≠ gb519) := ⟨h8_⟩
 have n9_ : Aside0 (gb520 ≠ gb527) := ⟨h9_⟩
 have n10_ : Aside0 (gb527 ≠ gb520) := ⟨h10_⟩
 have n11_ : Aside0 (Below w.heap.size w w12) := ⟨h11_⟩
 clear BK519
 clear BK520
 clear HB
 clear h0_ h1_ h2_ h3_ h4_ h5_ h6_ h7_ h8_ h9_ h10_ h11_
 have HO523 := n0_
 have HO526 := n1_
 have BK519 := n2_
 have BK520 := n3_
 have BK527 := n4_
 have GW527 := n5_
 have GE527 := n6_
 have NB519_527 := n7_
 have NB527_519 := n8_
 have NB520_527 := n9_
 have NB527_520 := n10_
 have HB := n11_
 clear n0_ n1_ n2_ n3_ n4_ n5_ n6_ n7_ n8_ n9_ n10_ n11_
 have hHeld : w12.cell? ⟨gb519, 0, none⟩ = some (.slice A0_0 l0_0.length c0_0) ∧ w12.cell? ⟨gb519, 1, none⟩ = some (.slice A0_1 l0_1.length c0_1) ∧ w12.cell? ⟨gb519, 2, none⟩ = some (.slice A0_2 l0_2.length c0_2) := hS_
 obtain ⟨Ao13, co13, eo13⟩ := Kd.R_slice HO526.out
 (first | subst eo13 | (injection eo13 with f1_ f2_ f3_; have f4_ := f1_.symm; have f5_ := f3_.symm; clear f1_ f2_ f3_; subst f4_; subst f5_))
 obtain ⟨Ao14, co14, eo14⟩ := Kd.R_slice HO523.out
 (first | subst eo14 | (injection eo14 with f1_ f2_ f3_; have f4_ := f1_.symm; have f5_ := f3_.symm; clear f1_ f2_ f3_; subst f4_; subst f5_))
 refine norm_ (a' := ?_) ?_ ?_
 rotate_left
 ·
  simp only [putAll, Act.put, List.setIfInBounds_toArray, List.set_cons_zero, List.set_cons_succ]
  rfl
 refine one_ (i := 8) (N := none) #[true, true, true, true, true, true, true, true, true] rfl rfl (one_of HT_.out (by kernel_rfl)) (by decide) (fun K hK => ?_)
 have hs15 : w12.cell? ⟨gb527, 0, none⟩ = some (.slice none 0 0) := (blk_cell BK527.out 0).trans rfl
 have hfs15 := blk_frozen BK527.out 0
 have hns15_0 := NB519_527.out
 have hns15_1 := NB520_527.out
 have hms15_0 := NB527_519.out
 have hms15_1 := NB527_520.out
 have hs16 : w12.cell? ⟨gb527, 1, none⟩ = some (.slice none 0 0) := (blk_cell BK527.out 1).trans rfl
 have hfs16 := blk_frozen BK527.out 1
 have hns16_0 := NB519_527.out
 have hns16_1 := NB520_527.out
 have hms16_0 := NB527_519.out
 have hms16_1 := NB527_520.out
 have hs17 : w12.cell? ⟨gb527, 2, none⟩ = some (.slice none 0 0) := (blk_cell BK527.out 2).trans rfl
 have hfs17 := blk_frozen BK527.out 2
 have hns17_0 := NB519_527.out
 have hns17_1 := NB520_527.out
 have hms17_0 := NB527_519.out
 have hms17_1 := NB527_520.out
 refine skip_ (w1 := ?_) (by rfl) rfl ?_ ?_
 rotate_left
 ·
  go_simp
  rfl
 refine hK.out _ _ ⟨((cell_far (p := ⟨gb527, _, none⟩) NB519_527.out _).trans (((cell_far (p := ⟨gb527, _, none⟩) NB519_527.out _).trans (((cell_far (p := ⟨gb527, _, none⟩) NB519_527.out _).trans (hHeld.1)))))), ((cell_far (p := ⟨gb527, _, none⟩) NB519_527.out _).trans (((cell_far (p := ⟨gb527, _, none⟩) NB519_527.out _).trans (((cell_far (p := ⟨gb527, _, none⟩) NB519_527.out _).trans (hHeld.2.1)))))), ((cell_far (p := ⟨gb527, _, none⟩) NB519_527.out _).trans (((cell_far (p := ⟨gb527, _, none⟩) NB519_527.out _).trans (((cell_far (p := ⟨gb527, _, none⟩) NB519_527.out _).trans (hHeld.2.2))))))⟩ (fun hHeld => ?_)
 clear hK K
 refine done_ (done_of HT_.out (by kernel_rfl)) ?_
 have hnb18 := NB519_520.out
 have hnc18 := NB520_519.out
 have hnb19 := NB519_527.out
 have hnc19 := NB527_519.out
 have hcz20_0 : w12.cell? ⟨gb519, 0, none⟩ = some (.slice A0_0 l0_0.length c0_0) := (blk_cell BK519.out 0).trans rfl
 have hcz20_1 : w12.cell? ⟨gb519, 1, none⟩ = some (.slice A0_1 l0_1.length c0_1) := (blk_cell BK519.out 1).trans rfl
 have hcz20_2 : w12.cell? ⟨gb519, 2, none⟩ = some (.slice A0_2 l0_2.length c0_2) := (blk_cell BK519.out 2).trans rfl
 have hfz20_0 := blk_frozen BK519.out 0
 have hfz20_1 := blk_frozen BK519.out 1
 have hfz20_2 := blk_frozen BK519.out 2
 try go_wp2
 go_loopg [16] k (fun kq v16 w' => ∃ (x16_1 : Int) (x528002_1 : List (List Int)) (u528002 : Value), v16 = .int .i64 x16_1 ∧ Aside0 (match_other.l0 kq l0_2 (l0_2.length : Int) x16_1 t521 t524 x528002_1 = some (r1, r2, r3)) ∧ Aside0 (kq ≤ k) ∧ Aside0 (Kd.R (Kd.int .i64) 3 w' w.heap.size (fun _ => True) (.slice Ao14 t521.length co14) t521) ∧ Aside0 (Kd.R k50 50 w' w.heap.size (fun _ => True) (.slice Ao13 t524.length co13) t524) ∧ Aside0 (Kd.S (Kd.slice 3 (Kd.int .i64)) 22 w' w.heap.size (fun k_ => some k_ ≠ ((.slice Ao14 t521.length co14) : Value).ownBlock) u528002 x528002_1) ∧ Aside0 (w'.heap[gb519]? = some (.cells #[(.slice A0_0 l0_0.length c0_0), (.slice A0_1 l0_1.length c0_1), (.slice A0_2 l0_2.length c0_2)] 26 (0, 0))) ∧ Aside0 (w'.heap[gb520]? = some (.cells #[(.slice none 0 0), (.slice none 0 0), (.slice none 0 0)] 26 (0, 0))) ∧ Aside0 (w'.heap[gb527]? = some (.cells #[(.slice Ao14 t521.length co14), (.slice Ao13 t524.length co13), u528002] 26 (0, 0))) ∧ Aside0 (Below w.heap.size w w'))
 case atStart => exact ⟨(0), (([] : List (List Int))), (.slice none 0 0), (by first | rfl | (simp; done) | (simp [*]; done)), H', ⟨Nat.le_refl _⟩, ⟨by (with_reducible repeat (first | apply Kd.R_alloc | apply Kd.R_drewN | apply Kd.R_drew)); exact Kd.R_mono (Kd.R_far (p := ⟨gb527, 2, none⟩) (Kd.R_far (p := ⟨gb527, 1, none⟩) (Kd.R_far (p := ⟨gb527, 0, none⟩) (Kd.R_types HO523.out BK527.out (by decide)) (fun _ hk => hk.2) (.slice Ao14 t521.length co14)) (fun _ hk => hk.2) (.slice Ao13 t524.length co13)) (fun _ hk => hk.2) (.slice none 0 0)) (fun _ hk => trivial)⟩, ⟨by (with_reducible repeat (first | apply Kd.R_alloc | apply Kd.R_drewN | apply Kd.R_drew)); exact Kd.R_mono (Kd.R_far (p := ⟨gb527, 2, none⟩) (Kd.R_far (p := ⟨gb527, 1, none⟩) (Kd.R_far (p := ⟨gb527, 0, none⟩) (Kd.R_types HO526.out BK527.out (by decide)) (fun _ hk => hk.2) (.slice Ao14 t521.length co14)) (fun _ hk => hk.2) (.slice Ao13 t524.length co13)) (fun _ hk => hk.2) (.slice none 0 0)) (fun _ hk => trivial)⟩, ⟨by first | exact Kd.S_nil _ _ _ _ _ | exact Kd.N_nil _ _ _ _ _ | exact Kd.V_nil _ _ _ _ _ | exact Kd.Q_nil _ _ _ _ _ | exact Kd.R_nil _ _ _ _ _⟩, ⟨by (with_reducible repeat (first | refine blk_drewN ?_ _ | refine blk_drew ?_ | refine blk_alloc ?_ _)); refine blk_far ?_ NB519_527.out _; (with_reducible repeat (first | refine blk_drewN ?_ _ | refine blk_drew ?_ | refine blk_alloc ?_ _)); refine blk_far ?_ NB519_527.out _; (with_reducible repeat (first | refine blk_drewN ?_ _ | refine blk_drew ?_ | refine blk_alloc ?_ _)); refine blk_far ?_ NB519_527.out _; (with_reducible repeat (first | refine blk_drewN ?_ _ | refine blk_drew ?_ | refine blk_alloc ?_ _)); exact BK519.out⟩, ⟨by (with_reducible repeat (first | refine blk_drewN ?_ _ | refine blk_drew ?_ | refine blk_alloc ?_ _)); refine blk_far ?_ NB520_527.out _; (with_reducible repeat (first | refine blk_drewN ?_ _ | refine blk_drew ?_ | refine blk_alloc ?_ _)); refine blk_far ?_ NB520_527.out _; (with_reducible repeat (first | refine blk_drewN ?_ _ | refine blk_drew ?_ | refine blk_alloc ?_ _)); refine blk_far ?_ NB520_527.out _; (with_reducible repeat (first | refine blk_drewN ?_ _ | refine blk_drew ?_ | refine blk_alloc ?_ _)); exact BK520.out⟩, ⟨by (with_reducible repeat (first | refine blk_drewN ?_ _ | refine blk_drew ?_ | refine blk_alloc ?_ _)); refine blk_put (cs := #[.slice Ao14 t521.length co14, .slice Ao13 t524.length co13, .slice none 0 0]) ?_ 2 _ rfl; (with_reducible repeat (first | refine blk_drewN ?_ _ | refine blk_drew ?_ | refine blk_alloc ?_ _)); refine blk_put (cs := #[.slice Ao14 t521.length co14, .slice none 0 0, .slice none 0 0]) ?_ 1 _ rfl; (with_reducible repeat (first | refine blk_drewN ?_ _ | refine blk_drew ?_ | refine blk_alloc ?_ _)); refine blk_put (cs := #[.slice none 0 0, .slice none 0 0, .slice none 0 0]) ?_ 0 _ rfl; (with_reducible repeat (first | refine blk_drewN ?_ _ | refine blk_drew ?_ | refine blk_alloc ?_ _)); exact BK527.out⟩, ⟨by repeat (first | (with_reducible first | exact HB.out | apply below_alloc | apply pw_below_drewN | apply below_drew1 | refine below_set ?_ GE519.out | refine below_set ?_ GE520.out | refine below_set ?_ GE527.out) | exact HB.out)⟩⟩
 clear H'
 try clear c1
 try clear p2
 try clear c7
 try clear c8
 try clear c9
 try clear c18
 try clear c19
 try clear hcz20_0
 try clear hcz20_1
 try clear hcz20_2
 try clear hfz20_0
 try clear hfz20_1
 try clear hfz20_2
 obtain ⟨x16_1, x528002_1, u528002, rfl, HA, HK1, HO_528000, HO_528001, HO_528002, BK519, BK520, BK527, HB⟩ := hrel
 cases gk with
 | zero => exact absurd HA.out (by simp [match_other.l0])
 | succ k1 =>
  have H := HA.out
  clear HA
  simp only [match_other.l0] at H
  by_cases c21 : x16_1 < (l0_2.length : Int)
  rotate_left
  ·
   rw [if_neg c21] at H
   have c21b0 : decide (x16_1 < (l0_2.length : Int)) = false := decide_eq_false c21
   clear c21
   simp only [Option.some.injEq, Prod.mk.injEq] at H
   obtain ⟨rfl, rfl, rfl⟩ := H
   have hnb32 := NB527_519.out
   have hnc32 := NB519_527.out
   have hnb33 := NB527_520.out
   have hnc33 := NB520_527.out
   have hcz34_0 : wr.cell? ⟨gb527, 0, none⟩ = some (.slice Ao14 t521.length co14) := (blk_cell BK527.out 0).trans rfl
   have hcz34_1 : wr.cell? ⟨gb527, 1, none⟩ = some (.slice Ao13 t524.length co13) := (blk_cell BK527.out 1).trans rfl
   have hcz34_2 : wr.cell? ⟨gb527, 2, none⟩ = some (u528002) := (blk_cell BK527.out 2).trans rfl
   have hfz34_0 := blk_frozen BK527.out 0
   have hfz34_1 := blk_frozen BK527.out 1
   have hfz34_2 := blk_frozen BK527.out 2
   have hnb35 := NB520_519.out
   have hnc35 := NB519_520.out
   have hcz36_0 : wr.cell? ⟨gb520, 0, none⟩ = some (.slice none 0 0) := (blk_cell BK520.out 0).trans rfl
   have hcz36_1 : wr.cell? ⟨gb520, 1, none⟩ = some (.slice none 0 0) := (blk_cell BK520.out 1).trans rfl
   have hcz36_2 : wr.cell? ⟨gb520, 2, none⟩ = some (.slice none 0 0) := (blk_cell BK520.out 2).trans rfl
   have hfz36_0 := blk_frozen BK520.out 0
   have hfz36_1 := blk_frozen BK520.out 1
   have hfz36_2 := blk_frozen BK520.out 2
   obtain ⟨Ao37, co37, eo37⟩ := Kd.S_slice HO_528002.out
   subst eo37
   go_wp2
   refine bodyPost_ret (results_cell_row rfl _ _ gb520 26 #[.slice Ao14 t521.length co14, .slice Ao13 t524.length co13, .slice Ao37 x528002_1.length co37] (0, 0) _ rfl (by (with_reducible repeat (first | refine blk_drewN ?_ _ | refine blk_drew ?_ | refine blk_alloc ?_ _)); refine blk_put (cs := #[.slice Ao14 t521.length co14, .slice Ao13 t524.length co13, .slice none 0 0]) ?_ 2 _ rfl; (with_reducible repeat (first | refine blk_drewN ?_ _ | refine blk_drew ?_ | refine blk_alloc ?_ _)); refine blk_put (cs := #[.slice Ao14 t521.length co14, .slice none 0 0, .slice none 0 0]) ?_ 1 _ rfl; (with_reducible repeat (first | refine blk_drewN ?_ _ | refine blk_drew ?_ | refine blk_alloc ?_ _)); refine blk_put (cs := #[.slice none 0 0, .slice none 0 0, .slice none 0 0]) ?_ 0 _ rfl; (with_reducible repeat (first | refine blk_drewN ?_ _ | refine blk_drew ?_ | refine blk_alloc ?_ _)); exact BK520.out) Try.underlying26 rfl (by kernel_rfl)) rfl ?_
   exact ⟨_, _, _, by first | rfl | (simp [errW_none, errW_some] <;> rfl) | (simp [*, errW_none, errW_some] <;> rfl), by (with_reducible repeat (first | apply Kd.R_alloc | apply Kd.R_drewN | apply Kd.R_drew)); exact Kd.R_mono (Kd.R_far (p := ⟨gb520, 2, none⟩) (Kd.R_far (p := ⟨gb520, 1, none⟩) (Kd.R_far (p := ⟨gb520, 0, none⟩) (Kd.R_types HO_528000.out BK520.out (by decide)) (fun _ hk => hk.2) (.slice Ao14 t521.length co14)) (fun _ hk => hk.2) (.slice Ao13 t524.length co13)) (fun _ hk => hk.2) (.slice Ao37 x528002_1.length co37)) (fun _ hk => trivial), by (with_reducible repeat (first | apply Kd.R_alloc | apply Kd.R_drewN | apply Kd.R_drew)); exact Kd.R_mono (Kd.R_far (p := ⟨gb520, 2, none⟩) (Kd.R_far (p := ⟨gb520, 1, none⟩) (Kd.R_far (p := ⟨gb520, 0, none⟩) (Kd.R_types HO_528001.out BK520.out (by decide)) (fun _ hk => hk.2) (.slice Ao14 t521.length co14)) (fun _ hk => hk.2) (.slice Ao13 t524.length co13)) (fun _ hk => hk.2) (.slice Ao37 x528002_1.length co37)) (fun _ hk => trivial), by (with_reducible repeat (first | apply Kd.S_alloc | apply Kd.S_drewN | apply Kd.S_drew)); exact Kd.S_mono (Kd.S_far (p := ⟨gb520, 2, none⟩) (Kd.S_far (p := ⟨gb520, 1, none⟩) (Kd.S_far (p := ⟨gb520, 0, none⟩) (Kd.S_types HO_528002.out BK520.out (by decide)) (fun _ hk => hk.2) (.slice Ao14 t521.length co14)) (fun _ hk => hk.2) (.slice Ao13 t524.length co13)) (fun _ hk => hk.2) (.slice Ao37 x528002_1.length co37)) (fun _ hk => hk.1), by repeat (first | (with_reducible first | exact HB.out | apply below_alloc | apply pw_below_drewN | apply below_drew1 | refine below_set ?_ GE519.out | refine below_set ?_ GE520.out | refine below_set ?_ GE527.out) | exact HB.out)⟩
  rw [if_pos c21] at H
  have c21b0 : decide (x16_1 < (l0_2.length : Int)) = true := decide_eq_true c21
  clear c21
  by_cases c22 : 0 ≤ x16_1
  rotate_left
  ·
   rw [if_neg c22] at H
   exact absurd H (by simp)
  rw [if_pos c22] at H
  have c22b0 : decide (0 ≤ x16_1) = true := decide_eq_true c22
  clear c22
  by_cases c23 : x16_1 < (l0_2.length : Int)
  rotate_left
  ·
   rw [if_neg c23] at H
   exact absurd H (by simp)
  rw [if_pos c23] at H
  have c23b0 : decide (x16_1 < (l0_2.length : Int)) = true := decide_eq_true c23
  clear c23
  replace H := Option.bind_eq_some_iff.mp H
  obtain ⟨t529, A240, H⟩ := H
  replace H : (if x528002_1.length < 5864062014805 then (match_other.l0 k1 l0_2 (l0_2.length : Int) (wrap64 (x16_1 + 1)) t521 t524 (x528002_1 ++ [t529])) else (none)) = some (r1, r2, r3) := H
  have A24 := Aside0.mk A240
  clear A240
  by_cases c25 : x528002_1.length < 5864062014805
  rotate_left
  ·
   rw [if_neg c25] at H
   exact absurd H (by simp)
  rw [if_pos c25] at H
  have LMc25 := Aside0.mk c25
  clear c25
  obtain ⟨y532, hy532⟩ : ∃ y_ : List (List Int), y_ = (x528002_1 ++ [t529]) := ⟨_, rfl⟩
  replace H : (match_other.l0 k1 l0_2 (l0_2.length : Int) (wrap64 (x16_1 + 1)) t521 t524 y532) = some (r1, r2, r3) := by first | (rw [hy532]; with_reducible exact H) | (have H2_ := (Option.bind_some _ _).symm.trans H; rw [hy532]; with_reducible exact H2_) | (have H2_ := (Option.bind_some _ _).symm.trans H; with_reducible exact H2_) | with_reducible exact H | (rw [hy532]; exact H) | exact H
  have Ny532 := Aside0.mk hy532
  clear hy532
  have H' := Aside0.mk H
  clear H
  have p528 : 0 ≤ (x16_1 : Int) := of_decide_eq_true (by first | (with_reducible assumption) | assumption)
  have q528 : x16_1 < (l0_2.length : Int) := of_decide_eq_true (by first | (with_reducible assumption) | assumption)
  obtain ⟨ad528, A528_0, c528_0, e528, hx528_0, hl528_0, hi528_0⟩ := at_L1 HR0_2.out x16_1 p528 q528
  cases e528
  replace hx528_0 := (HB.out.cell (World.block_lt_of_cell? w _ hx528_0)).trans hx528_0
  have HR528_0 := Aside0.mk hi528_0
  have HC528_0 := Aside0.mk hl528_0
  clear hi528_0 hl528_0
  replace p528 := eq_true p528
  replace q528 := eq_true q528
  try go_wp2
  have n0_ := Aside0.mk (Kd.R_drew HO_528000.out)
  have n1_ := Aside0.mk (Kd.R_drew HO_528001.out)
  have n2_ := Aside0.mk (Kd.S_drew HO_528002.out)
  have n3_ := Aside0.mk (blk_drew BK519.out)
  have n4_ := Aside0.mk (blk_drew BK520.out)
  have n5_ := Aside0.mk (blk_drew BK527.out)
  have n6_ := Aside0.mk (below_drew1 HB.out)
  clear HO_528000
  clear HO_528001
  clear HO_528002
  clear BK519
  clear BK520
  clear BK527
  clear HB
  have HO_528000 := n0_
  have HO_528001 := n1_
  have HO_528002 := n2_
  have BK519 := n3_
  have BK520 := n4_
  have BK527 := n5_
  have HB := n6_
  clear n0_ n1_ n2_ n3_ n4_ n5_ n6_
  refine start_ (n := 8) (S := fun w' => w'.cell? ⟨gb527, 0, none⟩ = some (.slice Ao14 t521.length co14) ∧ w'.cell? ⟨gb527, 1, none⟩ = some (.slice Ao13 t524.length co13) ∧ w'.cell? ⟨gb527, 2, none⟩ = some (u528002)) (ds := [7]) #[false, false, false, false, false, false, false, false] (by kernel_rfl) rfl rfl ⟨(blk_cell BK527.out 0).trans rfl, (blk_cell BK527.out 1).trans rfl, (blk_cell BK527.out 2).trans rfl⟩ (fun hHeld => ?_); refine with_tabW match_other.tab5 match_other.bits5 (fun HT_ HW_ => ?_)
  generalize wr.drew = w26 at HO_528000 HO_528001 HO_528002 BK519 BK520 BK527 HB hHeld ⊢
  refine pure_ (i := 0) (N := some 20) (v := ?_) (a' := ?_) #[true, false, false, false, false, false, false, false] rfl rfl (any_of HT_.out (by kernel_rfl)) (fun _ _ _ h => h) (Or.inl ⟨by rfl, ?_⟩) ?_ ?_
  rotate_left
  ·
   intro w'
   go_simp
   with_reducible rfl
  rotate_left
  ·
   simp only [Act.put, List.setIfInBounds_toArray, List.set_cons_zero, List.set_cons_succ, i64_w, i32_w]
   rfl
  refine pure_ (i := 2) (N := some 22) (v := ?_) (a' := ?_) #[true, false, true, false, false, false, false, false] rfl rfl (any_of HT_.out (by kernel_rfl)) (fun _ _ _ h => h) (Or.inl ⟨by rfl, ?_⟩) ?_ ?_
  rotate_left
  ·
   intro w'
   go_simp
   with_reducible rfl
  rotate_left
  ·
   simp only [Act.put, List.setIfInBounds_toArray, List.set_cons_zero, List.set_cons_succ, i64_w, i32_w]
   rfl
  refine take_ (i := 1) (N := some 21) (v := ?_) (a' := ?_) #[true, true, true, false, false, false, false, false] rfl rfl (take_ofW HT_.out HW_.out (by kernel_rfl)) (fun _ _ _ h => h) (Or.inl ⟨by rfl, ?_⟩) hHeld ?_ ?_
  rotate_left
  ·
   rintro w' ⟨s0, s1, s2⟩
   go_simp
   with_reducible rfl
  rotate_left
  ·
   simp only [Act.put, List.setIfInBounds_toArray, List.set_cons_zero, List.set_cons_succ, i64_w, i32_w]
   rfl
  refine one_ (i := 3) (N := some 23) #[true, true, true, true, false, false, false, false] rfl rfl (one_of HT_.out (by kernel_rfl)) (by decide) (fun K hK => ?_)
  refine goes_ Try.func88 (by kernel_rfl) rfl #[.slice A528_0 (rd_L1 l0_2 x16_1).length c528_0] (by rfl) rfl rfl (by (try simp only [List.map_toArray, List.map_cons, List.map_nil]); first | done | rfl | (simp only [List.length_drop, List.length_take]; rfl)) ?_
  with_reducible refine (match_copied_int_88.calls _ _ (rd_L1 l0_2 x16_1) t529 _ ?side1 ?side2 A24.out).mono ?_
  (case side1 => repeat (first | exact (Kd.C_below HR528_0.out HB.out) | (with_reducible refine Kd.C_alloc ?_ _) | (with_reducible refine Kd.C_drewN ?_ _) | (with_reducible refine Kd.C_drew ?_)))
  (case side2 => exact HC528_0.out)
  rintro e w27 ⟨v530, rfl, ho0, hb⟩
  refine ⟨_, rfl, ?_⟩
  have n0_ := Aside0.mk (Kd.R_elder' (by (with_reducible repeat (first | apply Kd.R_alloc | apply Kd.R_drewN | apply Kd.R_drew)); exact HO_528000.out) (Kd.R_base ho0) hb)
  have n1_ := Aside0.mk (Kd.R_below (by (with_reducible repeat (first | apply Kd.R_alloc | apply Kd.R_drewN | apply Kd.R_drew)); exact HO_528001.out) hb)
  have n2_ := Aside0.mk (Kd.S_elder' (by (with_reducible repeat (first | apply Kd.S_alloc | apply Kd.S_drewN | apply Kd.S_drew)); exact HO_528002.out) (Kd.R_base ho0) hb)
  have n3_ := Aside0.mk (Kd.R_lower (Kd.R_new' ho0 (Kd.R_lt (by (with_reducible repeat (first | apply Kd.R_alloc | apply Kd.R_drewN | apply Kd.R_drew)); exact HO_528000.out))) (below_size (by repeat (first | (with_reducible first | exact HB.out | apply below_alloc | apply pw_below_drewN | apply below_drew1 | refine below_set ?_ GE519.out | refine below_set ?_ GE520.out | refine below_set ?_ GE527.out) | exact HB.out))))
  have n4_ := Aside0.mk (blk_below (g := gb519) (o := .cells #[.slice A0_0 l0_0.length c0_0, .slice A0_1 l0_1.length c0_1, .slice (some ad528) l0_2.length c0_2] 26 (0, 0)) (by (with_reducible repeat (first | refine blk_drewN ?_ _ | refine blk_drew ?_ | refine blk_alloc ?_ _)); exact BK519.out) hb)
  have n5_ := Aside0.mk (blk_below (g := gb520) (o := .cells #[.slice none 0 0, .slice none 0 0, .slice none 0 0] 26 (0, 0)) (by (with_reducible repeat (first | refine blk_drewN ?_ _ | refine blk_drew ?_ | refine blk_alloc ?_ _)); exact BK520.out) hb)
  have n6_ := Aside0.mk (blk_below (g := gb527) (o := .cells #[.slice Ao14 t521.length co14, .slice Ao13 t524.length co13, u528002] 26 (0, 0)) (by (with_reducible repeat (first | refine blk_drewN ?_ _ | refine blk_drew ?_ | refine blk_alloc ?_ _)); exact BK527.out) hb)
  have n7_ := Aside0.mk (below_step (by repeat (first | (with_reducible first | exact HB.out | apply below_alloc | apply pw_below_drewN | apply below_drew1 | refine below_set ?_ GE519.out | refine below_set ?_ GE520.out | refine below_set ?_ GE527.out) | exact HB.out)) hb)
  clear HO_528000
  clear HO_528001
  clear HO_528002
  clear BK519
  clear BK520
  clear BK527
  clear HB
  have HO_528000 := n0_
  have HO_528001 := n1_
  have HO_528002 := n2_
  have HO531 := n3_
  have BK519 := n4_
  have BK520 := n5_
  have BK527 := n6_
  have HB := n7_
  clear n0_ n1_ n2_ n3_ n4_ n5_ n6_ n7_
  (try clear hb)
  (try clear hb2)
  (try clear hk)
  (try clear hi)
  (try clear ho0)
  obtain ⟨Ao29, co29, eo29⟩ := Kd.R_slice HO531.out
  (first | subst eo29 | (injection eo29 with f1_ f2_ f3_; have f4_ := f1_.symm; have f5_ := f3_.symm; clear f1_ f2_ f3_; subst f4_; subst f5_))
  refine hK.out _ _ ⟨(blk_cell BK527.out 0).trans rfl, (blk_cell BK527.out 1).trans rfl, (blk_cell BK527.out 2).trans rfl⟩ (fun hHeld => ?_)
  clear hK K
  refine norm_ (a' := ?_) ?_ ?_
  rotate_left
  ·
   show Act.put _ (some 23) _ = _
   simp only [Act.put, List.setIfInBounds_toArray, List.set_cons_zero, List.set_cons_succ, i64_w, i32_w]
   rfl
  refine one_ (i := 4) (N := some 24) #[true, true, true, true, true, false, false, false] rfl rfl (one_of HT_.out (by kernel_rfl)) (by decide) (fun K hK => ?_)
  refine value_ (w1 := ?_) (v := ?_) (by rfl) rfl ?_ ?_
  rotate_left 2
  ·
   go_simp
   constructor
   ·
    rfl
   rfl
  refine hK.out _ _ ⟨(blk_cell (blk_alloc BK527.out _) 0).trans rfl, (blk_cell (blk_alloc BK527.out _) 1).trans rfl, (blk_cell (blk_alloc BK527.out _) 2).trans rfl⟩ (fun hHeld => ?_)
  clear hK K
  refine norm_ (a' := ?_) ?_ ?_
  rotate_left
  ·
   show Act.put _ (some 24) _ = _
   simp only [Act.put, List.setIfInBounds_toArray, List.set_cons_zero, List.set_cons_succ, i64_w, i32_w]
   rfl
  refine one_ (i := 5) (N := some 25) #[true, true, true, true, true, true, false, false] rfl rfl (one_of HT_.out (by kernel_rfl)) (by decide) (fun K hK => ?_)
  refine Kd.S_append_step (Kd.slice 3 (Kd.int .i64)) (w0 := w) w.heap.size (by rfl) (.tmp 21) (.tmp 24) 24 22 (.slice none 0 0) 24 rfl Try.underlying24 info22 rfl (by decide) (by omega) u528002 x528002_1 t529 [.slice Ao29 t529.length co29] (fun k_ => some k_ ≠ (.slice Ao14 t521.length co14 : Value).ownBlock) (fun k_ => some k_ = (.slice Ao29 t529.length co29 : Value).ownBlock) rfl rfl ?aP (fun k_ hk_ => ((Kd.R_mono (ok' := fun k_ => ((fun k_ => some k_ ≠ (.slice Ao14 t521.length co14 : Value).ownBlock)) k_ ∧ some k_ ≠ (u528002 : Value).ownBlock) (Kd.R_apart' (HO531.out) (Kd.S_typed HO_528002.out) (by decide)) (fun k_ hk => ⟨hk.1.2, hk.2⟩))).1 k_ hk_.symm) ?aF ?aO ?aB ?aS ?aL ?_
  (case aP => exact Kd.M_row (Kd.R_mono (Kd.R_tight rfl (Kd.R_mono (ok' := fun k_ => ((fun k_ => some k_ ≠ (.slice Ao14 t521.length co14 : Value).ownBlock)) k_ ∧ some k_ ≠ (u528002 : Value).ownBlock) (Kd.R_apart' (HO531.out) (Kd.S_typed HO_528002.out) (by decide)) (fun k_ hk => ⟨hk.1.2, hk.2⟩))) (fun _ h_ => h_)))
  (case aB => exact (by repeat (first | (with_reducible first | exact HB.out | apply below_alloc | apply pw_below_drewN | apply below_drew1 | refine below_set ?_ GE519.out | refine below_set ?_ GE520.out | refine below_set ?_ GE527.out) | exact HB.out)))
  (case aF => exact (fun k_ hk => Kd.fresh' (Kd.R_lt (by (with_reducible repeat (first | apply Kd.R_alloc | apply Kd.R_drewN | apply Kd.R_drew)); exact HO_528000.out)) k_ hk))
  (case aO => exact (by (with_reducible repeat (first | apply Kd.S_alloc | apply Kd.S_drewN | apply Kd.S_drew)); exact Kd.S_mono HO_528002.out (fun k_ hk => ⟨hk.1, fun e_ => hk.2 e_⟩)))
  (case aS => exact (below_size (by repeat (first | (with_reducible first | exact HB.out | apply below_alloc | apply pw_below_drewN | apply below_drew1 | refine below_set ?_ GE519.out | refine below_set ?_ GE520.out | refine below_set ?_ GE527.out) | exact HB.out))))
  (case aL => have := LMc25.out; omega)
  intro v533 w28 ho hb hg hat
  rw [← Ny532.out] at ho
  have n0_ := Aside0.mk (Kd.R_over' (by (with_reducible repeat (first | apply Kd.R_alloc | apply Kd.R_drewN | apply Kd.R_drew)); exact HO_528000.out) (Kd.S_typed (by (with_reducible repeat (first | apply Kd.S_alloc | apply Kd.S_drewN | apply Kd.S_drew)); exact HO_528002.out)) (by decide) hg)
  have n1_ := Aside0.mk (Kd.R_over' (by (with_reducible repeat (first | apply Kd.R_alloc | apply Kd.R_drewN | apply Kd.R_drew)); exact HO_528001.out) (Kd.S_typed (by (with_reducible repeat (first | apply Kd.S_alloc | apply Kd.S_drewN | apply Kd.S_drew)); exact HO_528002.out)) (by decide) hg)
  have n2_ := Aside0.mk (blk_grown (g := gb519) (o := .cells #[.slice A0_0 l0_0.length c0_0, .slice A0_1 l0_1.length c0_1, .slice (some ad528) l0_2.length c0_2] 26 (0, 0)) (by (with_reducible repeat (first | refine blk_drewN ?_ _ | refine blk_drew ?_ | refine blk_alloc ?_ _)); exact BK519.out) hg (Kd.S_ne HO_528002.out BK519.out (by decide)))
  have n3_ := Aside0.mk (blk_grown (g := gb520) (o := .cells #[.slice none 0 0, .slice none 0 0, .slice none 0 0] 26 (0, 0)) (by (with_reducible repeat (first | refine blk_drewN ?_ _ | refine blk_drew ?_ | refine blk_alloc ?_ _)); exact BK520.out) hg (Kd.S_ne HO_528002.out BK520.out (by decide)))
  have n4_ := Aside0.mk (blk_grown (g := gb527) (o := .cells #[.slice Ao14 t521.length co14, .slice Ao13 t524.length co13, u528002] 26 (0, 0)) (by (with_reducible repeat (first | refine blk_drewN ?_ _ | refine blk_drew ?_ | refine blk_alloc ?_ _)); exact BK527.out) hg (Kd.S_ne HO_528002.out BK527.out (by decide)))
  have n5_ := Aside0.mk (hb)
  have n6_ := Aside0.mk (ho)
  clear HO_528000
  clear HO_528001
  clear BK519
  clear BK520
  clear BK527
  clear HB
  clear HO_528002
  clear HO531
  have HO_528000 := n0_
  have HO_528001 := n1_
  have BK519 := n2_
  have BK520 := n3_
  have BK527 := n4_
  have HB := n5_
  have HO534 := n6_
  clear n0_ n1_ n2_ n3_ n4_ n5_ n6_
  clear ho hb hg hat
  obtain ⟨Ao30, co30, eo30⟩ := Kd.S_slice HO534.out
  (first | subst eo30 | (injection eo30 with f1_ f2_ f3_; have f4_ := f1_.symm; have f5_ := f3_.symm; clear f1_ f2_ f3_; subst f4_; subst f5_))
  refine hK.out _ _ ⟨(blk_cell BK527.out 0).trans rfl, (blk_cell BK527.out 1).trans rfl, (blk_cell BK527.out 2).trans rfl⟩ (fun hHeld => ?_)
  clear hK K
  refine norm_ (a' := ?_) ?_ ?_
  rotate_left
  ·
   show Act.put _ (some 25) _ = _
   simp only [Act.put, List.setIfInBounds_toArray, List.set_cons_zero, List.set_cons_succ, i64_w, i32_w]
   rfl
  refine pure_ (i := 6) (N := some 26) (v := ?_) (a' := ?_) #[true, true, true, true, true, true, true, false] rfl rfl (any_of HT_.out (by kernel_rfl)) (fun _ _ _ h => h) (Or.inl ⟨by rfl, ?_⟩) ?_ ?_
  rotate_left
  ·
   intro w'
   go_simp
   with_reducible rfl
  rotate_left
  ·
   simp only [Act.put, List.setIfInBounds_toArray, List.set_cons_zero, List.set_cons_succ, i64_w, i32_w]
   rfl
  refine last_ (i := 7) (N := none) #[true, true, true, true, true, true, true, true] rfl rfl (one_of HT_.out (by kernel_rfl)) (by decide) (fun K hK => ?_)
  have hs31 : w28.cell? ⟨gb527, 2, none⟩ = some (u528002) := (blk_cell BK527.out 2).trans rfl
  have hfs31 := blk_frozen BK527.out 2
  have hns31_0 := NB519_527.out
  have hns31_1 := NB520_527.out
  have hms31_0 := NB527_519.out
  have hms31_1 := NB527_520.out
  refine skip_ (w1 := ?_) (by rfl) rfl ?_ ?_
  rotate_left
  ·
   go_simp
   rfl
  refine hK.out _ _ ?_
  clear hK K
  refine done_ (done_of HT_.out (by kernel_rfl)) ?_
  try go_wp2
  go_roundg k1
  case measure => have := HK1.out; omega
  case rel => exact ⟨(wrap64 (x16_1 + 1)), (y532), (.slice Ao30 y532.length co30), (by first | rfl | (simp; done) | (simp [*]; done)), H', ⟨by have := HK1.out; omega⟩, ⟨by (with_reducible repeat (first | apply Kd.R_alloc | apply Kd.R_drewN | apply Kd.R_drew)); exact Kd.R_mono (Kd.R_far (p := ⟨gb527, 2, none⟩) (Kd.R_types HO_528000.out BK527.out (by decide)) (fun _ hk => hk.2) (.slice Ao30 y532.length co30)) (fun _ hk => trivial)⟩, ⟨by (with_reducible repeat (first | apply Kd.R_alloc | apply Kd.R_drewN | apply Kd.R_drew)); exact Kd.R_mono (Kd.R_far (p := ⟨gb527, 2, none⟩) (Kd.R_types HO_528001.out BK527.out (by decide)) (fun _ hk => hk.2) (.slice Ao30 y532.length co30)) (fun _ hk => trivial)⟩, ⟨by (with_reducible repeat (first | apply Kd.S_alloc | apply Kd.S_drewN | apply Kd.S_drew)); exact Kd.S_mono (Kd.S_far (p := ⟨gb527, 2, none⟩) (Kd.S_types HO534.out BK527.out (by decide)) (fun _ hk => hk.2) (.slice Ao30 y532.length co30)) (fun _ hk => hk.1)⟩, ⟨by (with_reducible repeat (first | refine blk_drewN ?_ _ | refine blk_drew ?_ | refine blk_alloc ?_ _)); refine blk_far ?_ NB519_527.out _; (with_reducible repeat (first | refine blk_drewN ?_ _ | refine blk_drew ?_ | refine blk_alloc ?_ _)); exact BK519.out⟩, ⟨by (with_reducible repeat (first | refine blk_drewN ?_ _ | refine blk_drew ?_ | refine blk_alloc ?_ _)); refine blk_far ?_ NB520_527.out _; (with_reducible repeat (first | refine blk_drewN ?_ _ | refine blk_drew ?_ | refine blk_alloc ?_ _)); exact BK520.out⟩, ⟨by (with_reducible repeat (first | refine blk_drewN ?_ _ | refine blk_drew ?_ | refine blk_alloc ?_ _)); refine blk_put (cs := #[.slice Ao14 t521.length co14, .slice Ao13 t524.length co13, u528002]) ?_ 2 _ rfl; (with_reducible repeat (first | refine blk_drewN ?_ _ | refine blk_drew ?_ | refine blk_alloc ?_ _)); exact BK527.out⟩, ⟨by repeat (first | (with_reducible first | exact HB.out | apply below_alloc | apply pw_below_drewN | apply below_drew1 | refine below_set ?_ GE519.out | refine below_set ?_ GE520.out | refine below_set ?_ GE527.out) | exact HB.out)⟩⟩
end Go.Proofs.Ytkmmihadcbfkoaa.PM
end

section
namespace Go.Proofs.Ytkmmihadcbfkoaa
open Go.RowKit Go.Proofs.YtkmmihadcbfkoaaW.PrintWords PM
set_option linter.unusedVariables false
set_option linter.unusedSimpArgs false
theorem cop88 (l : List Int) (h : l.length ≤ 1000000) : match_copied_int_88.f l = some l := by
 unfold match_copied_int_88.f
 rw [Option.bind_some, if_pos (by simp; omega)]
 rfl
theorem copS (l : List S50) (h : l.length ≤ 1000000) : api_Slot.f l = some l := by
 unfold api_Slot.f
 rw [Option.bind_some, if_pos (by simp; omega)]
 rfl
variable {F : List Int} {S : List S50} {T : List (List Int)}
theorem other_ev (T : List (List Int)) (hT : T.length ≤ 1000000) (hr : ∀ l, l ∈ T → l.length ≤ 1000000) (a : List Int) (b : List S50) (m : Nat) : ∀ (i : Nat) (acc : List (List Int)), T.length - i = m → i ≤ T.length → acc.length = i →
  Ev (fun k => match_other.l0 k T (T.length : Int) (i : Int) a b acc) (a, b, acc ++ T.drop i) := by
 induction m with
 | zero =>
  intro i acc hm hi ha
  refine Ev.into (fun k => by rw [match_other.l0]) (Ev.neg (by omega) ?_)
  rw [List.drop_eq_nil_of_le (by omega), List.append_nil]
  exact Ev.const _
 | succ m ih =>
  intro i acc hm hi ha
  have hlt : i < T.length := by omega
  have hw := wrap_pm (i := (i : Int)) (by omega) (by omega)
  have hrd : rd_L1 T (i : Int) = T[i] := by simp [rd_L1, List.getD_eq_getElem?_getD, List.getElem?_eq_getElem hlt]
  refine Ev.into (fun k => by rw [match_other.l0]) (Ev.pos (by omega) (Ev.pos (by omega) (Ev.pos (by omega) ?_)))
  rw [hrd, cop88 _ (hr _ (List.getElem_mem hlt)), hw.1, show (i : Int) + 1 = ((i + 1 : Nat) : Int) by omega]
  simp only [Option.bind_some]
  refine Ev.pos (by omega) ?_
  have := ih (i + 1) (acc ++ [T[i]]) (by omega) (by omega) (by simp; omega)
  rw [List.append_assoc, List.singleton_append, List.getElem_cons_drop] at this
  exact this
theorem other_is (hF : F.length ≤ 1000000) (hS : S.length ≤ 1000000) (hT : T.length ≤ 1000000) (hr : ∀ l, l ∈ T → l.length ≤ 1000000) : Ev (fun k => match_other.f k F S T) (F, S, T) := by
 unfold match_other.f
 rw [cop88 F hF, copS S hS]
 have := other_ev T hT hr F S T.length 0 [] (by omega) (by omega) rfl
 simpa using this
theorem cop_ev (T : List (List Int)) (hT : T.length ≤ 1000000) (hr : ∀ l, l ∈ T → l.length ≤ 1000000) (F : List Int) (S : List S50) (a : List Int) (b : List S50) (m : Nat) : ∀ (i : Nat) (acc : List (List Int)), T.length - i = m → i ≤ T.length → acc.length = i →
  Ev (fun k => laganref04_Copied.l0 k (i : Int) F S T a b acc) (a, b, acc ++ T.drop i) := by
 induction m with
 | zero =>
  intro i acc hm hi ha
  refine Ev.into (fun k => by rw [laganref04_Copied.l0]) (Ev.neg (by omega) ?_)
  rw [List.drop_eq_nil_of_le (by omega), List.append_nil]
  exact Ev.const _
 | succ m ih =>
  intro i acc hm hi ha
  have hlt : i < T.length := by omega
  have hw := wrap_pm (i := (i : Int)) (by omega) (by omega)
  have hrd : rd_L1 T (i : Int) = T[i] := by simp [rd_L1, List.getD_eq_getElem?_getD, List.getElem?_eq_getElem hlt]
  have hl := hr _ (List.getElem_mem hlt)
  refine Ev.into (fun k => by rw [laganref04_Copied.l0]) (Ev.pos (by omega) ?_)
  rw [hrd, hw.1, show (i : Int) + 1 = ((i + 1 : Nat) : Int) by omega]
  simp only [Option.bind_some]
  refine Ev.pos (by omega) (Ev.pos (by simp; omega) (Ev.pos (by omega) ?_))
  have := ih (i + 1) (acc ++ [T[i]]) (by omega) (by omega) (by simp; omega)
  rw [List.append_assoc, List.singleton_append, List.getElem_cons_drop] at this
  simpa using this
theorem cop_is (hF : F.length ≤ 1000000) (hS : S.length ≤ 1000000) (hT : T.length ≤ 1000000) (hr : ∀ l, l ∈ T → l.length ≤ 1000000) : Ev (fun k => laganref04_Copied.f k F S T) (F, S, T) := by
 unfold laganref04_Copied.f
 have := cop_ev T hT hr F S F S T.length 0 [] (by omega) (by omega) rfl
 simp only [Option.bind_some]
 refine Ev.pos (by simp; omega) (Ev.pos (by simp; omega) ?_)
 simpa using this
/-- The board without a find. -/
def withoutP (F : List Int) (S : List S50) (T : List (List Int)) (find : Int) : List Int × List S50 × List (List Int) × Int :=
 if askB F S T find 0 false true = 0 then (F.eraseIdx find.toNat, S, T.eraseIdx find.toNat, 0) else ([], [], [], askB F S T find 0 false true)
/-- The board in which a find fits other slots. -/
def fittedP (F : List Int) (S : List S50) (T : List (List Int)) (find slot : Int) (g : List Int → List Int) : List Int × List S50 × List (List Int) × Int :=
 if askB F S T find slot false false = 0 then
  if slot ∈ T.getD find.toNat [] then (F, S, T.set find.toNat (g (T.getD find.toNat [])), 0) else ([], [], [], 5)
 else ([], [], [], askB F S T find slot false false)
def barredP (F : List Int) (S : List S50) (T : List (List Int)) (find slot : Int) := fittedP F S T find slot (fun l => l.filter (fun s => decide (s ≠ slot)))
def fixedP (F : List Int) (S : List S50) (T : List (List Int)) (find slot : Int) := fittedP F S T find slot (fun _ => [slot])
theorem rows_le (hk : BOK F S T) : ∀ l, l ∈ T → l.length ≤ 1000 := by
 intro l hl
 obtain ⟨j, hj, he⟩ := List.getElem_of_mem hl
 have := hk.row j hj
 rwa [List.getD_eq_getElem?_getD, List.getElem?_eq_getElem hj, Option.getD_some, he] at this
theorem cop_bok (hk : BOK F S T) : Ev (fun k => laganref04_Copied.f k F S T) (F, S, T) := by
 have h1 := hk.nf
 have h2 := hk.ns
 have h3 := hk.nt
 exact cop_is (by omega) (by omega) (by omega) (fun l hl => Nat.le_trans (rows_le hk l hl) (by decide))
theorem barred_ev (F : List Int) (S : List S50) (T : List (List Int)) (find slot : Int) (h0 : 0 ≤ find) (h1 : find < (T.length : Int)) (row : List Int) (hrow : rd_L1 T find = row) (hl : row.length ≤ 1000000) (m : Nat) : ∀ (i : Nat) (acc : List Int), row.length - i = m → i ≤ row.length → acc.length ≤ i →
  Ev (fun k => laganref04_Barred.l0 k find slot acc (i : Int) F S T F S T) (F, S, T.set find.toNat (acc ++ (row.drop i).filter (fun s => decide (s ≠ slot))), 0) := by
 induction m with
 | zero =>
  intro i acc hm hi ha
  refine Ev.into (fun k => by rw [laganref04_Barred.l0]) (Ev.pos h0 (Ev.pos h1 ?_))
  rw [hrow]
  refine Ev.neg (by omega) (Ev.pos h1 ?_)
  rw [List.drop_eq_nil_of_le (by omega), List.filter_nil, List.append_nil]
  exact Ev.const _
 | succ m ih =>
  intro i acc hm hi ha
  have hlt : i < row.length := by omega
  have hw := wrap_pm (i := (i : Int)) (by omega) (by omega)
  have hrd : rd row (i : Int) = row[i] := by simp [rd, List.getD_eq_getElem?_getD, List.getElem?_eq_getElem hlt]
  refine Ev.into (fun k => by rw [laganref04_Barred.l0]) (Ev.pos h0 (Ev.pos h1 ?_))
  rw [hrow]
  refine Ev.pos (by omega) (Ev.pos (by omega) ?_)
  rw [hrd, hw.1, show (i : Int) + 1 = ((i + 1 : Nat) : Int) by omega, ← List.getElem_cons_drop hlt]
  by_cases he : row[i] = slot
  ·
   refine Ev.pos he ?_
   have := ih (i + 1) acc (by omega) (by omega) (by omega)
   rw [List.filter_cons_of_neg (by simpa using he)]
   exact this
  refine Ev.neg he (Ev.pos (by omega) ?_)
  have := ih (i + 1) (acc ++ [row[i]]) (by omega) (by omega) (by simp; omega)
  rw [List.filter_cons_of_pos (by simpa using he)]
  rw [List.append_assoc, List.singleton_append] at this
  exact this
theorem fixed_is (hF : F.length ≤ 9223372036854775807) (hS : S.length ≤ 9223372036854775807) (hT : T.length ≤ 9223372036854775807) (hr : ∀ l, l ∈ T → l.length ≤ 9223372036854775807) (find slot : Int) :
  Ev (fun k => laganref04_Fixed.f k F S T find slot) (fixedP F S T find slot) := by
 have ht := there_is hF hS hT hr find slot
 unfold fixedP fittedP
 refine Ev.bind ht ?_
 by_cases h0 : askB F S T find slot false false = 0
 rotate_left
 ·
  rw [if_neg h0]
  exact Ev.neg h0 (Ev.const _)
 rw [if_pos h0]
 obtain ⟨hc, h1, h2⟩ := ask_parts h0
 have h1 := h1 rfl
 have hk := bok_of_check hc
 have hnt := hk.nt
 have hns := hk.ns
 have hnf := hk.nf
 refine Ev.pos h0 (Ev.pos h1.1 (Ev.pos (by omega) ?_))
 have hrd : rd_L1 T find = T.getD find.toNat [] := rfl
 rw [hrd]
 have hrow : (T.getD find.toNat []).length ≤ 9223372036854775807 := by
  rw [List.getD_eq_getElem?_getD, List.getElem?_eq_getElem (by omega)]
  exact hr _ (List.getElem_mem _)
 refine Ev.bind (has_is _ slot hrow) ?_
 by_cases hm : slot ∈ T.getD find.toNat []
 rotate_left
 ·
  rw [if_neg hm]
  exact Ev.neg (by rw [decide_eq_false hm]; simp) (Ev.const _)
 rw [if_pos hm]
 exact Ev.pos (decide_eq_true hm) (Ev.bind (cop_bok hk) (Ev.pos (by show find < (T.length : Int); omega) (Ev.const _)))
theorem barred_is (hF : F.length ≤ 9223372036854775807) (hS : S.length ≤ 9223372036854775807) (hT : T.length ≤ 9223372036854775807) (hr : ∀ l, l ∈ T → l.length ≤ 9223372036854775807) (find slot : Int) :
  Ev (fun k => laganref04_Barred.f k F S T find slot) (barredP F S T find slot) := by
 have ht := there_is hF hS hT hr find slot
 unfold barredP fittedP
 refine Ev.bind ht ?_
 by_cases h0 : askB F S T find slot false false = 0
 rotate_left
 ·
  rw [if_neg h0]
  exact Ev.neg h0 (Ev.const _)
 rw [if_pos h0]
 obtain ⟨hc, h1, h2⟩ := ask_parts h0
 have h1 := h1 rfl
 have hk := bok_of_check hc
 have hnt := hk.nt
 have hns := hk.ns
 have hnf := hk.nf
 refine Ev.pos h0 (Ev.pos h1.1 (Ev.pos (by omega) ?_))
 have hrd : rd_L1 T find = T.getD find.toNat [] := rfl
 rw [hrd]
 have hrow : (T.getD find.toNat []).length ≤ 9223372036854775807 := by
  rw [List.getD_eq_getElem?_getD, List.getElem?_eq_getElem (by omega)]
  exact hr _ (List.getElem_mem _)
 refine Ev.bind (has_is _ slot hrow) ?_
 by_cases hm : slot ∈ T.getD find.toNat []
 rotate_left
 ·
  rw [if_neg hm]
  exact Ev.neg (by rw [decide_eq_false hm]; simp) (Ev.const _)
 rw [if_pos hm]
 refine Ev.pos (decide_eq_true hm) (Ev.bind (cop_bok hk) ?_)
 have hb := barred_ev F S T find slot h1.1 (by omega) _ hrd (by have := rows_le hk; rw [List.getD_eq_getElem?_getD, List.getElem?_eq_getElem (by omega)]; exact Nat.le_trans (this _ (List.getElem_mem _)) (by decide)) _ 0 [] rfl (Nat.zero_le _) (Nat.le_refl _)
 simpa using hb
theorem ask_w {find : Int} (h0 : checkB F S T = 0) : askB F S T find 0 false true = if 0 ≤ find ∧ find < (F.length : Int) then 0 else 1 := by
 have e : (!false && !inB find 0 ((F.length : Int) - 1) || !true && !inB 0 0 ((S.length : Int) - 1)) = !decide (0 ≤ find ∧ find < (F.length : Int)) := by
  unfold inB
  rw [show (decide (find ≤ (F.length : Int) - 1)) = decide (find < (F.length : Int)) from decide_eq_decide.2 ⟨fun h => by omega, fun h => by omega⟩]
  simp [Bool.decide_and]
 unfold askB
 rw [if_neg (fun h => h h0), e]
 by_cases h : 0 ≤ find ∧ find < (F.length : Int)
 ·
  rw [decide_eq_true h, if_pos h, if_neg (by simp)]
 rw [decide_eq_false h, if_neg h, if_pos (by simp)]
theorem without_is (hF : F.length ≤ 9223372036854775807) (hS : S.length ≤ 9223372036854775807) (hT : T.length ≤ 9223372036854775807) (hr : ∀ l, l ∈ T → l.length ≤ 9223372036854775807) (find : Int) :
  Ev (fun k => laganref04_Without.f k F S T find) (withoutP F S T find) := by
 have hc := refcheck_is F S T hF hS hT hr
 unfold withoutP
 refine Ev.bind hc ?_
 by_cases h0 : checkB F S T = 0
 rotate_left
 ·
  have ha : askB F S T find 0 false true = checkB F S T := by
   unfold askB
   rw [if_pos h0]
  rw [ha, if_neg h0]
  refine Ev.neg h0 (Ev.into (fun k => by rw [laganref04_Without.j0]) ?_)
  exact Ev.neg (by simp) (Ev.neg h0 (Ev.const _))
 have hk := bok_of_check h0
 have hnt := hk.nt
 have hnf := hk.nf
 refine Ev.pos h0 ?_
 have step : ∀ y : Bool, y = true ∨ (y = false ∧ 0 ≤ find ∧ find < (F.length : Int)) → Ev (fun k => laganref04_Without.j0 k find (checkB F S T) y F S T) (if y = true then ([], [], [], 1) else (F.eraseIdx find.toNat, S, T.eraseIdx find.toNat, 0)) := by
  intro y hy
  refine Ev.into (fun k => by rw [laganref04_Without.j0]) ?_
  rcases hy with rfl | ⟨rfl, g1, g2⟩
  ·
   rw [if_pos rfl]
   exact Ev.pos rfl (Ev.neg (by decide) (Ev.const _))
  ·
   have hw := wrap_pm (i := find) (by omega) (by omega)
   rw [if_neg (by simp), hw.1]
   refine Ev.neg (by simp) (Ev.pos h0 (Ev.bind (cop_bok hk) ?_))
   exact Ev.pos g1 (Ev.pos (by show find ≤ (F.length : Int); omega) (Ev.pos (by omega) (Ev.pos (by show find + 1 ≤ (F.length : Int); omega) (Ev.pos (by show find ≤ (T.length : Int); omega) (Ev.pos (by show find + 1 ≤ (T.length : Int); omega) (Ev.const _))))))
 rw [ask_w h0]
 by_cases g1 : find < 0
 ·
  have h := step true (.inl rfl)
  rw [if_neg (show ¬ (0 ≤ find ∧ find < (F.length : Int)) by omega), if_neg (show ¬ ((1 : Int) = 0) by decide)]
  exact Ev.pos g1 h
 refine Ev.neg g1 ?_
 by_cases g2 : find ≥ (F.length : Int)
 rotate_left
 ·
  have h := step false (.inr ⟨rfl, by omega, by omega⟩)
  rw [if_pos (show 0 ≤ find ∧ find < (F.length : Int) by omega), if_pos rfl, decide_eq_false g2]
  exact h
 have h := step true (.inl rfl)
 rw [if_neg (show ¬ (0 ≤ find ∧ find < (F.length : Int)) by omega), if_neg (show ¬ ((1 : Int) = 0) by decide), decide_eq_true g2]
 exact h
end Go.Proofs.Ytkmmihadcbfkoaa
end

section
namespace Go.Proofs.Ytkmmihadcbfkoaa
open Go.RowKit Go.Proofs.YtkmmihadcbfkoaaW.PrintWords Go.Proofs.YtkmmihadcbfkoaaW.PrintLast Go.Proofs.YtkmmihadcbfkoaaW.PrintMore PM
set_option linter.unusedVariables false
set_option linter.unusedSimpArgs false
/-- What Without, Barred and Fixed return: a board of their own. -/
def OwnPost (r : List Int × List S50 × List (List Int) × Int) (w : World) (e : Ending) (w' : World) : Prop :=
 ∃ v0 v1 v2 : Value, e = .returned (.tuple #[.agg #[v0, v1, v2], .int .i64 r.2.2.2]) ∧ Kd.R (Kd.int .i64) 3 w' w.heap.size (fun _ => True) v0 r.1 ∧ Kd.R k50 50 w' w.heap.size (fun _ => True) v1 r.2.1 ∧ Kd.S (Kd.slice 3 (Kd.int .i64)) 22 w' w.heap.size (fun k_ => some k_ ≠ (v0 : Value).ownBlock) v2 r.2.2.1 ∧ Below w.heap.size w w'
theorem R_box {α : Type} {d : Kd α} {e : Nat} {w : World} {base : Nat} {ok : Nat → Prop} {v : Value} {xs : List α} (h : Kd.R d e w base ok v xs) {g t : Nat} {cells : Array Value} (hb : w.heap[g]? = some (.cells cells t (0, 0))) (ht : ∀ q, q ∈ e :: d.E → q ≠ t) (i : Nat) (u : Value) : Kd.R d e (w.setCell ⟨g, i, none⟩ u) base ok v xs :=
 Kd.R_mono (Kd.R_far (p := ⟨g, i, none⟩) (Kd.R_types h hb ht) (fun _ hk => hk.2) u) (fun _ hk => hk.1)
theorem S_box {α : Type} {d : Kd α} {e : Nat} {w : World} {base : Nat} {ok : Nat → Prop} {v : Value} {xs : List α} (h : Kd.S d e w base ok v xs) {g t : Nat} {cells : Array Value} (hb : w.heap[g]? = some (.cells cells t (0, 0))) (ht : ∀ q, q ∈ e :: d.E → q ≠ t) (i : Nat) (u : Value) : Kd.S d e (w.setCell ⟨g, i, none⟩ u) base ok v xs :=
 Kd.S_mono (Kd.S_far (p := ⟨g, i, none⟩) (Kd.S_types h hb ht) (fun _ hk => hk.2) u) (fun _ hk => hk.1)
theorem kd_block {α : Type} {d : Kd α} {e : Nat} {w : World} {base : Nat} {ok : Nat → Prop} {g n c : Nat} {xs : List α} (h : Kd.R d e w base ok (.slice (some ⟨g, 0, none⟩) n c) xs) (hp : 0 < xs.length) : ∃ cells, w.heap[g]? = some (.cells cells e (0, 0)) := by
 obtain ⟨g', cap, he, _, _, cells, hc⟩ := Kd.R_form h hp
 injection he with h1
 injection h1 with h1
 injection h1 with h1
 subst h1
 exact ⟨cells, hc⟩
theorem ks_block {α : Type} {d : Kd α} {e : Nat} {w : World} {base : Nat} {ok : Nat → Prop} {g n c : Nat} {xs : List α} (h : Kd.S d e w base ok (.slice (some ⟨g, 0, none⟩) n c) xs) (hp : 0 < xs.length) : ∃ cells, w.heap[g]? = some (.cells cells e (0, 0)) := by
 obtain ⟨g', cap, he, _, _, cells, hc⟩ := Kd.S_form h hp
 injection he with h1
 injection h1 with h1
 injection h1 with h1
 subst h1
 exact ⟨cells, hc⟩
/-- A box of three slices written anew. -/
theorem own_put3 {w : World} {g : Nat} {a b c : Value} (h : w.heap[g]? = some (.cells #[a, b, c] 26 (0, 0))) (u0 u1 u2 : Value) :
  (((w.setCell ⟨g, 0, none⟩ u0).setCell ⟨g, 1, none⟩ u1).setCell ⟨g, 2, none⟩ u2).heap[g]? = some (.cells #[u0, u1, u2] 26 (0, 0)) :=
 blk_put (cs := #[u0, u1, c]) (blk_put (cs := #[u0, b, c]) (blk_put (cs := #[a, b, c]) h 0 u0 rfl) 1 u1 rfl) 2 u2 rfl
theorem own_box3R {α : Type} {d : Kd α} {e : Nat} {w : World} {base : Nat} {ok : Nat → Prop} {v : Value} {xs : List α} (h : Kd.R d e w base ok v xs) {g : Nat} {a b c : Value} (hb : w.heap[g]? = some (.cells #[a, b, c] 26 (0, 0))) (ht : ∀ q, q ∈ e :: d.E → q ≠ 26) (u0 u1 u2 : Value) :
  Kd.R d e (((w.setCell ⟨g, 0, none⟩ u0).setCell ⟨g, 1, none⟩ u1).setCell ⟨g, 2, none⟩ u2) base ok v xs :=
 R_box (R_box (R_box h hb ht 0 u0) (blk_put hb 0 u0 rfl) ht 1 u1) (blk_put (blk_put hb 0 u0 rfl) 1 u1 rfl) ht 2 u2
theorem own_box3S {α : Type} {d : Kd α} {e : Nat} {w : World} {base : Nat} {ok : Nat → Prop} {v : Value} {xs : List α} (h : Kd.S d e w base ok v xs) {g : Nat} {a b c : Value} (hb : w.heap[g]? = some (.cells #[a, b, c] 26 (0, 0))) (ht : ∀ q, q ∈ e :: d.E → q ≠ 26) (u0 u1 u2 : Value) :
  Kd.S d e (((w.setCell ⟨g, 0, none⟩ u0).setCell ⟨g, 1, none⟩ u1).setCell ⟨g, 2, none⟩ u2) base ok v xs :=
 S_box (S_box (S_box h hb ht 0 u0) (blk_put hb 0 u0 rfl) ht 1 u1) (blk_put (blk_put hb 0 u0 rfl) 1 u1 rfl) ht 2 u2
theorem own_box3B {B : Nat} {a w : World} (h : Below B a w) {g : Nat} (hg : B ≤ g) (u0 u1 u2 : Value) :
  Below B a (((w.setCell ⟨g, 0, none⟩ u0).setCell ⟨g, 1, none⟩ u1).setCell ⟨g, 2, none⟩ u2) :=
 setCell_below (setCell_below (setCell_below h hg _) hg _) hg _
def without_T5 : Bool × List (List Nat × List Nat) := (true, [([], []), ([0], [0]), ([], []), ([], []), ([3], [3]), ([1, 2, 4], [1, 2, 4]), ([], []), ([6], [6]), ([], []), ([], []), ([9], [9]), ([7, 8, 10, 5], [7, 8, 10]), ([0, 1, 2, 3, 4, 5, 6, 7], []), ([12, 5, 11, 0, 1, 2, 3, 4, 5, 6, 7], [5, 12]), ([0, 1, 2, 3, 4, 5, 6, 7, 8, 9, 10, 11, 12, 13], []), ([14, 11, 13, 0, 1, 2, 3, 4, 5, 6, 7, 8, 9, 10, 11, 12, 13], [11, 14])])
def without_B5 : List Nat := [0, 1, 0, 0, 8, 31, 0, 64, 0, 0, 512, 2047, 255, 8191, 16383, 32767]
theorem without_tab5 : rtab .any (opsOf Try.f41 5) = without_T5 := by kernel_rfl
theorem without_bits5 : waitsOk without_T5.2 without_B5 = true := by kernel_rfl
set_option maxRecDepth 100000 in
set_option maxHeartbeats 8000000 in
theorem without_calls (A0 : Option Addr) (c0 : Nat) (F : List Int) (A1 : Option Addr) (c1 : Nat) (S : List S50) (A2 : Option Addr) (c2 : Nat) (T : List (List Int)) (find : Int) (w : World)
  (hr0 : Kd.C (Kd.int .i64) w A0 F.length F) (hc0 : F.length ≤ c0) (hr1 : Kd.C k50 w A1 S.length S) (hc1 : S.length ≤ c1) (hr2 : Kd.C (Kd.slice 3 (Kd.int .i64)) w A2 T.length T) (hc2 : T.length ≤ c2) :
  Calls Try.prog 41 #[.agg #[.slice A0 F.length c0, .slice A1 S.length c1, .slice A2 T.length c2], .int .i64 find] w fun e w' => OwnPost (withoutP F S T find) w e w' := by
 have hB0 := (Below.refl w.heap.size w).alloc (Nat.le_refl _) (.cells #[.slice A0 F.length c0, .slice A1 S.length c1, .slice A2 T.length c2] 26)
 have CB := asked_boxed A0 c0 F A1 c1 S A2 c2 T find 0 false true _ (Kd.C_below hr0 hB0) hc0 (Kd.C_below hr1 hB0) (Kd.C_below hr2 hB0) (.cells #[.slice none 0 0, .slice none 0 0, .slice none 0 0] 26)
 rw [show (w.alloc (.cells #[.slice A0 F.length c0, .slice A1 S.length c1, .slice A2 T.length c2] 26)).heap.size = w.heap.size + 1 from by simp] at CB
 obtain ⟨q, hq⟩ : ∃ q, askB F S T find 0 false true = q := ⟨_, rfl⟩
 have hres : withoutP F S T find = if q = 0 then (F.eraseIdx find.toNat, S, T.eraseIdx find.toNat, 0) else ([], [], [], q) := by rw [← hq]; rfl
 obtain ⟨res, he⟩ : ∃ res, withoutP F S T find = res := ⟨_, rfl⟩
 rw [he]
 rw [he] at hres
 have HRES := Go.Lib.hid hres
 rw [hq] at CB
 have HB0 := Go.Lib.hid hB0
 have HR := Go.Lib.hid (And.intro hr0 (And.intro hc0 (And.intro hr1 (And.intro hc1 (And.intro hr2 hc2)))))
 have HQ := Go.Lib.hid hq
 clear hr0 hr1 hr2 hc0 hc1 hc2 hB0 hq hres he
 go_enter Try.func41, Try.ntmps41
 go_wp2_with fail
 refine CB.mono ?_
 clear CB
 rintro e w1 ⟨⟨rfl, hB1⟩, bS⟩
 have hW1 : Below w.heap.size w w1 := HB0.out.trans (hB1.mono HB0.out.size)
 have b1 : w1.heap[w.heap.size]? = some (.cells #[.slice A0 F.length c0, .slice A1 S.length c1, .slice A2 T.length c2] 26 (0, 0)) := by
  rw [hB1.block w.heap.size (by simp)]
  exact World.alloc_heap_new w _
 have k0 := cell_of_heap b1 (j := 0) rfl
 have k1 := cell_of_heap b1 (j := 1) rfl
 have k2 := cell_of_heap b1 (j := 2) rfl
 have HW1 := Go.Lib.hid hW1
 have BX1 := Go.Lib.hid (And.intro b1 bS)
 clear hB1 b1 bS hW1
 by_cases hq0 : q = 0
 rotate_left
 ·
  have z0 := cell_of_heap BX1.out.2 (j := 0) rfl
  have z1 := cell_of_heap BX1.out.2 (j := 1) rfl
  have z2 := cell_of_heap BX1.out.2 (j := 2) rfl
  have y0 := blk_frozen BX1.out.2 0
  have y1 := blk_frozen BX1.out.2 1
  have y2 := blk_frozen BX1.out.2 2
  have hbs : Below w.heap.size w (((w1.setCell ⟨w.heap.size + 1, 0, none⟩ (.slice none 0 0)).setCell ⟨w.heap.size + 1, 1, none⟩ (.slice none 0 0)).setCell ⟨w.heap.size + 1, 2, none⟩ (.slice none 0 0)) :=
   setCell_below (setCell_below (setCell_below HW1.out (Nat.le_succ _) _) (Nat.le_succ _) _) (Nat.le_succ _) _
  have HBS := Go.Lib.hid hbs
  clear hbs
  go_wp2_with fail
  refine bodyPost_ret (results_ct rfl _ _ (w.heap.size + 1) 26 #[.slice none 0 0, .slice none 0 0, .slice none 0 0] (0, 0) _ rfl (by refine blk_put (cs := #[.slice none 0 0, .slice none 0 0, .slice none 0 0]) ?_ 2 _ rfl; refine blk_put (cs := #[.slice none 0 0, .slice none 0 0, .slice none 0 0]) ?_ 1 _ rfl; refine blk_put (cs := #[.slice none 0 0, .slice none 0 0, .slice none 0 0]) ?_ 0 _ rfl; exact BX1.out.2) Try.underlying26 rfl (by kernel_rfl)) rfl ?_
  have hz := HRES.out
  rw [if_neg hq0] at hz
  subst hz
  exact ⟨_, _, _, rfl, Kd.R_nil _ _ _ _ _, Kd.R_nil _ _ _ _ _, Kd.S_nil _ _ _ _ _, HBS.out⟩
 subst hq0
 obtain ⟨hcb, hfd, _⟩ := ask_parts HQ.out
 have hfd := hfd rfl
 obtain ⟨fn, rfl⟩ := Int.eq_ofNat_of_zero_le hfd.1
 have hk := bok_of_check hcb
 have hnt := hk.nt
 have hnf := hk.nf
 have hns := hk.ns
 obtain ⟨KO, hKO⟩ := other_is (F := F) (S := S) (T := T) (by omega) (by omega) (by omega) (fun l hl => Nat.le_trans (rows_le hk l hl) (by decide))
 have CC := match_other.calls KO A0 c0 F A1 c1 S A2 c2 T _ _ _ w1 (Kd.C_below HR.out.1 HW1.out) HR.out.2.1 (Kd.C_below HR.out.2.2.1 HW1.out) HR.out.2.2.2.1 (Kd.C_below HR.out.2.2.2.2.1 HW1.out) HR.out.2.2.2.2.2 (hKO KO (Nat.le_refl _))
 have HK := Go.Lib.hid (And.intro hfd (And.intro hnt hnf))
 clear hKO hk hnt hnf hns hcb hfd
 go_wp2_with fail
 refine CC.mono ?_
 clear CC
 rintro e w2 ⟨v0, v1, v2, rfl, r0, r1, r2, hb2⟩
 obtain ⟨B0, d0, rfl⟩ := Kd.R_slice r0
 obtain ⟨B1, d1, rfl⟩ := Kd.R_slice r1
 have ⟨hfd, hnt, hnf⟩ := HK.out
 obtain ⟨g2, d2, e2, gb2, gl2, cl2, HG2⟩ := Kd.S_form r2 (by omega)
 obtain ⟨B2, rfl⟩ : ∃ B2, v2 = .slice B2 T.length d2 := ⟨_, e2⟩
 obtain rfl : B2 = some ⟨g2, 0, none⟩ := by injection e2
 clear e2
 obtain ⟨g0, rfl⟩ : ∃ g0, B0 = some ⟨g0, 0, none⟩ := by
  obtain ⟨inner, ho⟩ := Kd.R_own r0
  rcases ho.2 with ⟨e, hz⟩ | ⟨g, _, _, e, _⟩
  ·
   injection e with _ e _
   omega
  ·
   injection e with e1
   exact ⟨g, e1⟩
 have hW2 := HW1.out.trans (hb2.mono HW1.out.size)
 have bS2 := (hb2.block (w.heap.size + 1) (Array.getElem?_eq_some_iff.1 BX1.out.2).1).trans BX1.out.2
 have HR2 := Go.Lib.hid (And.intro r0 (And.intro r1 r2))
 have HW2 := Go.Lib.hid hW2
 have BX2 := Go.Lib.hid bS2
 have HZ := Go.Lib.hid hb2.size
 clear r0 r1 r2 hb2 hW2 bS2 k0 k1 k2 gb2 gl2 cl2 HG2 hfd hnt hnf
 have hlt : fn < F.length := by have := HK.out.1.2; omega
 have w20 := (wrap_pm (i := (fn : Int)) (by have := HK.out.2.2; omega) (by have := HK.out.2.2; omega)).1
 have s20 : IntKind.i64.wrap ((fn : Int) + 1) = (fn : Int) + 1 := (YtkmmihadcbfkoaaW.PrintLast.i64_w _).trans w20
 go_wp2_with fail
 obtain ⟨g3, hg3⟩ : ∃ g3, w2.heap.size = g3 := ⟨_, rfl⟩
 rw [hg3]
 obtain ⟨W3, hW3⟩ : ∃ W3, w2.alloc (.cells #[.slice (some ⟨g0, 0, none⟩) F.length d0, .slice B1 S.length d1, .slice (some ⟨g2, 0, none⟩) T.length d2] 26) = W3 := ⟨_, rfl⟩
 rw [hW3]
 have b3 : W3.heap[g3]? = some (.cells #[.slice (some ⟨g0, 0, none⟩) F.length d0, .slice B1 S.length d1, .slice (some ⟨g2, 0, none⟩) T.length d2] 26 (0, 0)) := by
  rw [← hW3, ← hg3]; exact World.alloc_heap_new w2 _
 have hs3 : w.heap.size ≤ W3.heap.size := by rw [← hW3]; exact Nat.le_trans HW2.out.size (by simp)
 have h0 : Kd.R (Kd.int .i64) 3 W3 w.heap.size (fun _ => True) (.slice (some ⟨g0, 0, none⟩) F.length d0) F := by
  rw [← hW3]; apply Kd.R_alloc; exact Kd.R_lower HR2.out.1 HW1.out.size
 have h1 : Kd.R k50 50 W3 w.heap.size (fun _ => True) (.slice B1 S.length d1) S := by
  rw [← hW3]; apply Kd.R_alloc; exact Kd.R_lower HR2.out.2.1 HW1.out.size
 have h2 : Kd.S (Kd.slice 3 (Kd.int .i64)) 22 W3 w.heap.size (fun k_ => some k_ ≠ (Value.slice (some ⟨g0, 0, none⟩) F.length d0).ownBlock) (.slice (some ⟨g2, 0, none⟩) T.length d2) T := by
  rw [← hW3]; apply Kd.S_alloc; exact Kd.S_lower HR2.out.2.2 HW1.out.size
 have hn0 : g0 ≠ g3 := by
  have hb := own_lt (Kd.own_of_R HR2.out.1) g0 rfl
  omega
 have hn2 : g2 ≠ g3 := by
  obtain ⟨inner, ho⟩ := Kd.S_own HR2.out.2.2
  have hb := own_lt ho g2 rfl
  omega
 have hn02 : g0 ≠ g2 := fun e => HR2.out.2.2.choose_spec.1 g2 rfl (by rw [e]; rfl)
 have hbw3 : Below w.heap.size w W3 := by rw [← hW3]; exact HW2.out.alloc HW2.out.size _
 have hg3s : w.heap.size ≤ g3 := by rw [← hg3]; exact HW2.out.size
 have hbs3 : W3.heap[w.heap.size + 1]? = some (.cells #[.slice none 0 0, .slice none 0 0, .slice none 0 0] 26 (0, 0)) := by
  rw [← hW3]; exact (((Below.refl w2.heap.size w2).alloc (Nat.le_refl _) _).block _ (Array.getElem?_eq_some_iff.1 BX2.out).1).trans BX2.out
 have hgs : g3 ≠ w.heap.size + 1 := by
  have := (Array.getElem?_eq_some_iff.1 BX2.out).1
  omega
 have hty0 := kd_block h0 (by omega)
 have hty2 := ks_block h2 (by have := HK.out.2.1; omega)
 have hr0 : g0 ≠ w.heap.size + 1 := fun e => by
  obtain ⟨cc, hh⟩ := hty0
  rw [e, hbs3] at hh
  injection hh with hh
  injection hh with _ h26
  exact absurd h26 (by decide)
 have hr2 : g2 ≠ w.heap.size + 1 := fun e => by
  obtain ⟨cc, hh⟩ := hty2
  rw [e, hbs3] at hh
  injection hh with hh
  injection hh with _ h26
  exact absurd h26 (by decide)
 have H3 := Go.Lib.hid (And.intro h0 (And.intro h1 (And.intro h2 (And.intro b3 (And.intro hs3 (And.intro hbw3 hbs3))))))
 have HN := Go.Lib.hid (And.intro hn0 (And.intro hn2 (And.intro hn02 (And.intro hg3s (And.intro hgs (And.intro hr0 hr2))))))
 clear hW3 hg3 b3 hs3 h0 h1 h2 hn0 hn2 hn02 hbw3 hg3s hbs3 hgs hr0 hr2 hty0 hty2 BX2 HW2 HR2 HZ
 refine start_ (n := 16) (S := fun w' => w'.heap[g3]? = some (.cells #[.slice (some ⟨g0, 0, none⟩) F.length d0, .slice B1 S.length d1, .slice (some ⟨g2, 0, none⟩) T.length d2] 26 (0, 0))) (ds := [13, 15]) #[false, false, false, false, false, false, false, false, false, false, false, false, false, false, false, false] (by kernel_rfl) rfl rfl H3.out.2.2.2.1 (fun hHeld => ?_); refine with_tabW without_tab5 without_bits5 (fun HT_ HW_ => ?_)
 have H4 := Go.Lib.hid (And.intro (Kd.R_drew H3.out.1) (And.intro (Kd.R_drew H3.out.2.1) (And.intro (Kd.S_drew H3.out.2.2.1) (And.intro (show w.heap.size ≤ W3.drew.heap.size from H3.out.2.2.2.2.1) (And.intro (below_drew1 H3.out.2.2.2.2.2.1) (show W3.drew.heap[w.heap.size + 1]? = _ from H3.out.2.2.2.2.2.2))))))
 clear H3
 generalize W3.drew = W4 at H4 hHeld ⊢
 refine pure_ (i := 0) (N := some 18) (v := ?_) (a' := ?_) #[true, false, false, false, false, false, false, false, false, false, false, false, false, false, false, false] rfl rfl (any_of HT_.out (by kernel_rfl)) (fun _ _ _ h => h) (Or.inl ⟨by rfl, ?_⟩) ?_ ?_
 rotate_left
 ·
  intro w'
  go_simp
  with_reducible rfl
 rotate_left
 ·
  simp only [Act.put, List.setIfInBounds_toArray, List.set_cons_zero, List.set_cons_succ, YtkmmihadcbfkoaaW.PrintLast.i64_w, w20]
  rfl
 refine pure_ (i := 2) (N := some 20) (v := ?_) (a' := ?_) #[true, false, true, false, false, false, false, false, false, false, false, false, false, false, false, false] rfl rfl (any_of HT_.out (by kernel_rfl)) (fun _ _ _ h => h) (Or.inl ⟨by rfl, ?_⟩) ?_ ?_
 rotate_left
 ·
  intro w'
  go_simp
  with_reducible rfl
 rotate_left
 ·
  simp only [Act.put, List.setIfInBounds_toArray, List.set_cons_zero, List.set_cons_succ, YtkmmihadcbfkoaaW.PrintLast.i64_w, w20]
  rfl
 refine pure_ (i := 3) (N := some 21) (v := ?_) (a' := ?_) #[true, false, true, true, false, false, false, false, false, false, false, false, false, false, false, false] rfl rfl (any_of HT_.out (by kernel_rfl)) (fun _ _ _ h => h) (Or.inl ⟨by rfl, ?_⟩) ?_ ?_
 rotate_left
 ·
  intro w'
  go_simp
  with_reducible rfl
 rotate_left
 ·
  simp only [Act.put, List.setIfInBounds_toArray, List.set_cons_zero, List.set_cons_succ, YtkmmihadcbfkoaaW.PrintLast.i64_w, w20]
  rfl
 refine pure_ (i := 4) (N := some 22) (v := ?_) (a' := ?_) #[true, false, true, true, true, false, false, false, false, false, false, false, false, false, false, false] rfl rfl (any_of HT_.out (by kernel_rfl)) (fun _ _ _ h => h) (Or.inl ⟨by rfl, ?_⟩) ?_ ?_
 rotate_left
 ·
  intro w'
  go_simp
  with_reducible rfl
 rotate_left
 ·
  simp only [Act.put, List.setIfInBounds_toArray, List.set_cons_zero, List.set_cons_succ, YtkmmihadcbfkoaaW.PrintLast.i64_w, w20]
  rfl
 refine pure_ (i := 6) (N := some 24) (v := ?_) (a' := ?_) #[true, false, true, true, true, false, true, false, false, false, false, false, false, false, false, false] rfl rfl (any_of HT_.out (by kernel_rfl)) (fun _ _ _ h => h) (Or.inl ⟨by rfl, ?_⟩) ?_ ?_
 rotate_left
 ·
  intro w'
  go_simp
  with_reducible rfl
 rotate_left
 ·
  simp only [Act.put, List.setIfInBounds_toArray, List.set_cons_zero, List.set_cons_succ, YtkmmihadcbfkoaaW.PrintLast.i64_w, w20]
  rfl
 refine pure_ (i := 8) (N := some 26) (v := ?_) (a' := ?_) #[true, false, true, true, true, false, true, false, true, false, false, false, false, false, false, false] rfl rfl (any_of HT_.out (by kernel_rfl)) (fun _ _ _ h => h) (Or.inl ⟨by rfl, ?_⟩) ?_ ?_
 rotate_left
 ·
  intro w'
  go_simp
  with_reducible rfl
 rotate_left
 ·
  simp only [Act.put, List.setIfInBounds_toArray, List.set_cons_zero, List.set_cons_succ, YtkmmihadcbfkoaaW.PrintLast.i64_w, w20]
  rfl
 refine pure_ (i := 9) (N := some 27) (v := ?_) (a' := ?_) #[true, false, true, true, true, false, true, false, true, true, false, false, false, false, false, false] rfl rfl (any_of HT_.out (by kernel_rfl)) (fun _ _ _ h => h) (Or.inl ⟨by rfl, ?_⟩) ?_ ?_
 rotate_left
 ·
  intro w'
  go_simp
  with_reducible rfl
 rotate_left
 ·
  simp only [Act.put, List.setIfInBounds_toArray, List.set_cons_zero, List.set_cons_succ, YtkmmihadcbfkoaaW.PrintLast.i64_w, w20]
  rfl
 refine pure_ (i := 10) (N := some 28) (v := ?_) (a' := ?_) #[true, false, true, true, true, false, true, false, true, true, true, false, false, false, false, false] rfl rfl (any_of HT_.out (by kernel_rfl)) (fun _ _ _ h => h) (Or.inl ⟨by rfl, ?_⟩) ?_ ?_
 rotate_left
 ·
  intro w'
  go_simp
  with_reducible rfl
 rotate_left
 ·
  simp only [Act.put, List.setIfInBounds_toArray, List.set_cons_zero, List.set_cons_succ, YtkmmihadcbfkoaaW.PrintLast.i64_w, w20]
  rfl
 refine take_ (i := 1) (N := some 19) (v := ?_) (a' := ?_) #[true, true, true, true, true, false, true, false, true, true, true, false, false, false, false, false] rfl rfl (take_ofW HT_.out HW_.out (by kernel_rfl)) (fun _ _ _ h => h) (Or.inl ⟨by rfl, ?_⟩) hHeld ?_ ?_
 rotate_left
 ·
  intro w' hs_
  have s0 := (blk_cell hs_ 0).trans rfl
  have s2 := (blk_cell hs_ 2).trans rfl
  go_simp
  with_reducible rfl
 rotate_left
 ·
  simp only [Act.put, List.setIfInBounds_toArray, List.set_cons_zero, List.set_cons_succ, YtkmmihadcbfkoaaW.PrintLast.i64_w, w20]
  rfl
 refine take_ (i := 7) (N := some 25) (v := ?_) (a' := ?_) #[true, true, true, true, true, false, true, true, true, true, true, false, false, false, false, false] rfl rfl (take_ofW HT_.out HW_.out (by kernel_rfl)) (fun _ _ _ h => h) (Or.inl ⟨by rfl, ?_⟩) hHeld ?_ ?_
 rotate_left
 ·
  intro w' hs_
  have s0 := (blk_cell hs_ 0).trans rfl
  have s2 := (blk_cell hs_ 2).trans rfl
  go_simp
  with_reducible rfl
 rotate_left
 ·
  simp only [Act.put, List.setIfInBounds_toArray, List.set_cons_zero, List.set_cons_succ, YtkmmihadcbfkoaaW.PrintLast.i64_w, w20]
  rfl
 refine one_ (i := 5) (N := some 23) #[true, true, true, true, true, true, true, true, true, true, true, false, false, false, false, false] rfl rfl (one_of HT_.out (by kernel_rfl)) (by decide) (fun K hK => ?_)
 refine goes_ Try.func77 (by kernel_rfl) rfl #[.slice (some ⟨g0, 0, none⟩) F.length d0, .int .i64 fn, .int .i64 ((fn : Int) + 1)] (by rfl) rfl rfl (by (try simp only [List.map_toArray, List.map_cons, List.map_nil]); first | done | rfl) ?_
 refine (delete_ints_calls g0 d0 w.heap.size (fun _ => True) F fn W4 H4.out.1 hlt H4.out.2.2.2.1).mono ?_
 rintro e w5 ⟨rfl, hR5, hG5, hB5⟩
 refine ⟨_, rfl, ?_⟩
 have hGs : ∀ k, k < W4.heap.size → k ≠ g0 → w5.heap[k]? = W4.heap[k]? := fun k hk hne => hG5.block k hk (fun e => hne (Option.some.inj e))
 have hs5 : w.heap.size ≤ w5.heap.size := Nat.le_trans H4.out.2.2.2.1 hG5.size
 have hH5 := (hGs g3 (blk_lt hHeld) (Ne.symm HN.out.1)).trans hHeld
 have hX5 := (hGs _ (blk_lt H4.out.2.2.2.2.2) (Ne.symm HN.out.2.2.2.2.2.1)).trans H4.out.2.2.2.2.2
 have hS5 := Kd.S_grown (Kd.S_drew H4.out.2.2.1) hG5 (fun k hk => hk)
 have hQ5 := Kd.R_over' (Kd.R_drew H4.out.2.1) (v := .slice (some ⟨g0, 0, none⟩) F.length d0) (e' := 3) (fun k hk => by obtain rfl : g0 = k := Option.some.inj hk; exact kd_block (Kd.R_drew H4.out.1) (by omega)) (by decide) hG5
 have H5 := Go.Lib.hid (And.intro hR5 (And.intro hQ5 (And.intro hS5 (And.intro hs5 (And.intro (H4.out.2.2.2.2.1.trans hB5) hX5)))))
 clear H4 hGs hs5 hX5 hS5 hQ5 hR5 hG5 hB5
 refine hK.out _ _ hH5 (fun hHeld => ?_)
 clear hK K hH5
 refine norm_ (a' := ?_) ?_ ?_
 rotate_left
 ·
  show Act.put _ (some 23) _ = _
  simp only [Act.put, List.setIfInBounds_toArray, List.set_cons_zero, List.set_cons_succ]
  rfl
 refine pure_ (i := 12) (N := some 30) (v := ?_) (a' := ?_) #[true, true, true, true, true, true, true, true, true, true, true, false, true, false, false, false] rfl rfl (any_of HT_.out (by kernel_rfl)) (fun _ _ _ h => h) (Or.inl ⟨by rfl, ?_⟩) ?_ ?_
 rotate_left
 ·
  intro w'
  go_simp
  with_reducible rfl
 rotate_left
 ·
  simp only [Act.put, List.setIfInBounds_toArray, List.set_cons_zero, List.set_cons_succ, YtkmmihadcbfkoaaW.PrintLast.i64_w, w20]
  rfl
 refine one_ (i := 11) (N := some 29) #[true, true, true, true, true, true, true, true, true, true, true, true, true, false, false, false] rfl rfl (one_of HT_.out (by kernel_rfl)) (by decide) (fun K hK => ?_)
 refine goes_ Try.func78 (by kernel_rfl) rfl #[.slice (some ⟨g2, 0, none⟩) T.length d2, .int .i64 fn, .int .i64 ((fn : Int) + 1)] (by rfl) rfl rfl (by (try simp only [List.map_toArray, List.map_cons, List.map_nil]); first | done | rfl) ?_
 refine (delete_rows_calls g2 d2 w.heap.size (fun k_ => some k_ ≠ (Value.slice (some ⟨g0, 0, none⟩) F.length d0).ownBlock) T fn w5 H5.out.2.2.1 (by rw [HK.out.2.1]; exact hlt) H5.out.2.2.2.1).mono ?_
 rintro e w6 ⟨rfl, hR6, hG6, hB6⟩
 refine ⟨_, rfl, ?_⟩
 have hGs : ∀ k, k < w5.heap.size → k ≠ g2 → w6.heap[k]? = w5.heap[k]? := fun k hk hne => hG6.block k hk (fun e => hne (Option.some.inj e))
 have hH6 := (hGs g3 (blk_lt hHeld) (Ne.symm HN.out.2.1)).trans hHeld
 have hX6 := (hGs _ (blk_lt H5.out.2.2.2.2.2) (Ne.symm HN.out.2.2.2.2.2.2)).trans H5.out.2.2.2.2.2
 have hP6 := Kd.R_grown2 (Kd.R_drew H5.out.1) rfl hG6 (fun k hk => by obtain rfl : g2 = k := Option.some.inj hk; exact fun e => HN.out.2.2.1 (Option.some.inj e).symm)
 have hQ6 := Kd.R_over' (Kd.R_drew H5.out.2.1) (v := .slice (some ⟨g2, 0, none⟩) T.length d2) (e' := 22) (fun k hk => by obtain rfl : g2 = k := Option.some.inj hk; exact ks_block (Kd.S_drew H5.out.2.2.1) (by rw [HK.out.2.1]; omega)) (by decide) hG6
 have H6 := Go.Lib.hid (And.intro hP6 (And.intro hQ6 (And.intro hR6 (And.intro (H5.out.2.2.2.2.1.trans hB6) hX6))))
 clear H5 hGs hX6 hQ6 hP6 hR6 hG6 hB6
 refine hK.out _ _ hH6 (fun hHeld => ?_)
 clear hK K hH6
 refine norm_ (a' := ?_) ?_ ?_
 rotate_left
 ·
  show Act.put _ (some 29) _ = _
  simp only [Act.put, List.setIfInBounds_toArray, List.set_cons_zero, List.set_cons_succ]
  rfl
 refine last_ (i := 13) (N := none) #[true, true, true, true, true, true, true, true, true, true, true, true, true, true, false, false] rfl rfl (one_of HT_.out (by kernel_rfl)) (by decide) (fun K hK => ?_)
 have hs_0 : w6.cell? ⟨g3, 0, none⟩ = some (.slice (some ⟨g0, 0, none⟩) F.length d0) := (blk_cell hHeld 0).trans rfl
 have hf_0 := blk_frozen hHeld 0
 refine skip_ (w1 := ?_) (by rfl) rfl ?_ ?_
 rotate_left
 ·
  go_simp
  rfl
 refine hK.out _ _ ?_
 clear hK K
 have hHeld7 := blk_put (cs := #[.slice (some ⟨g0, 0, none⟩) F.length d0, .slice B1 S.length d1, .slice (some ⟨g2, 0, none⟩) T.length d2]) hHeld 0 (.slice (some ⟨g0, 0, none⟩) (F.length - 1) d0) (cs' := #[.slice (some ⟨g0, 0, none⟩) (F.length - 1) d0, .slice B1 S.length d1, .slice (some ⟨g2, 0, none⟩) T.length d2]) rfl
 have H7 := Go.Lib.hid (And.intro (R_box H6.out.1 hHeld (by decide) 0 (.slice (some ⟨g0, 0, none⟩) (F.length - 1) d0)) (And.intro (R_box H6.out.2.1 hHeld (by decide) 0 (.slice (some ⟨g0, 0, none⟩) (F.length - 1) d0)) (And.intro (S_box H6.out.2.2.1 hHeld (by decide) 0 (.slice (some ⟨g0, 0, none⟩) (F.length - 1) d0)) (And.intro (setCell_below H6.out.2.2.2.1 (p := ⟨g3, 0, none⟩) HN.out.2.2.2.1 (.slice (some ⟨g0, 0, none⟩) (F.length - 1) d0)) (blk_far H6.out.2.2.2.2 (p := ⟨g3, 0, none⟩) (Ne.symm HN.out.2.2.2.2.1) (.slice (some ⟨g0, 0, none⟩) (F.length - 1) d0))))))
 clear H6 hs_0 hf_0 hHeld
 generalize w6.setCell ⟨g3, 0, none⟩ (.slice (some ⟨g0, 0, none⟩) (F.length - 1) d0) = w7 at H7 hHeld7 ⊢
 refine pure_ (i := 14) (N := some 31) (v := ?_) (a' := ?_) #[true, true, true, true, true, true, true, true, true, true, true, true, true, true, true, false] rfl rfl (any_of HT_.out (by kernel_rfl)) (fun _ _ _ h => h) (Or.inl ⟨by rfl, ?_⟩) ?_ ?_
 rotate_left
 ·
  intro w'
  go_simp
  with_reducible rfl
 rotate_left
 ·
  simp only [Act.put, List.setIfInBounds_toArray, List.set_cons_zero, List.set_cons_succ, YtkmmihadcbfkoaaW.PrintLast.i64_w, w20]
  rfl
 refine last_ (i := 15) (N := none) #[true, true, true, true, true, true, true, true, true, true, true, true, true, true, true, true] rfl rfl (one_of HT_.out (by kernel_rfl)) (by decide) (fun K hK => ?_)
 have hs_2 : w7.cell? ⟨g3, 2, none⟩ = some (.slice (some ⟨g2, 0, none⟩) T.length d2) := (blk_cell hHeld7 2).trans rfl
 have hf_2 := blk_frozen hHeld7 2
 refine skip_ (w1 := ?_) (by rfl) rfl ?_ ?_
 rotate_left
 ·
  go_simp
  rfl
 refine hK.out _ _ ?_
 clear hK K
 have hHeld8 := blk_put (cs := #[.slice (some ⟨g0, 0, none⟩) (F.length - 1) d0, .slice B1 S.length d1, .slice (some ⟨g2, 0, none⟩) T.length d2]) hHeld7 2 (.slice (some ⟨g2, 0, none⟩) (T.length - 1) d2) (cs' := #[.slice (some ⟨g0, 0, none⟩) (F.length - 1) d0, .slice B1 S.length d1, .slice (some ⟨g2, 0, none⟩) (T.length - 1) d2]) rfl
 have H8 := Go.Lib.hid (And.intro (R_box H7.out.1 hHeld7 (by decide) 2 (.slice (some ⟨g2, 0, none⟩) (T.length - 1) d2)) (And.intro (R_box H7.out.2.1 hHeld7 (by decide) 2 (.slice (some ⟨g2, 0, none⟩) (T.length - 1) d2)) (And.intro (S_box H7.out.2.2.1 hHeld7 (by decide) 2 (.slice (some ⟨g2, 0, none⟩) (T.length - 1) d2)) (And.intro (setCell_below H7.out.2.2.2.1 (p := ⟨g3, 2, none⟩) HN.out.2.2.2.1 (.slice (some ⟨g2, 0, none⟩) (T.length - 1) d2)) (blk_far H7.out.2.2.2.2 (p := ⟨g3, 2, none⟩) (Ne.symm HN.out.2.2.2.2.1) (.slice (some ⟨g2, 0, none⟩) (T.length - 1) d2))))))
 clear H7 hs_2 hf_2 hHeld7
 generalize w7.setCell ⟨g3, 2, none⟩ (.slice (some ⟨g2, 0, none⟩) (T.length - 1) d2) = w8 at H8 hHeld8 ⊢
 refine done_ (done_of HT_.out (by kernel_rfl)) ?_
 have q0 := (blk_cell hHeld8 0).trans rfl
 have q1 := (blk_cell hHeld8 1).trans rfl
 have q2 := (blk_cell hHeld8 2).trans rfl
 have z0 := (blk_cell H8.out.2.2.2.2 0).trans rfl
 have z1 := (blk_cell H8.out.2.2.2.2 1).trans rfl
 have z2 := (blk_cell H8.out.2.2.2.2 2).trans rfl
 have y0 := blk_frozen H8.out.2.2.2.2 0
 have y1 := blk_frozen H8.out.2.2.2.2 1
 have y2 := blk_frozen H8.out.2.2.2.2 2
 go_wp2_with fail
 refine bodyPost_ret (results_ct rfl _ _ (w.heap.size + 1) 26 #[.slice (some ⟨g0, 0, none⟩) (F.length - 1) d0, .slice B1 S.length d1, .slice (some ⟨g2, 0, none⟩) (T.length - 1) d2] (0, 0) _ rfl (own_put3 H8.out.2.2.2.2 _ _ _) Try.underlying26 rfl (by kernel_rfl)) rfl ?_
 have hz := HRES.out
 rw [if_pos trivial, show (fn : Int).toNat = fn from Int.toNat_natCast fn] at hz
 subst hz
 exact ⟨_, _, _, rfl, own_box3R H8.out.1 H8.out.2.2.2.2 (by decide) _ _ _, own_box3R H8.out.2.1 H8.out.2.2.2.2 (by decide) _ _ _, own_box3S H8.out.2.2.1 H8.out.2.2.2.2 (by decide) _ _ _, own_box3B H8.out.2.2.2.1 (Nat.le_succ _) _ _ _⟩
end Go.Proofs.Ytkmmihadcbfkoaa
end

section
namespace Go.Proofs
open Go.Shelf
def Try.laysDf_ren : Go.Shelf.Ren := ⟨fun | 6 => 91 | 10 => 80 | n => n, fun | 22 => 22 | 23 => 3 | 3 => 3 | 4 => 4 | 25 => 90 | 0 => 0 | n => n, fun | n => n⟩
theorem Try.laysDf : Go.Proofs.SlLaysH.n10 Try.prog Try.laysDf_ren := {
 mixed := by kernel_rfl
 f6 := ⟨"slices.IndexFunc[[]int,int]", by decide, Try.func91.trans (congrArg some (by kernel_rfl))⟩
 f10 := ⟨"slices.DeleteFunc[[]int,int]", by decide, Try.func80.trans (congrArg some (by kernel_rfl))⟩
 t0 := Try.underlying0
 a0 := Try.isAgg0
 z0 := Try.sizeOf0
 v0 := Try.zeroValue0
 t3 := Try.underlying3
 a3 := Try.isAgg3
 z3 := Try.sizeOf3
 v3 := Try.zeroValue3
 t4 := Try.underlying4
 a4 := Try.isAgg4
 z4 := Try.sizeOf4
 v4 := Try.zeroValue4
 t22 := Try.underlying22
 a22 := Try.isAgg22
 z22 := Try.sizeOf22
 v22 := Try.zeroValue22
 a23 := Try.isAgg3
 z23 := Try.sizeOf3
 t25 := Try.underlying90
 a25 := Try.isAgg90
 z25 := Try.sizeOf90
 v25 := Try.zeroValue90 }
end Go.Proofs
namespace Go.Proofs.Ytkmmihadcbfkoaa
open Go.RowKit Go.Sort Go.Shelf Go.Lib Go.Proofs.YtkmmihadcbfkoaaW.PrintWords
set_option linter.unusedVariables false
set_option linter.unusedSimpArgs false
theorem gives81 (slot x : Int) (B : Nat) (W : World) (hc : W.cell? ⟨B, 0, none⟩ = some (.int .i64 slot)) :
  FnGives Try.prog 81 #[.pointer (some ⟨B, 0, none⟩)] #[.int .i64 x] (.bool (decide (x = slot))) W := by
 show Calls Try.prog 81 #[.int .i64 x, .pointer (some ⟨B, 0, none⟩)] W _
 go_enter Try.func81, Try.ntmps81
 go_wp2
 all_goals (go_ret; refine ⟨?_, 0, rfl⟩; simp; rw [Bool.eq_iff_iff]; simp)
theorem pred81 (slot : Int) (B : Nat) (w : World) (hB : B < w.heap.size) (hcell : w.cell? ⟨B, 0, none⟩ = some (.int .i64 slot)) :
  PredAt Try.prog 81 #[.pointer (some ⟨B, 0, none⟩)] (Value.int .i64) (fun x => decide (x = slot)) w :=
 fun W x hb => gives81 slot x B W ((hb.cell (p := ⟨B, 0, none⟩) hB).trans hcell)
theorem over81 (slot : Int) (B blk off size : Nat) (w : World) (hB : B < w.heap.size) (hne : B ≠ blk) (hcell : w.cell? ⟨B, 0, none⟩ = some (.int .i64 slot)) :
  PredOver Try.prog 81 #[.pointer (some ⟨B, 0, none⟩)] (Value.int .i64) (fun x => decide (x = slot)) blk off size w :=
 fun n os dk x _ => gives81 slot x B _ (by
  unfold sortWorld
  rw [cell?_grow _ _ _ (by show B < (putRow _ _ _ _ _).heap.size; rw [size_putRow]; exact hB), cell?_putRow_other _ _ blk off _ _ (Or.inl hne)]
  exact hcell)
/-- A function value with which fitted may be called: what it makes of a row, in a later world. -/
def FitsAt (gf : Nat) (lb : Array Value) (fl : List Int → List Int) (w : World) : Prop :=
 ∀ (W : World) (oki : Nat → Prop) (g c : Nat) (row : List Int), Below w.heap.size w W → Kd.R (Kd.int .i64) 3 W w.heap.size oki (.slice (some ⟨g, 0, none⟩) row.length c) row → row.length ≤ 1000 →
  Calls Try.prog gf (#[.slice (some ⟨g, 0, none⟩) row.length c] ++ lb) W fun e w1 => ∃ v1, e = .returned v1 ∧ W.grownBy w1 (some g) ∧ Kd.R (Kd.int .i64) 3 w1 w.heap.size (fun k => oki k ∨ W.heap.size ≤ k) v1 (fl row)
theorem fits79 (slot : Int) (B : Nat) (w : World) (hB : B < w.heap.size) (hcell : w.cell? ⟨B, 0, none⟩ = some (.int .i64 slot)) :
  FitsAt 79 #[.pointer (some ⟨B, 0, none⟩)] (fun l => l.filter (fun s => decide (s ≠ slot))) w := by
 intro W oki g c row hb hR hl
 have hle := (List.length_filter_le (fun s => decide (s ≠ slot)) row)
 have hgl : w.heap.size ≤ g := Kd.R_base hR g rfl
 have hcW : W.cell? ⟨B, 0, none⟩ = some (.int .i64 slot) := (hb.cell (p := ⟨B, 0, none⟩) hB).trans hcell
 have hBW : B < W.heap.size := Nat.lt_of_lt_of_le hB hb.size
 have ho := Kd.own_of_R hR
 have hcap := (Kd.R_reads' hR).2.1
 have eg : ∀ args w, (callFunc 81 args).run Try.prog w = .ok (.enter 81 args) w := enters_of Try.func81 (by kernel_rfl) rfl
 have CD := AnyE.slices_DeleteFunc Try.laysDf (Value.int .i64) (fun _ => rfl) (fun x => decide (x = slot)) 81 #[.pointer (some ⟨B, 0, none⟩)] eg 0 Try.zeroValue3 g 0 c row.toArray W
  (pred81 slot B W hBW hcW) (over81 slot B g 0 _ W hBW (by omega) hcW) (own_holds (n := row.length) ho) (by simp; omega) (by simpa using hcap)
 change Calls Try.prog 80 _ _ _ at CD
 rw [show (row.toArray.toList.filter fun x => !decide (x = slot)) = row.filter (fun s => decide (s ≠ slot)) from by simp] at CD
 rw [show row.toArray.size = row.length from by simp] at CD
 have HX := Go.Lib.hid (And.intro hR (And.intro ho hle))
 clear hR ho hle hcW hcap hgl hBW hcell
 generalize hfl : row.filter (fun s => decide (s ≠ slot)) = fl at CD HX ⊢
 show Calls Try.prog 79 #[.slice (some ⟨g, 0, none⟩) row.length c, .pointer (some ⟨B, 0, none⟩)] W _
 go_enter Try.func79, Try.ntmps79
 go_wp2_with (go_at_call 80; refine CD.mono ?_; rintro e w1 ⟨rfl, q, rfl⟩)
 go_ret
 refine ⟨.slice (some ⟨g, 0, none⟩) fl.length c, rfl, ?_⟩
 have hle := HX.out.2.2
 have H := own_put HX.out.2.1 (fl ++ List.replicate (row.length - fl.length) 0).toArray (by simp; omega) q #[]
 rw [grow_empty] at H
 have H2 := own_shrink H.1 hle
 rw [List.map_append, List.take_append_of_le_length (by simp), List.take_of_length_le (by simp)] at H2
 subst hfl
 exact ⟨H.2, Kd.R_of_own H2 (fun k hk => Or.inl (HX.out.1.1 k hk))⟩
theorem fits65 (slot : Int) (B : Nat) (w : World) (hB : B < w.heap.size) (hcell : w.cell? ⟨B, 0, none⟩ = some (.int .i64 slot)) :
  FitsAt 65 #[.pointer (some ⟨B, 0, none⟩)] (fun _ => [slot]) w := by
 intro W oki g c row hb hR hl
 have hcW : W.cell? ⟨B, 0, none⟩ = some (.int .i64 slot) := (hb.cell (p := ⟨B, 0, none⟩) hB).trans hcell
 have hsz := hb.size
 clear hR
 show Calls Try.prog 65 #[.slice (some ⟨g, 0, none⟩) row.length c, .pointer (some ⟨B, 0, none⟩)] W _
 go_enter Try.func65, Try.ntmps65
 go_wp2
 go_ret
 have ho : (W.alloc (.cells #[.int .i64 slot] 3)).ownsRow w.heap.size 3 1 (.slice (some ⟨W.heap.size, 0, none⟩) 1 1) 1 [.int .i64 slot] :=
  ⟨rfl, .inr ⟨W.heap.size, 1, #[.int .i64 slot], rfl, hsz, World.alloc_heap_new W _, by decide, by decide, rfl, rfl⟩⟩
 exact ⟨.slice (some ⟨W.heap.size, 0, none⟩) 1 1, rfl, grown_of_below ((Below.refl _ _).alloc (Nat.le_refl _) _) _, Kd.R_of_own (xs := [slot]) ho (fun k hk => Or.inr (Nat.le_of_eq (Option.some.inj hk)))⟩
end Go.Proofs.Ytkmmihadcbfkoaa
end

section
namespace Go.Proofs.Ytkmmihadcbfkoaa
open Go.RowKit Go.Proofs.YtkmmihadcbfkoaaW.PrintWords Go.Proofs.YtkmmihadcbfkoaaW.PrintLast Go.Proofs.YtkmmihadcbfkoaaW.PrintMore PM
set_option linter.unusedVariables false
set_option linter.unusedSimpArgs false
def fitted_T7 : Bool × List (List Nat × List Nat) := (true, [([], []), ([0], [0]), ([], []), ([], []), ([], []), ([4], [4]), ([], []), ([5, 6], [5, 6]), ([7], [7]), ([3, 8], [3, 8]), ([1, 2, 0, 1, 2, 3, 4, 5, 6, 7, 8, 9], [1, 2]), ([10, 9, 9, 0, 1, 2, 3, 4, 5, 6, 7, 8, 9], [9, 10])])
def fitted_B7 : List Nat := [0, 1, 0, 0, 0, 16, 0, 112, 240, 504, 1023, 2047]
theorem fitted_tab7 : rtab .any (opsOf Try.f64 7) = fitted_T7 := by kernel_rfl
theorem fitted_bits7 : waitsOk fitted_T7.2 fitted_B7 = true := by kernel_rfl
/-- A call of a function value, by its contract. -/
theorem goesv_ {P : Program} {ops : Array Oper} {Q : Exit → Act → World → Prop} {oi : Oper} {N : Option Tmp} {a : Act} {w : World} {K : Act → World → Prop} {f : FuncId} {lb : Array Value} {t : Tmp} {as_ : Array Operand} {ts : Array TypeId} (he : ∀ args w, (callFunc f args).run P w = .ok (.enter f args) w) (args : Array Value)
  (hw : Region.wanted oi (yielded ops a.tmps) = true) (hN : oi.dst = N) (hop : oi.op = .call { callee := .value (.tmp t), args := as_, argTypes := ts }) (hv : a.eval (.tmp t) = .func (.func f) #[] lb) (hargs : as_.map a.eval = args)
  (h : Calls P f (args ++ lb) w fun e w' => ∃ v, e = .returned v ∧ K (a.put N v) w') : if Region.wanted oi (yielded ops a.tmps) = true then Oper.wp P oi a w K Q else K (a.put N undef) w := by
 refine call_ f (args ++ lb) hw hN ?_ h
 unfold execOp
 simp [hop, resolve, Deferred.ofValue, invoke, hv, hargs, he]
set_option maxRecDepth 100000 in
set_option maxHeartbeats 8000000 in
theorem fitted_calls (A0 : Option Addr) (c0 : Nat) (F : List Int) (A1 : Option Addr) (c1 : Nat) (S : List S50) (A2 : Option Addr) (c2 : Nat) (T : List (List Int)) (find slot : Int) (gf : Nat) (lb : Array Value) (fl : List Int → List Int) (w : World)
  (hr0 : Kd.C (Kd.int .i64) w A0 F.length F) (hc0 : F.length ≤ c0) (hr1 : Kd.C k50 w A1 S.length S) (hc1 : S.length ≤ c1) (hr2 : Kd.C (Kd.slice 3 (Kd.int .i64)) w A2 T.length T) (hc2 : T.length ≤ c2)
  (hfa : FitsAt gf lb fl w) (hent : ∀ args w, (callFunc gf args).run Try.prog w = .ok (.enter gf args) w) :
  Calls Try.prog 64 #[.agg #[.slice A0 F.length c0, .slice A1 S.length c1, .slice A2 T.length c2], .int .i64 find, .int .i64 slot, .func (.func gf) #[] lb] w fun e w' => OwnPost (fittedP F S T find slot fl) w e w' := by
 have hB0 := ((Below.refl w.heap.size w).alloc (Nat.le_refl _) (.cells #[.slice A0 F.length c0, .slice A1 S.length c1, .slice A2 T.length c2] 26)).alloc (by simp) (.cells #[.slice none 0 0, .slice none 0 0, .slice none 0 0] 26)
 have CB := both_calls A0 c0 F A1 c1 S A2 c2 T find slot _ (Kd.C_below hr0 hB0) hc0 (Kd.C_below hr1 hB0) (Kd.C_below hr2 hB0)
 obtain ⟨q, hq⟩ : ∃ q, askB F S T find slot false false = q := ⟨_, rfl⟩
 have hres : fittedP F S T find slot fl = if q = 0 then (if slot ∈ T.getD find.toNat [] then (F, S, T.set find.toNat (fl (T.getD find.toNat [])), 0) else ([], [], [], 5)) else ([], [], [], q) := by rw [← hq]; rfl
 obtain ⟨res, he⟩ : ∃ res, fittedP F S T find slot fl = res := ⟨_, rfl⟩
 rw [he]
 rw [he] at hres
 have HRES := Go.Lib.hid hres
 rw [hq] at CB
 have HB0 := Go.Lib.hid hB0
 have HR := Go.Lib.hid (And.intro hr0 (And.intro hc0 (And.intro hr1 (And.intro hc1 (And.intro hr2 hc2)))))
 have HQ := Go.Lib.hid hq
 have HFA := Go.Lib.hid (And.intro hfa hent)
 clear hr0 hr1 hr2 hc0 hc1 hc2 hB0 hq hres he hfa hent
 go_enter Try.func64, Try.ntmps64
 go_wp2_with fail
 refine CB.mono ?_
 clear CB
 rintro e w1 ⟨rfl, hB1⟩
 have hW1 : Below w.heap.size w w1 := HB0.out.trans (hB1.mono HB0.out.size)
 have b1 : w1.heap[w.heap.size]? = some (.cells #[.slice A0 F.length c0, .slice A1 S.length c1, .slice A2 T.length c2] 26 (0, 0)) := by
  rw [hB1.block w.heap.size (by simp; omega)]
  exact (((Below.refl _ (w.alloc (.cells #[.slice A0 F.length c0, .slice A1 S.length c1, .slice A2 T.length c2] 26))).alloc (Nat.le_refl _) _).block w.heap.size (by simp)).trans (World.alloc_heap_new w _)
 have bS : w1.heap[w.heap.size + 1]? = some (.cells #[.slice none 0 0, .slice none 0 0, .slice none 0 0] 26 (0, 0)) := by
  rw [hB1.block (w.heap.size + 1) (by simp)]
  have := World.alloc_heap_new (w.alloc (.cells #[.slice A0 F.length c0, .slice A1 S.length c1, .slice A2 T.length c2] 26)) (.cells #[.slice none 0 0, .slice none 0 0, .slice none 0 0] 26)
  rwa [show (w.alloc (.cells #[.slice A0 F.length c0, .slice A1 S.length c1, .slice A2 T.length c2] 26)).heap.size = w.heap.size + 1 from by simp] at this
 have k0 := cell_of_heap b1 (j := 0) rfl
 have k1 := cell_of_heap b1 (j := 1) rfl
 have k2 := cell_of_heap b1 (j := 2) rfl
 have HW1 := Go.Lib.hid hW1
 have BX1 := Go.Lib.hid (And.intro b1 bS)
 clear hB1 b1 bS hW1
 by_cases hq0 : q = 0
 case neg =>
  have z0 := cell_of_heap BX1.out.2 (j := 0) rfl
  have z1 := cell_of_heap BX1.out.2 (j := 1) rfl
  have z2 := cell_of_heap BX1.out.2 (j := 2) rfl
  have y0 := blk_frozen BX1.out.2 0
  have y1 := blk_frozen BX1.out.2 1
  have y2 := blk_frozen BX1.out.2 2
  go_wp2_with fail
  refine bodyPost_ret (results_ct rfl _ _ (w.heap.size + 1) 26 #[.slice none 0 0, .slice none 0 0, .slice none 0 0] (0, 0) _ rfl (own_put3 BX1.out.2 _ _ _) Try.underlying26 rfl (by kernel_rfl)) rfl ?_
  have hz := HRES.out
  rw [if_neg hq0] at hz
  subst hz
  exact ⟨_, _, _, rfl, Kd.R_nil _ _ _ _ _, Kd.R_nil _ _ _ _ _, Kd.S_nil _ _ _ _ _, own_box3B HW1.out (Nat.le_succ _) _ _ _⟩
 case pos =>
  subst hq0
  obtain ⟨hcb, hfd, _⟩ := ask_parts HQ.out
  obtain ⟨hfd0, hfd1⟩ := hfd rfl
  have hk := bok_of_check hcb
  have hfd2 : find < (T.length : Int) := by rw [hk.nt]; exact hfd1
  have hnt := hk.nt
  have hnf := hk.nf
  have hns := hk.ns
  have hz := HRES.out
  rw [if_pos rfl] at hz
  have HRES1 := Go.Lib.hid hz
  clear HRES hz
  obtain ⟨KO, hKO⟩ := other_is (F := F) (S := S) (T := T) (by omega) (by omega) (by omega) (fun l hl => Nat.le_trans (rows_le hk l hl) (by decide))
  have HKO := Go.Lib.hid (hKO KO (Nat.le_refl _))
  have HK := Go.Lib.hid (And.intro hfd1 (And.intro hnt (And.intro hnf (hk.row find.toNat (by omega)))))
  clear hKO hk hnt hnf hns hcb hfd
  obtain ⟨a, Ar, cr, e2, hx, hlc, hC⟩ := rows_at (Kd.C_below HR.out.2.2.2.2.1 HW1.out) find hfd0 hfd2
  obtain ⟨row, hrw⟩ : ∃ row, T.getD find.toNat [] = row := ⟨_, rfl⟩
  rw [hrw] at hx hlc hC
  have hres2 := HRES1.out
  rw [hrw] at hres2
  have HRES2 := Go.Lib.hid hres2
  clear HRES1
  have HRW := Go.Lib.hid hrw
  have CC := contains_calls Ar cr row slot w1 hC hlc
  have e2' := e2
  clear hres2 hrw hC e2
  subst e2'
  go_wp2_with fail
  refine CC.mono ?_
  clear CC
  rintro e w2 ⟨rfl, hd⟩
  have hW2 := HW1.out.trans (hd.below.mono HW1.out.size)
  have b2 := (hd.below.block w.heap.size (Array.getElem?_eq_some_iff.1 BX1.out.1).1).trans BX1.out.1
  have bS2 := (hd.below.block (w.heap.size + 1) (Array.getElem?_eq_some_iff.1 BX1.out.2).1).trans BX1.out.2
  have k0 := cell_of_heap b2 (j := 0) rfl
  have k1 := cell_of_heap b2 (j := 1) rfl
  have k2 := cell_of_heap b2 (j := 2) rfl
  have HW2 := Go.Lib.hid hW2
  have BX2 := Go.Lib.hid bS2
  clear hW2 b2 bS2 hd hx hlc HW1 BX1
  by_cases hin : slot ∈ row
  case neg =>
   rw [decide_eq_false hin]
   have z0 := cell_of_heap BX2.out (j := 0) rfl
   have z1 := cell_of_heap BX2.out (j := 1) rfl
   have z2 := cell_of_heap BX2.out (j := 2) rfl
   have y0 := blk_frozen BX2.out 0
   have y1 := blk_frozen BX2.out 1
   have y2 := blk_frozen BX2.out 2
   go_wp2_with fail
   refine bodyPost_ret (results_ct rfl _ _ (w.heap.size + 1) 26 #[.slice none 0 0, .slice none 0 0, .slice none 0 0] (0, 0) _ rfl (own_put3 BX2.out _ _ _) Try.underlying26 rfl (by kernel_rfl)) rfl ?_
   have hz := HRES2.out
   rw [if_neg hin] at hz
   subst hz
   exact ⟨_, _, _, rfl, Kd.R_nil _ _ _ _ _, Kd.R_nil _ _ _ _ _, Kd.S_nil _ _ _ _ _, own_box3B HW2.out (Nat.le_succ _) _ _ _⟩
  case pos =>
  rw [decide_eq_true hin]
  have hz := HRES2.out
  rw [if_pos hin] at hz
  have HRES3 := Go.Lib.hid hz
  have hrp : 0 < row.length := List.length_pos_of_mem hin
  clear hz hin HRES2
  have CC := match_other.calls KO A0 c0 F A1 c1 S (some a) c2 T _ _ _ w2 (Kd.C_below HR.out.1 HW2.out) HR.out.2.1 (Kd.C_below HR.out.2.2.1 HW2.out) HR.out.2.2.2.1 (Kd.C_below HR.out.2.2.2.2.1 HW2.out) HR.out.2.2.2.2.2 HKO.out
  go_wp2_with fail
  refine CC.mono ?_
  clear CC
  rintro e w3 ⟨v0, v1, v2, rfl, r0, r1, r2, hb3⟩
  obtain ⟨B0, d0, rfl⟩ := Kd.R_slice r0
  obtain ⟨B1, d1, rfl⟩ := Kd.R_slice r1
  obtain ⟨g2, d2, e2, gb2, gl2, cl2, HG2⟩ := Kd.S_form r2 (by omega)
  obtain ⟨B2, rfl⟩ : ∃ B2, v2 = .slice B2 T.length d2 := ⟨_, e2⟩
  obtain rfl : B2 = some ⟨g2, 0, none⟩ := by injection e2
  clear e2 gb2 gl2 cl2 HG2 k0 k1 k2
  have hW3 := HW2.out.trans (hb3.mono HW2.out.size)
  have bS3 := (hb3.block (w.heap.size + 1) (Array.getElem?_eq_some_iff.1 BX2.out).1).trans BX2.out
  have HR3 := Go.Lib.hid (And.intro (Kd.R_lower r0 HW2.out.size) (And.intro (Kd.R_lower r1 HW2.out.size) (Kd.S_lower r2 HW2.out.size)))
  have HW3 := Go.Lib.hid hW3
  have BX3 := Go.Lib.hid bS3
  clear r0 r1 r2 hb3 hW3 bS3 HW2 BX2 HKO
  go_wp2_with fail
  obtain ⟨g3, hg3⟩ : ∃ g3, w3.heap.size = g3 := ⟨_, rfl⟩
  rw [hg3]
  obtain ⟨W3, hW3⟩ : ∃ W3, w3.alloc (.cells #[.slice B0 F.length d0, .slice B1 S.length d1, .slice (some ⟨g2, 0, none⟩) T.length d2] 26) = W3 := ⟨_, rfl⟩
  rw [hW3]
  have b3 : W3.heap[g3]? = some (.cells #[.slice B0 F.length d0, .slice B1 S.length d1, .slice (some ⟨g2, 0, none⟩) T.length d2] 26 (0, 0)) := by
   rw [← hW3, ← hg3]; exact World.alloc_heap_new w3 _
  have hs3 : w.heap.size ≤ W3.heap.size := by rw [← hW3]; exact Nat.le_trans HW3.out.size (by simp)
  have h0 : Kd.R (Kd.int .i64) 3 W3 w.heap.size (fun _ => True) (.slice B0 F.length d0) F := by
   rw [← hW3]; apply Kd.R_alloc; exact HR3.out.1
  have h1 : Kd.R k50 50 W3 w.heap.size (fun _ => True) (.slice B1 S.length d1) S := by
   rw [← hW3]; apply Kd.R_alloc; exact HR3.out.2.1
  have h2 : Kd.S (Kd.slice 3 (Kd.int .i64)) 22 W3 w.heap.size (fun k_ => some k_ ≠ (Value.slice B0 F.length d0).ownBlock) (.slice (some ⟨g2, 0, none⟩) T.length d2) T := by
   rw [← hW3]; apply Kd.S_alloc; exact HR3.out.2.2
  have hn2 : g2 ≠ g3 := by
   have hb := Kd.S_lt HR3.out.2.2 g2 rfl
   omega
  have hbw3 : Below w.heap.size w W3 := by rw [← hW3]; exact HW3.out.alloc HW3.out.size _
  have hg3s : w.heap.size ≤ g3 := by rw [← hg3]; exact HW3.out.size
  have hbs3 : W3.heap[w.heap.size + 1]? = some (.cells #[.slice none 0 0, .slice none 0 0, .slice none 0 0] 26 (0, 0)) := by
   rw [← hW3]; exact (((Below.refl w3.heap.size w3).alloc (Nat.le_refl _) _).block _ (Array.getElem?_eq_some_iff.1 BX3.out).1).trans BX3.out
  have hgs : g3 ≠ w.heap.size + 1 := by
   have := (Array.getElem?_eq_some_iff.1 BX3.out).1
   omega
  have hty2 := ks_block h2 (by have := HK.out.2.1; omega)
  have hr2 : g2 ≠ w.heap.size + 1 := fun e => by
   obtain ⟨cc, hh⟩ := hty2
   rw [e, hbs3] at hh
   injection hh with hh
   injection hh with _ h26
   exact absurd h26 (by decide)
  obtain ⟨oki, ce, hcl, hM, hcc, hfr, hoki, hH⟩ := Kd.S_elem (Kd.S_bound (Kd.S_drew h2)) [] find hfd0 hfd2
  obtain ⟨ur, rfl, hU⟩ : ∃ ur, ce = [ur] ∧ Kd.R (Kd.int .i64) 3 W3.drew w.heap.size oki ur (T.getD find.toNat []) := hM
  rw [HRW.out] at hU
  obtain ⟨Bu, du, rfl⟩ := Kd.R_slice hU
  obtain ⟨gu, du', eu, _, hgul, _⟩ := Kd.R_form hU hrp
  obtain rfl : Bu = some ⟨gu, 0, none⟩ := by injection eu
  obtain rfl : du = du' := by injection eu
  clear eu
  have hcu : W3.drew.cell? ⟨g2, find.toNat, none⟩ = some (.slice (some ⟨gu, 0, none⟩) row.length du) := by
   have := hcc 0 _ rfl
   simpa [Kd.slice] using this
  have hgu2 : gu ≠ g2 := (hoki gu (hU.1 gu rfl)).2
  have hgu0 : some gu ≠ (Value.slice B0 F.length d0).ownBlock := (hoki gu (hU.1 gu rfl)).1.1
  have hM1 : ∀ k, k < W3.heap.size → some k ≠ (Value.slice B0 F.length d0).ownBlock → True := fun _ _ _ => trivial
  have H3 := Go.Lib.hid (And.intro h0 (And.intro h1 (And.intro hs3 (And.intro hbw3 (And.intro hbs3 (And.intro b3 (And.intro (Kd.S_lt h2 g2 rfl) hty2)))))))
  have HN := Go.Lib.hid (And.intro hn2 (And.intro hg3s (And.intro hgs (And.intro hr2 (And.intro hgu2 hgu0)))))
  have HH := Go.Lib.hid (And.intro hU (And.intro hH (And.intro hoki hfr)))
  have HC := Go.Lib.hid hcu
  clear hW3 hg3 b3 hs3 h0 h1 h2 hn2 hbw3 hg3s hbs3 hgs hr2 hty2 BX3 HW3 HR3 hcl hcc hfr hoki hH hU hgul hgu2 hgu0 hM1 hcu
  have t1 : 0 + find.toNat = find.toNat := Nat.zero_add _
  refine start_ (n := 12) (S := fun w' => w'.heap[g3]? = some (.cells #[.slice B0 F.length d0, .slice B1 S.length d1, .slice (some ⟨g2, 0, none⟩) T.length d2] 26 (0, 0)) ∧ w'.cell? ⟨g2, find.toNat, none⟩ = some (.slice (some ⟨gu, 0, none⟩) row.length du)) (ds := [11]) #[false, false, false, false, false, false, false, false, false, false, false, false] (by kernel_rfl) rfl rfl ⟨H3.out.2.2.2.2.2.1, HC.out⟩ (fun hHeld => ?_); refine with_tabW fitted_tab7 fitted_bits7 (fun HT_ HW_ => ?_)
  have H4 := Go.Lib.hid (And.intro (Kd.R_drew H3.out.1) (And.intro (Kd.R_drew H3.out.2.1) (And.intro (show w.heap.size ≤ W3.drew.heap.size from H3.out.2.2.1) (And.intro (below_drew1 H3.out.2.2.2.1) (And.intro (show W3.drew.heap[w.heap.size + 1]? = _ from H3.out.2.2.2.2.1) (And.intro (show g2 < W3.drew.heap.size from H3.out.2.2.2.2.2.2.1) (show ∃ cells, W3.drew.heap[g2]? = some (.cells cells 22 (0, 0)) from H3.out.2.2.2.2.2.2.2)))))))
  clear H3 HC
  generalize W3.drew = W4 at H4 HH hHeld ⊢
  refine pure_ (i := 0) (N := some 31) (v := ?_) (a' := ?_) #[true, false, false, false, false, false, false, false, false, false, false, false] rfl rfl (any_of HT_.out (by kernel_rfl)) (fun _ _ _ h => h) (Or.inl ⟨by rfl, ?_⟩) ?_ ?_
  rotate_left
  ·
   intro w'
   go_simp
   with_reducible rfl
  rotate_left
  ·
   simp only [Act.put, List.setIfInBounds_toArray, List.set_cons_zero, List.set_cons_succ]
   rfl
  refine pure_ (i := 2) (N := some 33) (v := ?_) (a' := ?_) #[true, false, true, false, false, false, false, false, false, false, false, false] rfl rfl (any_of HT_.out (by kernel_rfl)) (fun _ _ _ h => h) (Or.inl ⟨by rfl, ?_⟩) ?_ ?_
  rotate_left
  ·
   intro w'
   go_simp
   with_reducible rfl
  rotate_left
  ·
   simp only [Act.put, List.setIfInBounds_toArray, List.set_cons_zero, List.set_cons_succ]
   rfl
  refine pure_ (i := 3) (N := some 34) (v := ?_) (a' := ?_) #[true, false, true, true, false, false, false, false, false, false, false, false] rfl rfl (any_of HT_.out (by kernel_rfl)) (fun _ _ _ h => h) (Or.inl ⟨by rfl, ?_⟩) ?_ ?_
  rotate_left
  ·
   intro w'
   go_simp
   with_reducible rfl
  rotate_left
  ·
   simp only [Act.put, List.setIfInBounds_toArray, List.set_cons_zero, List.set_cons_succ]
   rfl
  refine pure_ (i := 4) (N := some 35) (v := ?_) (a' := ?_) #[true, false, true, true, true, false, false, false, false, false, false, false] rfl rfl (any_of HT_.out (by kernel_rfl)) (fun _ _ _ h => h) (Or.inl ⟨by rfl, ?_⟩) ?_ ?_
  rotate_left
  ·
   intro w'
   go_simp
   with_reducible rfl
  rotate_left
  ·
   simp only [Act.put, List.setIfInBounds_toArray, List.set_cons_zero, List.set_cons_succ]
   rfl
  refine pure_ (i := 6) (N := some 37) (v := ?_) (a' := ?_) #[true, false, true, true, true, false, true, false, false, false, false, false] rfl rfl (any_of HT_.out (by kernel_rfl)) (fun _ _ _ h => h) (Or.inl ⟨by rfl, ?_⟩) ?_ ?_
  rotate_left
  ·
   intro w'
   go_simp
   with_reducible rfl
  rotate_left
  ·
   simp only [Act.put, List.setIfInBounds_toArray, List.set_cons_zero, List.set_cons_succ]
   rfl
  refine take_ (i := 1) (N := some 32) (v := ?_) (a' := ?_) #[true, true, true, true, true, false, true, false, false, false, false, false] rfl rfl (take_ofW HT_.out HW_.out (by kernel_rfl)) (fun _ _ _ h => h) (Or.inl ⟨by rfl, ?_⟩) hHeld ?_ ?_
  rotate_left
  ·
   intro w' hs_
   have s2 := (blk_cell hs_.1 2).trans rfl
   have s3 := hs_.2
   go_simp
   with_reducible rfl
  rotate_left
  ·
   simp only [Act.put, List.setIfInBounds_toArray, List.set_cons_zero, List.set_cons_succ]
   rfl
  refine take_ (i := 5) (N := some 36) (v := ?_) (a' := ?_) #[true, true, true, true, true, true, true, false, false, false, false, false] rfl rfl (take_ofW HT_.out HW_.out (by kernel_rfl)) (fun _ _ _ h => h) (Or.inl ⟨by rfl, ?_⟩) hHeld ?_ ?_
  rotate_left
  ·
   intro w' hs_
   have s2 := (blk_cell hs_.1 2).trans rfl
   have s3 := hs_.2
   go_simp
   with_reducible rfl
  rotate_left
  ·
   simp only [Act.put, List.setIfInBounds_toArray, List.set_cons_zero, List.set_cons_succ]
   rfl
  refine pure_ (i := 7) (N := some 38) (v := ?_) (a' := ?_) #[true, true, true, true, true, true, true, true, false, false, false, false] rfl rfl (any_of HT_.out (by kernel_rfl)) (fun _ _ _ h => h) (Or.inl ⟨by rfl, ?_⟩) ?_ ?_
  rotate_left
  ·
   intro w'
   go_simp
   with_reducible rfl
  rotate_left
  ·
   simp only [Act.put, List.setIfInBounds_toArray, List.set_cons_zero, List.set_cons_succ]
   rfl
  refine take_ (i := 8) (N := some 39) (v := ?_) (a' := ?_) #[true, true, true, true, true, true, true, true, true, false, false, false] rfl rfl (take_ofW HT_.out HW_.out (by kernel_rfl)) (fun _ _ _ h => h) (Or.inl ⟨by rfl, ?_⟩) hHeld ?_ ?_
  rotate_left
  ·
   intro w' hs_
   have s2 := (blk_cell hs_.1 2).trans rfl
   have s3 := hs_.2
   go_simp
   with_reducible rfl
  rotate_left
  ·
   simp only [Act.put, List.setIfInBounds_toArray, List.set_cons_zero, List.set_cons_succ]
   rfl
  refine one_ (i := 9) (N := some 40) #[true, true, true, true, true, true, true, true, true, true, false, false] rfl rfl (one_of HT_.out (by kernel_rfl)) (by decide) (fun K hK => ?_)
  refine goesv_ HFA.out.2 #[.slice (some ⟨gu, 0, none⟩) row.length du] (by rfl) rfl rfl rfl (by (try simp only [List.map_toArray, List.map_cons, List.map_nil]); first | done | rfl) ?_
  refine (HFA.out.1 W4 oki gu du row H4.out.2.2.2.1 HH.out.1 (by rw [← HRW.out]; exact HK.out.2.2.2)).mono ?_
  rintro e w5 ⟨v5, rfl, hG5, hR5⟩
  obtain ⟨row5, hrow5⟩ : ∃ row5, fl row = row5 := ⟨_, rfl⟩
  rw [hrow5] at hR5
  obtain ⟨B5, d5, rfl⟩ := Kd.R_slice hR5
  refine ⟨_, rfl, ?_⟩
  have hGs : ∀ k, k < W4.heap.size → k ≠ gu → w5.heap[k]? = W4.heap[k]? := fun k hk hne => hG5.block k hk (fun e => hne (Option.some.inj e))
  have ht4 := kd_block HH.out.1 hrp
  have hu3 : g3 ≠ gu := fun e => by
   obtain ⟨cc, hh⟩ := ht4
   rw [← e, hHeld.1] at hh
   injection hh with hh
   injection hh with _ h26
   exact absurd h26 (by decide)
  have huR : w.heap.size + 1 ≠ gu := fun e => by
   obtain ⟨cc, hh⟩ := ht4
   rw [← e, H4.out.2.2.2.2.1] at hh
   injection hh with hh
   injection hh with _ h26
   exact absurd h26 (by decide)
  have hg2l : g2 < W4.heap.size := by
   exact H4.out.2.2.2.2.2.1
  have hH5 : w5.heap[g3]? = some (.cells #[.slice B0 F.length d0, .slice B1 S.length d1, .slice (some ⟨g2, 0, none⟩) T.length d2] 26 (0, 0)) ∧ w5.cell? ⟨g2, find.toNat, none⟩ = some (.slice (some ⟨gu, 0, none⟩) row.length du) :=
   ⟨(hGs g3 (blk_lt hHeld.1) hu3).trans hHeld.1, (hG5.cell_far ⟨g2, find.toNat, none⟩ hg2l (fun e => HN.out.2.2.2.2.1 (Option.some.inj e).symm)).trans hHeld.2⟩
  have hX5 := (hGs _ (blk_lt H4.out.2.2.2.2.1) huR).trans H4.out.2.2.2.2.1
  have hP5 := Kd.R_grown1 H4.out.1 rfl hG5 HN.out.2.2.2.2.2
  have hQ5 := Kd.R_over' H4.out.2.1 (v := .slice (some ⟨gu, 0, none⟩) row.length du) (e' := 3) (fun k hk => by obtain rfl : gu = k := Option.some.inj hk; exact ht4) (by decide) hG5
  have hB5 : Below w.heap.size w w5 := H4.out.2.2.2.1.grown hG5 H4.out.2.2.1 (fun k hk => by obtain rfl : gu = k := Option.some.inj hk; exact Kd.R_base HH.out.1 gu rfl)
  have hfz5 : w5.frozen? ⟨g2, find.toNat, none⟩ = false := (hG5.frozen_far ⟨g2, find.toNat, none⟩ hg2l (fun e => HN.out.2.2.2.2.1 (Option.some.inj e).symm)).trans (by have := HH.out.2.2.2 0; simpa [Kd.slice] using this)
  have hn0 : ∀ k, (Value.slice B0 F.length d0).ownBlock = some k → k < W4.heap.size := fun k hk => own_lt (Kd.own_of_R H4.out.1) k hk
  have hSH := Kd.H_mono (ok' := fun k => (fun k_ => some k_ ≠ (Value.slice B0 F.length d0).ownBlock) k ∧ ¬ W4.heap.size ≤ k) (Kd.H_grown HH.out.2.1 hG5 (fun k hk => by obtain rfl : gu = k := Option.some.inj hk; exact HH.out.1.1 gu rfl)) (fun k hk => ⟨hk.1, by have := hk.2.2.1; exact fun h => absurd (show k < W4.heap.size from this) (by omega)⟩)
  have hS6 := Kd.S_seg hSH hfd0 hfd2 (seg := [.slice B5 row5.length d5]) (j := 0) (show 1 ≤ 1 from by decide) (x' := row5) (Kd.M_row hR5) (fun _ hk => hk) (fun k hk => ⟨fun e => by have := hn0 k e.symm; omega, by omega⟩)
  have hS6b := hS6
  rw [show w5.setCells g2 (find.toNat * (Kd.slice 3 (Kd.int .i64)).sz + 0) [.slice B5 row5.length d5] = w5.setCell ⟨g2, find.toNat, none⟩ (.slice B5 row5.length d5) from by show w5.setCell ⟨g2, find.toNat * 1 + 0, none⟩ _ = _; rw [Nat.mul_one, Nat.add_zero]] at hS6b
  have hy2 : ∃ cells, w5.heap[g2]? = some (.cells cells 22 (0, 0)) := by
   obtain ⟨cc, hh⟩ := H4.out.2.2.2.2.2.2
   exact ⟨cc, (hGs g2 hg2l (Ne.symm HN.out.2.2.2.2.1)).trans hh⟩
  have H5 := Go.Lib.hid (And.intro hS6b (And.intro hP5 (And.intro hQ5 (And.intro hB5 hX5))))
  have HY := Go.Lib.hid (And.intro hy2 hrow5)
  clear hS6 hS6b hP5 hQ5 hB5 hX5 hSH hR5 hn0 hGs ht4 hu3 huR hG5 hg2l H4 HH HFA hy2 hrow5
  refine hK.out _ _ hH5 (fun hHeld => ?_)
  clear hK K hH5
  refine norm_ (a' := ?_) ?_ ?_
  rotate_left
  ·
   show Act.put _ (some 40) _ = _
   simp only [Act.put, List.setIfInBounds_toArray, List.set_cons_zero, List.set_cons_succ]
   rfl
  refine pure_ (i := 10) (N := some 41) (v := ?_) (a' := ?_) #[true, true, true, true, true, true, true, true, true, true, true, false] rfl rfl (any_of HT_.out (by kernel_rfl)) (fun _ _ _ h => h) (Or.inl ⟨by rfl, ?_⟩) ?_ ?_
  rotate_left
  ·
   intro w'
   go_simp
   with_reducible rfl
  rotate_left
  ·
   simp only [Act.put, List.setIfInBounds_toArray, List.set_cons_zero, List.set_cons_succ]
   rfl
  refine last_ (i := 11) (N := none) #[true, true, true, true, true, true, true, true, true, true, true, true] rfl rfl (one_of HT_.out (by kernel_rfl)) (by decide) (fun K hK => ?_)
  have hs_ := hHeld.2
  refine skip_ (w1 := ?_) (by rfl) rfl ?_ ?_
  rotate_left
  ·
   go_simp
   rfl
  refine hK.out _ _ ?_
  clear hK K hs_
  have hHeld6 := blk_far hHeld.1 (p := ⟨g2, find.toNat, none⟩) (Ne.symm HN.out.1) (.slice B5 row5.length d5)
  have hX6 := blk_far H5.out.2.2.2.2 (p := ⟨g2, find.toNat, none⟩) (Ne.symm HN.out.2.2.2.1) (.slice B5 row5.length d5)
  have hP6 := Kd.R_grown1 H5.out.2.1 rfl H5.out.1.2 (H5.out.1.1.choose_spec.1 g2 rfl)
  have hQ6 := Kd.R_over' H5.out.2.2.1 (v := .slice (some ⟨g2, 0, none⟩) T.length d2) (e' := 22) (fun k hk => by obtain rfl : g2 = k := Option.some.inj hk; exact HY.out.1) (by decide) H5.out.1.2
  have hB6 := setCell_below H5.out.2.2.2.1 (p := ⟨g2, find.toNat, none⟩) (Kd.S_base H5.out.1.1 g2 rfl) (.slice B5 row5.length d5)
  have H6 := Go.Lib.hid (And.intro H5.out.1.1 (And.intro hP6 (And.intro hQ6 (And.intro hB6 hX6))))
  have HROW := Go.Lib.hid HY.out.2
  clear H5 hP6 hQ6 hB6 hX6 hHeld HY
  generalize w5.setCell ⟨g2, find.toNat, none⟩ (.slice B5 row5.length d5) = w6 at H6 hHeld6 ⊢
  refine done_ (done_of HT_.out (by kernel_rfl)) ?_
  have q0 := (blk_cell hHeld6 0).trans rfl
  have q1 := (blk_cell hHeld6 1).trans rfl
  have q2 := (blk_cell hHeld6 2).trans rfl
  have z0 := (blk_cell H6.out.2.2.2.2 0).trans rfl
  have z1 := (blk_cell H6.out.2.2.2.2 1).trans rfl
  have z2 := (blk_cell H6.out.2.2.2.2 2).trans rfl
  have y0 := blk_frozen H6.out.2.2.2.2 0
  have y1 := blk_frozen H6.out.2.2.2.2 1
  have y2 := blk_frozen H6.out.2.2.2.2 2
  go_wp2_with fail
  refine bodyPost_ret (results_ct rfl _ _ (w.heap.size + 1) 26 #[.slice B0 F.length d0, .slice B1 S.length d1, .slice (some ⟨g2, 0, none⟩) T.length d2] (0, 0) _ rfl (own_put3 H6.out.2.2.2.2 _ _ _) Try.underlying26 rfl (by kernel_rfl)) rfl ?_
  have hz := HRES3.out
  rw [HROW.out] at hz
  subst hz
  exact ⟨_, _, _, rfl, own_box3R H6.out.2.1 H6.out.2.2.2.2 (by decide) _ _ _, own_box3R H6.out.2.2.1 H6.out.2.2.2.2 (by decide) _ _ _, own_box3S H6.out.1 H6.out.2.2.2.2 (by decide) _ _ _, own_box3B H6.out.2.2.2.1 (Nat.le_succ _) _ _ _⟩
end Go.Proofs.Ytkmmihadcbfkoaa
end

section
namespace Go.Proofs.Ytkmmihadcbfkoaa
open Go.RowKit Go.Proofs.YtkmmihadcbfkoaaW.PrintWords PM
set_option linter.unusedVariables false
set_option linter.unusedSimpArgs false
set_option maxRecDepth 100000 in
set_option maxHeartbeats 8000000 in
theorem barred_calls (A0 : Option Addr) (c0 : Nat) (F : List Int) (A1 : Option Addr) (c1 : Nat) (S : List S50) (A2 : Option Addr) (c2 : Nat) (T : List (List Int)) (find slot : Int) (w : World)
  (hr0 : Kd.C (Kd.int .i64) w A0 F.length F) (hc0 : F.length ≤ c0) (hr1 : Kd.C k50 w A1 S.length S) (hc1 : S.length ≤ c1) (hr2 : Kd.C (Kd.slice 3 (Kd.int .i64)) w A2 T.length T) (hc2 : T.length ≤ c2) :
  Calls Try.prog 43 #[.agg #[.slice A0 F.length c0, .slice A1 S.length c1, .slice A2 T.length c2], .int .i64 find, .int .i64 slot] w fun e w' => OwnPost (barredP F S T find slot) w e w' := by
 have hBa := (Below.refl w.heap.size w).alloc (Nat.le_refl _) (.cells #[.slice A0 F.length c0, .slice A1 S.length c1, .slice A2 T.length c2] 26)
 have hBb := hBa.alloc (by simp) (.cells #[.int .i64 slot] 3)
 have hB0 := hBb.alloc (by simp; omega) (.cells #[.slice none 0 0, .slice none 0 0, .slice none 0 0] 26)
 have hcell : (((w.alloc (.cells #[.slice A0 F.length c0, .slice A1 S.length c1, .slice A2 T.length c2] 26)).alloc (.cells #[.int .i64 slot] 3)).alloc (.cells #[.slice none 0 0, .slice none 0 0, .slice none 0 0] 26)).cell? ⟨w.heap.size + 1, 0, none⟩ = some (.int .i64 slot) := by
  refine cell_of_heap (t := 3) (cs := #[.int .i64 slot]) (fr := (0, 0)) ?_ rfl
  refine (((Below.refl _ _).alloc (Nat.le_refl _) _).block (w.heap.size + 1) (by simp)).trans ?_
  have := World.alloc_heap_new (w.alloc (.cells #[.slice A0 F.length c0, .slice A1 S.length c1, .slice A2 T.length c2] 26)) (.cells #[.int .i64 slot] 3)
  rwa [show (w.alloc (.cells #[.slice A0 F.length c0, .slice A1 S.length c1, .slice A2 T.length c2] 26)).heap.size = w.heap.size + 1 from by simp] at this
 have hbS : (((w.alloc (.cells #[.slice A0 F.length c0, .slice A1 S.length c1, .slice A2 T.length c2] 26)).alloc (.cells #[.int .i64 slot] 3)).alloc (.cells #[.slice none 0 0, .slice none 0 0, .slice none 0 0] 26)).heap[w.heap.size + 2]? = some (.cells #[.slice none 0 0, .slice none 0 0, .slice none 0 0] 26 (0, 0)) := by
  have := World.alloc_heap_new ((w.alloc (.cells #[.slice A0 F.length c0, .slice A1 S.length c1, .slice A2 T.length c2] 26)).alloc (.cells #[.int .i64 slot] 3)) (.cells #[.slice none 0 0, .slice none 0 0, .slice none 0 0] 26)
  rwa [show ((w.alloc (.cells #[.slice A0 F.length c0, .slice A1 S.length c1, .slice A2 T.length c2] 26)).alloc (.cells #[.int .i64 slot] 3)).heap.size = w.heap.size + 2 from by simp] at this
 have CF := fitted_calls A0 c0 F A1 c1 S A2 c2 T find slot 79 #[.pointer (some ⟨w.heap.size + 1, 0, none⟩)] (fun l => l.filter (fun s => decide (s ≠ slot))) _ (Kd.C_below hr0 hB0) hc0 (Kd.C_below hr1 hB0) hc1 (Kd.C_below hr2 hB0) hc2
  (fits79 slot (w.heap.size + 1) _ (by simp) hcell) (enters_of Try.func79 (by kernel_rfl) rfl)
 have hsz : (((w.alloc (.cells #[.slice A0 F.length c0, .slice A1 S.length c1, .slice A2 T.length c2] 26)).alloc (.cells #[.int .i64 slot] 3)).alloc (.cells #[.slice none 0 0, .slice none 0 0, .slice none 0 0] 26)).heap.size = w.heap.size + 3 := by simp
 obtain ⟨res, he⟩ : ∃ res, barredP F S T find slot = res := ⟨_, rfl⟩
 rw [he]
 rw [show fittedP F S T find slot (fun l => l.filter (fun s => decide (s ≠ slot))) = res from he] at CF
 have HB := Go.Lib.hid (And.intro hB0 (And.intro hbS hsz))
 clear hr0 hr1 hr2 hc0 hc1 hc2 hB0 hBa hBb hcell hbS hsz he
 go_enter Try.func43, Try.ntmps43
 go_wp2_with fail
 refine CF.mono ?_
 clear CF
 rintro e w1 ⟨v0, v1, v2, rfl, r0, r1, r2, hb⟩
 obtain ⟨B0, d0, rfl⟩ := Kd.R_slice r0
 obtain ⟨B1, d1, rfl⟩ := Kd.R_slice r1
 obtain ⟨B2, d2, rfl⟩ := Kd.S_slice r2
 have hw1 := HB.out.1.trans (hb.mono HB.out.1.size)
 have hbS := (hb.block (w.heap.size + 2) (by rw [HB.out.2.2]; omega)).trans HB.out.2.1
 have hle : w.heap.size ≤ (((w.alloc (.cells #[.slice A0 F.length c0, .slice A1 S.length c1, .slice A2 T.length c2] 26)).alloc (.cells #[.int .i64 slot] 3)).alloc (.cells #[.slice none 0 0, .slice none 0 0, .slice none 0 0] 26)).heap.size := HB.out.1.size
 have H1 := Go.Lib.hid (And.intro (Kd.R_lower r0 hle) (And.intro (Kd.R_lower r1 hle) (And.intro (Kd.S_lower r2 hle) (And.intro hw1 hbS))))
 clear r0 r1 r2 hb hw1 hbS hle HB
 have z0 := cell_of_heap H1.out.2.2.2.2 (j := 0) rfl
 have z1 := cell_of_heap H1.out.2.2.2.2 (j := 1) rfl
 have z2 := cell_of_heap H1.out.2.2.2.2 (j := 2) rfl
 have y0 := blk_frozen H1.out.2.2.2.2 0
 have y1 := blk_frozen H1.out.2.2.2.2 1
 have y2 := blk_frozen H1.out.2.2.2.2 2
 go_wp2_with fail
 refine bodyPost_ret (results_ct rfl _ _ (w.heap.size + 2) 26 #[.slice B0 res.1.length d0, .slice B1 res.2.1.length d1, .slice B2 res.2.2.1.length d2] (0, 0) _ rfl (own_put3 H1.out.2.2.2.2 _ _ _) Try.underlying26 rfl (by kernel_rfl)) rfl ?_
 exact ⟨_, _, _, rfl, own_box3R H1.out.1 H1.out.2.2.2.2 (by decide) _ _ _, own_box3R H1.out.2.1 H1.out.2.2.2.2 (by decide) _ _ _, own_box3S H1.out.2.2.1 H1.out.2.2.2.2 (by decide) _ _ _, own_box3B H1.out.2.2.2.1 (by omega) _ _ _⟩
set_option maxRecDepth 100000 in
set_option maxHeartbeats 8000000 in
theorem fixed_calls (A0 : Option Addr) (c0 : Nat) (F : List Int) (A1 : Option Addr) (c1 : Nat) (S : List S50) (A2 : Option Addr) (c2 : Nat) (T : List (List Int)) (find slot : Int) (w : World)
  (hr0 : Kd.C (Kd.int .i64) w A0 F.length F) (hc0 : F.length ≤ c0) (hr1 : Kd.C k50 w A1 S.length S) (hc1 : S.length ≤ c1) (hr2 : Kd.C (Kd.slice 3 (Kd.int .i64)) w A2 T.length T) (hc2 : T.length ≤ c2) :
  Calls Try.prog 27 #[.agg #[.slice A0 F.length c0, .slice A1 S.length c1, .slice A2 T.length c2], .int .i64 find, .int .i64 slot] w fun e w' => OwnPost (fixedP F S T find slot) w e w' := by
 have hBa := (Below.refl w.heap.size w).alloc (Nat.le_refl _) (.cells #[.slice A0 F.length c0, .slice A1 S.length c1, .slice A2 T.length c2] 26)
 have hBb := hBa.alloc (by simp) (.cells #[.int .i64 slot] 3)
 have hB0 := hBb.alloc (by simp; omega) (.cells #[.slice none 0 0, .slice none 0 0, .slice none 0 0] 26)
 have hcell : (((w.alloc (.cells #[.slice A0 F.length c0, .slice A1 S.length c1, .slice A2 T.length c2] 26)).alloc (.cells #[.int .i64 slot] 3)).alloc (.cells #[.slice none 0 0, .slice none 0 0, .slice none 0 0] 26)).cell? ⟨w.heap.size + 1, 0, none⟩ = some (.int .i64 slot) := by
  refine cell_of_heap (t := 3) (cs := #[.int .i64 slot]) (fr := (0, 0)) ?_ rfl
  refine (((Below.refl _ _).alloc (Nat.le_refl _) _).block (w.heap.size + 1) (by simp)).trans ?_
  have := World.alloc_heap_new (w.alloc (.cells #[.slice A0 F.length c0, .slice A1 S.length c1, .slice A2 T.length c2] 26)) (.cells #[.int .i64 slot] 3)
  rwa [show (w.alloc (.cells #[.slice A0 F.length c0, .slice A1 S.length c1, .slice A2 T.length c2] 26)).heap.size = w.heap.size + 1 from by simp] at this
 have hbS : (((w.alloc (.cells #[.slice A0 F.length c0, .slice A1 S.length c1, .slice A2 T.length c2] 26)).alloc (.cells #[.int .i64 slot] 3)).alloc (.cells #[.slice none 0 0, .slice none 0 0, .slice none 0 0] 26)).heap[w.heap.size + 2]? = some (.cells #[.slice none 0 0, .slice none 0 0, .slice none 0 0] 26 (0, 0)) := by
  have := World.alloc_heap_new ((w.alloc (.cells #[.slice A0 F.length c0, .slice A1 S.length c1, .slice A2 T.length c2] 26)).alloc (.cells #[.int .i64 slot] 3)) (.cells #[.slice none 0 0, .slice none 0 0, .slice none 0 0] 26)
  rwa [show ((w.alloc (.cells #[.slice A0 F.length c0, .slice A1 S.length c1, .slice A2 T.length c2] 26)).alloc (.cells #[.int .i64 slot] 3)).heap.size = w.heap.size + 2 from by simp] at this
 have CF := fitted_calls A0 c0 F A1 c1 S A2 c2 T find slot 65 #[.pointer (some ⟨w.heap.size + 1, 0, none⟩)] (fun _ => [slot]) _ (Kd.C_below hr0 hB0) hc0 (Kd.C_below hr1 hB0) hc1 (Kd.C_below hr2 hB0) hc2
  (fits65 slot (w.heap.size + 1) _ (by simp) hcell) (enters_of Try.func65 (by kernel_rfl) rfl)
 have hsz : (((w.alloc (.cells #[.slice A0 F.length c0, .slice A1 S.length c1, .slice A2 T.length c2] 26)).alloc (.cells #[.int .i64 slot] 3)).alloc (.cells #[.slice none 0 0, .slice none 0 0, .slice none 0 0] 26)).heap.size = w.heap.size + 3 := by simp
 obtain ⟨res, he⟩ : ∃ res, fixedP F S T find slot = res := ⟨_, rfl⟩
 rw [he]
 rw [show fittedP F S T find slot (fun _ => [slot]) = res from he] at CF
 have HB := Go.Lib.hid (And.intro hB0 (And.intro hbS hsz))
 clear hr0 hr1 hr2 hc0 hc1 hc2 hB0 hBa hBb hcell hbS hsz he
 go_enter Try.func27, Try.ntmps27
 go_wp2_with fail
 refine CF.mono ?_
 clear CF
 rintro e w1 ⟨v0, v1, v2, rfl, r0, r1, r2, hb⟩
 obtain ⟨B0, d0, rfl⟩ := Kd.R_slice r0
 obtain ⟨B1, d1, rfl⟩ := Kd.R_slice r1
 obtain ⟨B2, d2, rfl⟩ := Kd.S_slice r2
 have hw1 := HB.out.1.trans (hb.mono HB.out.1.size)
 have hbS := (hb.block (w.heap.size + 2) (by rw [HB.out.2.2]; omega)).trans HB.out.2.1
 have hle : w.heap.size ≤ (((w.alloc (.cells #[.slice A0 F.length c0, .slice A1 S.length c1, .slice A2 T.length c2] 26)).alloc (.cells #[.int .i64 slot] 3)).alloc (.cells #[.slice none 0 0, .slice none 0 0, .slice none 0 0] 26)).heap.size := HB.out.1.size
 have H1 := Go.Lib.hid (And.intro (Kd.R_lower r0 hle) (And.intro (Kd.R_lower r1 hle) (And.intro (Kd.S_lower r2 hle) (And.intro hw1 hbS))))
 clear r0 r1 r2 hb hw1 hbS hle HB
 have z0 := cell_of_heap H1.out.2.2.2.2 (j := 0) rfl
 have z1 := cell_of_heap H1.out.2.2.2.2 (j := 1) rfl
 have z2 := cell_of_heap H1.out.2.2.2.2 (j := 2) rfl
 have y0 := blk_frozen H1.out.2.2.2.2 0
 have y1 := blk_frozen H1.out.2.2.2.2 1
 have y2 := blk_frozen H1.out.2.2.2.2 2
 go_wp2_with fail
 refine bodyPost_ret (results_ct rfl _ _ (w.heap.size + 2) 26 #[.slice B0 res.1.length d0, .slice B1 res.2.1.length d1, .slice B2 res.2.2.1.length d2] (0, 0) _ rfl (own_put3 H1.out.2.2.2.2 _ _ _) Try.underlying26 rfl (by kernel_rfl)) rfl ?_
 exact ⟨_, _, _, rfl, own_box3R H1.out.1 H1.out.2.2.2.2 (by decide) _ _ _, own_box3R H1.out.2.1 H1.out.2.2.2.2 (by decide) _ _ _, own_box3S H1.out.2.2.1 H1.out.2.2.2.2 (by decide) _ _ _, own_box3B H1.out.2.2.2.1 (by omega) _ _ _⟩
end Go.Proofs.Ytkmmihadcbfkoaa
end

section
namespace Go.Proofs.Ytkmmihadcbfkoaa
open Go.RowKit Go.Proofs.YtkmmihadcbfkoaaW.PrintWords PM
set_option linter.unusedVariables false
set_option linter.unusedSimpArgs false
/-- The law's board, behind its box. -/
structure LO (w0 : World) (A0 : Option Addr) (c0 : Nat) (F : List Int) (A1 : Option Addr) (c1 : Nat) (S : List S50) (A2 : Option Addr) (c2 : Nat) (T : List (List Int)) (w : World) : Prop where
 at0 : LAt w0 A0 c0 F A1 c1 S A2 c2 T (w0.alloc (.cells #[.slice A0 F.length c0, .slice A1 S.length c1, .slice A2 T.length c2] 26))
 B : Below (w0.heap.size + 1) (w0.alloc (.cells #[.slice A0 F.length c0, .slice A1 S.length c1, .slice A2 T.length c2] 26)) w
section
variable {w0 w w' : World} {A0 : Option Addr} {c0 : Nat} {F : List Int} {A1 : Option Addr} {c1 : Nat} {S : List S50} {A2 : Option Addr} {c2 : Nat} {T : List (List Int)}
theorem LO.at (h : LO w0 A0 c0 F A1 c1 S A2 c2 T w) : LAt w0 A0 c0 F A1 c1 S A2 c2 T w := h.at0.later (by
 have := h.B
 rwa [show (w0.alloc (.cells #[.slice A0 F.length c0, .slice A1 S.length c1, .slice A2 T.length c2] 26)).heap.size = w0.heap.size + 1 from by simp])
theorem LO.later (h : LO w0 A0 c0 F A1 c1 S A2 c2 T w) (hb : Below w.heap.size w w') : LO w0 A0 c0 F A1 c1 S A2 c2 T w' :=
 ⟨h.at0, h.B.trans (hb.mono (by have := h.B.size; simpa using this))⟩
theorem LO.set (h : LO w0 A0 c0 F A1 c1 S A2 c2 T w) {g : Nat} (hg : w0.heap.size + 1 ≤ g) (u0 u1 u2 : Value) : LO w0 A0 c0 F A1 c1 S A2 c2 T (((w.setCell ⟨g, 0, none⟩ u0).setCell ⟨g, 1, none⟩ u1).setCell ⟨g, 2, none⟩ u2) :=
 ⟨h.at0, setCell_below (setCell_below (setCell_below h.B hg _) hg _) hg _⟩
theorem LO.size (h : LO w0 A0 c0 F A1 c1 S A2 c2 T w) : w0.heap.size + 1 ≤ w.heap.size := by have := h.B.size; simpa using this
theorem LO.start (hr0 : Kd.C (Kd.int .i64) w0 A0 F.length F) (hc0 : F.length ≤ c0) (hr1 : Kd.C k50 w0 A1 S.length S) (hc1 : S.length ≤ c1) (hr2 : Kd.C (Kd.slice 3 (Kd.int .i64)) w0 A2 T.length T) (hc2 : T.length ≤ c2) :
  LO w0 A0 c0 F A1 c1 S A2 c2 T (w0.alloc (.cells #[.slice A0 F.length c0, .slice A1 S.length c1, .slice A2 T.length c2] 26)) :=
 ⟨LAt.start hr0 hc0 hr1 hc1 hr2 hc2, Below.refl _ _⟩
end
/-- Three values that hold a board of a call's own. -/
def OwnAt (r : List Int × List S50 × List (List Int)) (v0 v1 v2 : Value) (w : World) : Prop :=
 Kd.R (Kd.int .i64) 3 w 0 (fun _ => True) v0 r.1 ∧ Kd.R k50 50 w 0 (fun _ => True) v1 r.2.1 ∧ Kd.S (Kd.slice 3 (Kd.int .i64)) 22 w 0 (fun _ => True) v2 r.2.2
theorem OwnAt.later {r : List Int × List S50 × List (List Int)} {v0 v1 v2 : Value} {w w' : World} (h : OwnAt r v0 v1 v2 w) (hb : Below w.heap.size w w') : OwnAt r v0 v1 v2 w' :=
 ⟨Kd.R_below h.1 hb, Kd.R_below h.2.1 hb, Kd.S_below h.2.2 hb⟩
theorem OwnAt.set {r : List Int × List S50 × List (List Int)} {v0 v1 v2 : Value} {w : World} (h : OwnAt r v0 v1 v2 w) {g : Nat} {a b c : Value} (hb : w.heap[g]? = some (.cells #[a, b, c] 26 (0, 0))) (u0 u1 u2 : Value) :
  OwnAt r v0 v1 v2 (((w.setCell ⟨g, 0, none⟩ u0).setCell ⟨g, 1, none⟩ u1).setCell ⟨g, 2, none⟩ u2) :=
 ⟨own_box3R h.1 hb (by decide) _ _ _, own_box3R h.2.1 hb (by decide) _ _ _, own_box3S h.2.2 hb (by decide) _ _ _⟩
theorem blk_far3 {w : World} {g : Nat} {t : TypeId} {cs : Array Value} (h : w.heap[g]? = some (.cells cs t (0, 0))) {g1 : Nat} (hp : g ≠ g1) (u0 u1 u2 : Value) :
  (((w.setCell ⟨g1, 0, none⟩ u0).setCell ⟨g1, 1, none⟩ u1).setCell ⟨g1, 2, none⟩ u2).heap[g]? = some (.cells cs t (0, 0)) :=
 blk_far (p := ⟨g1, 2, none⟩) (blk_far (p := ⟨g1, 1, none⟩) (blk_far (p := ⟨g1, 0, none⟩) h hp u0) hp u1) hp u2
/-- A board and an error are returned. -/
def BPost (r : List Int × List S50 × List (List Int)) (q : Int) (w : World) (e : Ending) (w' : World) : Prop :=
 ∃ B0 d0 B1 d1 B2 d2, e = .returned (.tuple #[.agg #[.slice B0 r.1.length d0, .slice B1 r.2.1.length d1, .slice B2 r.2.2.length d2], .int .i64 q]) ∧ OwnAt r (.slice B0 r.1.length d0) (.slice B1 r.2.1.length d1) (.slice B2 r.2.2.length d2) w' ∧ Below w.heap.size w w'
theorem bpost_of {r1 : List Int} {r2 : List S50} {r3 : List (List Int)} {q : Int} {w : World} {e : Ending} {w' : World}
  (h : ∃ v0 v1 v2 : Value, e = .returned (.tuple #[.agg #[v0, v1, v2], .int .i64 q]) ∧ Kd.R (Kd.int .i64) 3 w' w.heap.size (fun _ => True) v0 r1 ∧ Kd.R k50 50 w' w.heap.size (fun _ => True) v1 r2 ∧ Kd.S (Kd.slice 3 (Kd.int .i64)) 22 w' w.heap.size (fun k_ => some k_ ≠ (v0 : Value).ownBlock) v2 r3 ∧ Below w.heap.size w w') :
  BPost (r1, r2, r3) q w e w' := by
 obtain ⟨v0, v1, v2, rfl, h0, h1, h2, hb⟩ := h
 obtain ⟨B0, d0, rfl⟩ := Kd.R_slice h0
 obtain ⟨B1, d1, rfl⟩ := Kd.R_slice h1
 obtain ⟨B2, d2, rfl⟩ := Kd.S_slice h2
 exact ⟨B0, d0, B1, d1, B2, d2, rfl, ⟨Kd.R_lower h0 (Nat.zero_le _), Kd.R_lower h1 (Nat.zero_le _), Kd.S_mono (Kd.S_lower h2 (Nat.zero_le _)) (fun _ _ => trivial)⟩, hb⟩
theorem same_own {F : List Int} {S : List S50} {T : List (List Int)} {A0 A1 A2 B0 B1 B2 : Option Addr} {c0 c1 c2 d0 d1 d2 : Nat} {w : World}
  (h : OwnAt (F, S, T) (.slice A0 F.length c0) (.slice A1 S.length c1) (.slice A2 T.length c2) w) (k : OwnAt (F, S, T) (.slice B0 F.length d0) (.slice B1 S.length d1) (.slice B2 T.length d2) w) (hT : T.length ≤ 1000000) (hR : ∀ l, l ∈ T → l.length ≤ 9223372036854775807) :
  Calls Try.prog 28 #[.agg #[.slice A0 F.length c0, .slice A1 S.length c1, .slice A2 T.length c2], .agg #[.slice B0 F.length d0, .slice B1 S.length d1, .slice B2 T.length d2]] w fun e w' => e = .returned (.bool true) ∧ Below w.heap.size w w' := by
 have a0 := Kd.R_reads' h.1
 have a1 := Kd.R_reads' h.2.1
 have a2 := Kd.S_reads' h.2.2
 have b0 := Kd.R_reads' k.1
 have b1 := Kd.R_reads' k.2.1
 have b2 := Kd.S_reads' k.2.2
 exact sameboard_calls A0 c0 F A1 c1 S A2 c2 T B0 d0 B1 d1 B2 d2 w a0.2.2 a0.2.1 a1.2.2 a1.2.1 a2.2.2 a2.2.1 b0.2.2 b0.2.1 b1.2.2 b1.2.1 b2.2.2 b2.2.1 hT hR
/-- The boards of Without, Barred and Fixed are small. -/
def SmallR (r : List Int × List S50 × List (List Int) × Int) : Prop := r.2.2.1.length ≤ 1000000 ∧ ∀ l, l ∈ r.2.2.1 → l.length ≤ 9223372036854775807
theorem small_without (F : List Int) (S : List S50) (T : List (List Int)) (find : Int) : SmallR (withoutP F S T find) := by
 unfold withoutP SmallR
 split
 ·
  rename_i h
  have hk := bok_of_check (ask_parts h).1
  have h1 := hk.nt
  have h2 := hk.nf
  refine ⟨?_, fun l hl => ?_⟩
  ·
   have := List.length_eraseIdx_le T find.toNat
   show (T.eraseIdx find.toNat).length ≤ 1000000
   omega
  have := rows_le hk l (List.mem_of_mem_eraseIdx hl)
  omega
 exact ⟨Nat.zero_le _, fun l hl => by cases hl⟩
theorem small_fitted (F : List Int) (S : List S50) (T : List (List Int)) (find slot : Int) (g : List Int → List Int) (hg : ∀ l, (g l).length ≤ l.length + 1) : SmallR (fittedP F S T find slot g) := by
 unfold fittedP SmallR
 split
 ·
  rename_i h
  have hk := bok_of_check (ask_parts h).1
  have h1 := hk.nt
  have h2 := hk.nf
  split
  ·
   refine ⟨?_, fun l hl => ?_⟩
   ·
    show (T.set find.toNat _).length ≤ 1000000
    rw [List.length_set]
    omega
   rcases List.mem_or_eq_of_mem_set hl with hl | hl
   ·
    have := rows_le hk l hl
    omega
   have h3 := hg (T.getD find.toNat [])
   have h4 := (ask_parts h).2.1 rfl
   have h5 := hk.row find.toNat (by omega)
   rw [hl]
   omega
  exact ⟨Nat.zero_le _, fun l hl => by cases hl⟩
 exact ⟨Nat.zero_le _, fun l hl => by cases hl⟩
theorem small_barred (F : List Int) (S : List S50) (T : List (List Int)) (find slot : Int) : SmallR (barredP F S T find slot) :=
 small_fitted F S T find slot _ (fun l => Nat.le_succ_of_le (List.length_filter_le _ _))
theorem small_fixed (F : List Int) (S : List S50) (T : List (List Int)) (find slot : Int) : SmallR (fixedP F S T find slot) :=
 small_fitted F S T find slot _ (fun l => by simp)
theorem without_own {w0 w : World} {A0 : Option Addr} {c0 : Nat} {F : List Int} {A1 : Option Addr} {c1 : Nat} {S : List S50} {A2 : Option Addr} {c2 : Nat} {T : List (List Int)} {find : Int} {a : List Int} {b : List S50} {t : List (List Int)} {q : Int} (h : LAt w0 A0 c0 F A1 c1 S A2 c2 T w) (er : withoutP F S T find = (a, b, t, q)) :
  Calls Try.prog 41 #[.agg #[.slice A0 F.length c0, .slice A1 S.length c1, .slice A2 T.length c2], .int .i64 find] w (BPost (a, b, t) q w) := by
 refine (without_calls A0 c0 F A1 c1 S A2 c2 T find w h.C0 h.l0 h.C1 h.l1 h.C2 h.l2).mono fun e w' k => ?_
 rw [er] at k
 exact bpost_of k
theorem barred_own {w0 w : World} {A0 : Option Addr} {c0 : Nat} {F : List Int} {A1 : Option Addr} {c1 : Nat} {S : List S50} {A2 : Option Addr} {c2 : Nat} {T : List (List Int)} {find slot : Int} {a : List Int} {b : List S50} {t : List (List Int)} {q : Int} (h : LAt w0 A0 c0 F A1 c1 S A2 c2 T w) (er : barredP F S T find slot = (a, b, t, q)) :
  Calls Try.prog 43 #[.agg #[.slice A0 F.length c0, .slice A1 S.length c1, .slice A2 T.length c2], .int .i64 find, .int .i64 slot] w (BPost (a, b, t) q w) := by
 refine (barred_calls A0 c0 F A1 c1 S A2 c2 T find slot w h.C0 h.l0 h.C1 h.l1 h.C2 h.l2).mono fun e w' k => ?_
 rw [er] at k
 exact bpost_of k
theorem fixed_own {w0 w : World} {A0 : Option Addr} {c0 : Nat} {F : List Int} {A1 : Option Addr} {c1 : Nat} {S : List S50} {A2 : Option Addr} {c2 : Nat} {T : List (List Int)} {find slot : Int} {a : List Int} {b : List S50} {t : List (List Int)} {q : Int} (h : LAt w0 A0 c0 F A1 c1 S A2 c2 T w) (er : fixedP F S T find slot = (a, b, t, q)) :
  Calls Try.prog 27 #[.agg #[.slice A0 F.length c0, .slice A1 S.length c1, .slice A2 T.length c2], .int .i64 find, .int .i64 slot] w (BPost (a, b, t) q w) := by
 refine (fixed_calls A0 c0 F A1 c1 S A2 c2 T find slot w h.C0 h.l0 h.C1 h.l1 h.C2 h.l2).mono fun e w' k => ?_
 rw [er] at k
 exact bpost_of k
theorem without_ref {w0 w : World} {A0 : Option Addr} {c0 : Nat} {F : List Int} {A1 : Option Addr} {c1 : Nat} {S : List S50} {A2 : Option Addr} {c2 : Nat} {T : List (List Int)} {find : Int} {a : List Int} {b : List S50} {t : List (List Int)} {q : Int} {K : Nat} (h : LAt w0 A0 c0 F A1 c1 S A2 c2 T w) (er : laganref04_Without.f K F S T find = some (a, b, t, q)) :
  Calls Try.prog 42 #[.agg #[.slice A0 F.length c0, .slice A1 S.length c1, .slice A2 T.length c2], .int .i64 find] w (BPost (a, b, t) q w) :=
 (laganref04_Without.calls K A0 c0 F A1 c1 S A2 c2 T find a b t q w h.C0 h.l0 h.C1 h.l1 h.C2 h.l2 er).mono fun e w' k => bpost_of k
theorem barred_ref {w0 w : World} {A0 : Option Addr} {c0 : Nat} {F : List Int} {A1 : Option Addr} {c1 : Nat} {S : List S50} {A2 : Option Addr} {c2 : Nat} {T : List (List Int)} {find slot : Int} {a : List Int} {b : List S50} {t : List (List Int)} {q : Int} {K : Nat} (h : LAt w0 A0 c0 F A1 c1 S A2 c2 T w) (er : laganref04_Barred.f K F S T find slot = some (a, b, t, q)) :
  Calls Try.prog 44 #[.agg #[.slice A0 F.length c0, .slice A1 S.length c1, .slice A2 T.length c2], .int .i64 find, .int .i64 slot] w (BPost (a, b, t) q w) :=
 (laganref04_Barred.calls K A0 c0 F A1 c1 S A2 c2 T find slot a b t q w h.C0 h.l0 h.C1 h.l1 h.C2 h.l2 er).mono fun e w' k => bpost_of k
theorem fixed_ref {w0 w : World} {A0 : Option Addr} {c0 : Nat} {F : List Int} {A1 : Option Addr} {c1 : Nat} {S : List S50} {A2 : Option Addr} {c2 : Nat} {T : List (List Int)} {find slot : Int} {a : List Int} {b : List S50} {t : List (List Int)} {q : Int} {K : Nat} (h : LAt w0 A0 c0 F A1 c1 S A2 c2 T w) (er : laganref04_Fixed.f K F S T find slot = some (a, b, t, q)) :
  Calls Try.prog 45 #[.agg #[.slice A0 F.length c0, .slice A1 S.length c1, .slice A2 T.length c2], .int .i64 find, .int .i64 slot] w (BPost (a, b, t) q w) :=
 (laganref04_Fixed.calls K A0 c0 F A1 c1 S A2 c2 T find slot a b t q w h.C0 h.l0 h.C1 h.l1 h.C2 h.l2 er).mono fun e w' k => bpost_of k
end Go.Proofs.Ytkmmihadcbfkoaa
end

section
namespace Go.Proofs.Ytkmmihadcbfkoaa
open Go.RowKit Go.Proofs.YtkmmihadcbfkoaaW.PrintWords PM
set_option linter.unusedVariables false
set_option linter.unusedSimpArgs false
set_option maxRecDepth 100000 in
set_option maxHeartbeats 8000000 in
theorem others_walk (A0 : Option Addr) (c0 : Nat) (F : List Int) (A1 : Option Addr) (c1 : Nat) (S : List S50) (A2 : Option Addr) (c2 : Nat) (T : List (List Int)) (find slot : Int) (w : World)
  (hr0 : Kd.C (Kd.int .i64) w A0 F.length F) (hc0 : F.length ≤ c0) (hr1 : Kd.C k50 w A1 S.length S) (hc1 : S.length ≤ c1) (hr2 : Kd.C (Kd.slice 3 (Kd.int .i64)) w A2 T.length T) (hc2 : T.length ≤ c2) :
  Calls Try.prog 9 #[.agg #[.slice A0 F.length c0, .slice A1 S.length c1, .slice A2 T.length c2], .int .i64 find, .int .i64 slot] w fun e w' => e = .returned (.bool true) ∧ Below w.heap.size w w' := by
 have HL := Go.Lib.hid (LO.start hr0 hc0 hr1 hc1 hr2 hc2)
 have HS := Go.Lib.hid (And.intro hr0.2.1 (And.intro hr1.2.1 (And.intro hr2.2.1 HL.out.at.rows)))
 clear hr0 hc0 hr1 hc1 hr2 hc2
 obtain ⟨b, hK⟩ := wide_is F S T HS.out.2.2.1
 obtain ⟨K, hK⟩ := hK
 have HK := Go.Lib.hid (hK K (Nat.le_refl _))
 obtain ⟨K1, h1⟩ := without_is HS.out.1 HS.out.2.1 HS.out.2.2.1 HS.out.2.2.2 find
 obtain ⟨K2, h2⟩ := barred_is HS.out.1 HS.out.2.1 HS.out.2.2.1 HS.out.2.2.2 find slot
 obtain ⟨K3, h3⟩ := fixed_is HS.out.1 HS.out.2.1 HS.out.2.2.1 HS.out.2.2.2 find slot
 have h1 := h1 K1 (Nat.le_refl _)
 have h2 := h2 K2 (Nat.le_refl _)
 have h3 := h3 K3 (Nat.le_refl _)
 have s1 := small_without F S T find
 have s2 := small_barred F S T find slot
 have s3 := small_fixed F S T find slot
 obtain ⟨r, e1⟩ : ∃ r, withoutP F S T find = r := ⟨_, rfl⟩
 obtain ⟨a1, b1, t1, q1⟩ := r
 obtain ⟨r, e2⟩ : ∃ r, barredP F S T find slot = r := ⟨_, rfl⟩
 obtain ⟨a2, b2, t2, q2⟩ := r
 obtain ⟨r, e3⟩ : ∃ r, fixedP F S T find slot = r := ⟨_, rfl⟩
 obtain ⟨a3, b3, t3, q3⟩ := r
 rw [e1] at h1 s1
 rw [e2] at h2 s2
 rw [e3] at h3 s3
 have H1 := Go.Lib.hid (And.intro h1 (And.intro s1 e1))
 have H2 := Go.Lib.hid (And.intro h2 (And.intro s2 e2))
 have H3 := Go.Lib.hid (And.intro h3 (And.intro s3 e3))
 have n1 : (q1 != q1) = false := by simp
 have n2 : (q2 != q2) = false := by simp
 have n3 : decide (q3 = q3) = true := decide_eq_true rfl
 clear hK h1 h2 h3 s1 s2 s3 e1 e2 e3 HS
 go_enter Try.func9, Try.ntmps9
 have k0 := HL.out.at.k0
 have k1 := HL.out.at.k1
 have k2 := HL.out.at.k2
 have CC := laganlaw04_wide.calls K A0 c0 F A1 c1 S A2 c2 T b _ HL.out.at.C0 HL.out.at.l0 HL.out.at.C1 HL.out.at.l1 HL.out.at.C2 HL.out.at.l2 HK.out
 go_wp2_with fail
 clear k0 k1 k2 HK
 refine CC.mono ?_
 clear CC
 rintro e w1 ⟨rfl, hB⟩
 replace HL := Go.Lib.hid (HL.out.later hB)
 clear hB
 have k0 := HL.out.at.k0
 have k1 := HL.out.at.k1
 have k2 := HL.out.at.k2
 cases b with
 | false =>
  have CC := matched_walk w1
  go_wp2_with fail
  clear k0 k1 k2
  refine CC.mono ?_
  clear CC
  rintro e w2 ⟨rfl, hB⟩
  replace HL := Go.Lib.hid (HL.out.later hB)
  go_wp2_with fail
  go_ret
  exact ⟨rfl, HL.out.at.B⟩
 | true =>
 have CC := without_own HL.out.at H1.out.2.2
 go_wp2_with fail
 clear k0 k1 k2
 refine CC.mono ?_
 clear CC
 rintro e w2 ⟨X0, x0, X1, x1, X2, x2, rfl, hO, hB⟩
 replace HL := Go.Lib.hid (HL.out.later hB)
 clear hB
 have hB : Below w2.heap.size w2 (w2.alloc (.cells #[.slice X0 a1.length x0, .slice X1 b1.length x1, .slice X2 t1.length x2] 26)) := (Below.refl _ _).alloc (Nat.le_refl _) _
 have HGX := Go.Lib.hid HL.out.size
 have HX := Go.Lib.hid (hO.later hB)
 have HBX := Go.Lib.hid (World.alloc_heap_new w2 (.cells #[.slice X0 a1.length x0, .slice X1 b1.length x1, .slice X2 t1.length x2] 26))
 clear hO
 replace HL := Go.Lib.hid (HL.out.later hB)
 clear hB
 have k0 := HL.out.at.k0
 have k1 := HL.out.at.k1
 have k2 := HL.out.at.k2
 have CC := without_ref HL.out.at H1.out.1
 go_wp2_with fail
 clear k0 k1 k2
 refine CC.mono ?_
 clear CC
 rintro e w3 ⟨Y0, y0, Y1, y1, Y2, y2, rfl, hO, hB⟩
 replace HL := Go.Lib.hid (HL.out.later hB)
 replace HX := Go.Lib.hid (HX.out.later hB)
 replace HBX := Go.Lib.hid ((hB.block _ (blk_lt HBX.out)).trans HBX.out)
 clear hB
 have hB : Below w3.heap.size w3 (w3.alloc (.cells #[.slice Y0 a1.length y0, .slice Y1 b1.length y1, .slice Y2 t1.length y2] 26)) := (Below.refl _ _).alloc (Nat.le_refl _) _
 have HGY := Go.Lib.hid HL.out.size
 have HNE := Go.Lib.hid (Nat.ne_of_lt (blk_lt HBX.out))
 have HY := Go.Lib.hid (hO.later hB)
 have HBY := Go.Lib.hid (World.alloc_heap_new w3 (.cells #[.slice Y0 a1.length y0, .slice Y1 b1.length y1, .slice Y2 t1.length y2] 26))
 clear hO
 replace HL := Go.Lib.hid (HL.out.later hB)
 replace HX := Go.Lib.hid (HX.out.later hB)
 replace HBX := Go.Lib.hid ((hB.block _ (blk_lt HBX.out)).trans HBX.out)
 clear hB
 have k0 := HL.out.at.k0
 have k1 := HL.out.at.k1
 have k2 := HL.out.at.k2
 have p0 := cell_of_heap HBX.out (j := 0) rfl
 have p1 := cell_of_heap HBX.out (j := 1) rfl
 have p2 := cell_of_heap HBX.out (j := 2) rfl
 have pf0 := blk_frozen HBX.out 0
 have pf1 := blk_frozen HBX.out 1
 have pf2 := blk_frozen HBX.out 2
 have r0 := cell_of_heap HBY.out (j := 0) rfl
 have r1 := cell_of_heap HBY.out (j := 1) rfl
 have r2 := cell_of_heap HBY.out (j := 2) rfl
 have rf0 := blk_frozen HBY.out 0
 have rf1 := blk_frozen HBY.out 1
 have rf2 := blk_frozen HBY.out 2
 have CC := same_own HX.out HY.out H1.out.2.1.1 H1.out.2.1.2
 go_wp2_with fail
 clear k0 k1 k2
 clear p0 p1 p2 pf0 pf1 pf2
 clear r0 r1 r2 rf0 rf1 rf2
 refine CC.mono ?_
 clear CC
 rintro e w4 ⟨rfl, hB⟩
 clear H1 HX HY
 replace HL := Go.Lib.hid (HL.out.later hB)
 replace HBX := Go.Lib.hid ((hB.block _ (blk_lt HBX.out)).trans HBX.out)
 replace HBY := Go.Lib.hid ((hB.block _ (blk_lt HBY.out)).trans HBY.out)
 clear hB
 have k0 := HL.out.at.k0
 have k1 := HL.out.at.k1
 have k2 := HL.out.at.k2
 have CC := barred_own HL.out.at H2.out.2.2
 go_wp2_with fail
 clear k0 k1 k2
 refine CC.mono ?_
 clear CC
 rintro e w5 ⟨U0, u0, U1, u1, U2, u2, rfl, hO, hB⟩
 replace HL := Go.Lib.hid (HL.out.later hB)
 replace HBX := Go.Lib.hid ((hB.block _ (blk_lt HBX.out)).trans HBX.out)
 replace HBY := Go.Lib.hid ((hB.block _ (blk_lt HBY.out)).trans HBY.out)
 clear hB
 have p0 := cell_of_heap HBX.out (j := 0) rfl
 have p1 := cell_of_heap HBX.out (j := 1) rfl
 have p2 := cell_of_heap HBX.out (j := 2) rfl
 have pf0 := blk_frozen HBX.out 0
 have pf1 := blk_frozen HBX.out 1
 have pf2 := blk_frozen HBX.out 2
 have HX := Go.Lib.hid (hO.set HBX.out (.slice U0 a2.length u0) (.slice U1 b2.length u1) (.slice U2 t2.length u2))
 clear hO
 replace HL := Go.Lib.hid (HL.out.set HGX.out (.slice U0 a2.length u0) (.slice U1 b2.length u1) (.slice U2 t2.length u2))
 replace HBX := Go.Lib.hid (own_put3 HBX.out (.slice U0 a2.length u0) (.slice U1 b2.length u1) (.slice U2 t2.length u2))
 replace HBY := Go.Lib.hid (blk_far3 HBY.out (Ne.symm HNE.out) (.slice U0 a2.length u0) (.slice U1 b2.length u1) (.slice U2 t2.length u2))
 have k0 := HL.out.at.k0
 have k1 := HL.out.at.k1
 have k2 := HL.out.at.k2
 have CC := barred_ref HL.out.at H2.out.1
 go_wp2_with fail
 clear k0 k1 k2
 clear p0 p1 p2 pf0 pf1 pf2
 refine CC.mono ?_
 clear CC
 rintro e w6 ⟨V0, v0, V1, v1, V2, v2, rfl, hO, hB⟩
 replace HL := Go.Lib.hid (HL.out.later hB)
 replace HX := Go.Lib.hid (HX.out.later hB)
 replace HBX := Go.Lib.hid ((hB.block _ (blk_lt HBX.out)).trans HBX.out)
 replace HBY := Go.Lib.hid ((hB.block _ (blk_lt HBY.out)).trans HBY.out)
 clear hB
 have r0 := cell_of_heap HBY.out (j := 0) rfl
 have r1 := cell_of_heap HBY.out (j := 1) rfl
 have r2 := cell_of_heap HBY.out (j := 2) rfl
 have rf0 := blk_frozen HBY.out 0
 have rf1 := blk_frozen HBY.out 1
 have rf2 := blk_frozen HBY.out 2
 have HY := Go.Lib.hid (hO.set HBY.out (.slice V0 a2.length v0) (.slice V1 b2.length v1) (.slice V2 t2.length v2))
 clear hO
 replace HX := Go.Lib.hid (HX.out.set HBY.out (.slice V0 a2.length v0) (.slice V1 b2.length v1) (.slice V2 t2.length v2))
 replace HL := Go.Lib.hid (HL.out.set HGY.out (.slice V0 a2.length v0) (.slice V1 b2.length v1) (.slice V2 t2.length v2))
 replace HBY := Go.Lib.hid (own_put3 HBY.out (.slice V0 a2.length v0) (.slice V1 b2.length v1) (.slice V2 t2.length v2))
 replace HBX := Go.Lib.hid (blk_far3 HBX.out HNE.out (.slice V0 a2.length v0) (.slice V1 b2.length v1) (.slice V2 t2.length v2))
 have k0 := HL.out.at.k0
 have k1 := HL.out.at.k1
 have k2 := HL.out.at.k2
 have p0 := cell_of_heap HBX.out (j := 0) rfl
 have p1 := cell_of_heap HBX.out (j := 1) rfl
 have p2 := cell_of_heap HBX.out (j := 2) rfl
 have pf0 := blk_frozen HBX.out 0
 have pf1 := blk_frozen HBX.out 1
 have pf2 := blk_frozen HBX.out 2
 have s0 := cell_of_heap HBY.out (j := 0) rfl
 have s1 := cell_of_heap HBY.out (j := 1) rfl
 have s2 := cell_of_heap HBY.out (j := 2) rfl
 have sf0 := blk_frozen HBY.out 0
 have sf1 := blk_frozen HBY.out 1
 have sf2 := blk_frozen HBY.out 2
 have CC := same_own HX.out HY.out H2.out.2.1.1 H2.out.2.1.2
 go_wp2_with fail
 clear k0 k1 k2
 clear r0 r1 r2 rf0 rf1 rf2
 clear p0 p1 p2 pf0 pf1 pf2
 clear s0 s1 s2 sf0 sf1 sf2
 refine CC.mono ?_
 clear CC
 rintro e w7 ⟨rfl, hB⟩
 clear H2 HX HY
 replace HL := Go.Lib.hid (HL.out.later hB)
 replace HBX := Go.Lib.hid ((hB.block _ (blk_lt HBX.out)).trans HBX.out)
 replace HBY := Go.Lib.hid ((hB.block _ (blk_lt HBY.out)).trans HBY.out)
 clear hB
 have k0 := HL.out.at.k0
 have k1 := HL.out.at.k1
 have k2 := HL.out.at.k2
 have CC := fixed_own HL.out.at H3.out.2.2
 go_wp2_with fail
 clear k0 k1 k2
 refine CC.mono ?_
 clear CC
 rintro e w8 ⟨M0, m0, M1, m1, M2, m2, rfl, hO, hB⟩
 replace HL := Go.Lib.hid (HL.out.later hB)
 replace HBX := Go.Lib.hid ((hB.block _ (blk_lt HBX.out)).trans HBX.out)
 replace HBY := Go.Lib.hid ((hB.block _ (blk_lt HBY.out)).trans HBY.out)
 clear hB
 have p0 := cell_of_heap HBX.out (j := 0) rfl
 have p1 := cell_of_heap HBX.out (j := 1) rfl
 have p2 := cell_of_heap HBX.out (j := 2) rfl
 have pf0 := blk_frozen HBX.out 0
 have pf1 := blk_frozen HBX.out 1
 have pf2 := blk_frozen HBX.out 2
 have HX := Go.Lib.hid (hO.set HBX.out (.slice M0 a3.length m0) (.slice M1 b3.length m1) (.slice M2 t3.length m2))
 clear hO
 replace HL := Go.Lib.hid (HL.out.set HGX.out (.slice M0 a3.length m0) (.slice M1 b3.length m1) (.slice M2 t3.length m2))
 replace HBX := Go.Lib.hid (own_put3 HBX.out (.slice M0 a3.length m0) (.slice M1 b3.length m1) (.slice M2 t3.length m2))
 replace HBY := Go.Lib.hid (blk_far3 HBY.out (Ne.symm HNE.out) (.slice M0 a3.length m0) (.slice M1 b3.length m1) (.slice M2 t3.length m2))
 have k0 := HL.out.at.k0
 have k1 := HL.out.at.k1
 have k2 := HL.out.at.k2
 have CC := fixed_ref HL.out.at H3.out.1
 go_wp2_with fail
 clear k0 k1 k2
 clear p0 p1 p2 pf0 pf1 pf2
 refine CC.mono ?_
 clear CC
 rintro e wb ⟨G0, g0, G1, g1, G2, g2, rfl, hO, hB⟩
 replace HL := Go.Lib.hid (HL.out.later hB)
 replace HX := Go.Lib.hid (HX.out.later hB)
 replace HBX := Go.Lib.hid ((hB.block _ (blk_lt HBX.out)).trans HBX.out)
 replace HBY := Go.Lib.hid ((hB.block _ (blk_lt HBY.out)).trans HBY.out)
 clear hB
 have r0 := cell_of_heap HBY.out (j := 0) rfl
 have r1 := cell_of_heap HBY.out (j := 1) rfl
 have r2 := cell_of_heap HBY.out (j := 2) rfl
 have rf0 := blk_frozen HBY.out 0
 have rf1 := blk_frozen HBY.out 1
 have rf2 := blk_frozen HBY.out 2
 have HY := Go.Lib.hid (hO.set HBY.out (.slice G0 a3.length g0) (.slice G1 b3.length g1) (.slice G2 t3.length g2))
 clear hO
 replace HX := Go.Lib.hid (HX.out.set HBY.out (.slice G0 a3.length g0) (.slice G1 b3.length g1) (.slice G2 t3.length g2))
 replace HL := Go.Lib.hid (HL.out.set HGY.out (.slice G0 a3.length g0) (.slice G1 b3.length g1) (.slice G2 t3.length g2))
 replace HBY := Go.Lib.hid (own_put3 HBY.out (.slice G0 a3.length g0) (.slice G1 b3.length g1) (.slice G2 t3.length g2))
 replace HBX := Go.Lib.hid (blk_far3 HBX.out HNE.out (.slice G0 a3.length g0) (.slice G1 b3.length g1) (.slice G2 t3.length g2))
 have CC := matched_walk ((((wb).setCell ⟨w3.heap.size, 0, none⟩ (.slice G0 a3.length g0)).setCell ⟨w3.heap.size, 1, none⟩ (.slice G1 b3.length g1)).setCell ⟨w3.heap.size, 2, none⟩ (.slice G2 t3.length g2))
 go_wp2_with fail
 clear r0 r1 r2 rf0 rf1 rf2
 refine CC.mono ?_
 clear CC
 rintro e w9 ⟨rfl, hB⟩
 replace HL := Go.Lib.hid (HL.out.later hB)
 replace HX := Go.Lib.hid (HX.out.later hB)
 replace HY := Go.Lib.hid (HY.out.later hB)
 replace HBX := Go.Lib.hid ((hB.block _ (blk_lt HBX.out)).trans HBX.out)
 replace HBY := Go.Lib.hid ((hB.block _ (blk_lt HBY.out)).trans HBY.out)
 clear hB
 have p0 := cell_of_heap HBX.out (j := 0) rfl
 have p1 := cell_of_heap HBX.out (j := 1) rfl
 have p2 := cell_of_heap HBX.out (j := 2) rfl
 have pf0 := blk_frozen HBX.out 0
 have pf1 := blk_frozen HBX.out 1
 have pf2 := blk_frozen HBX.out 2
 have s0 := cell_of_heap HBY.out (j := 0) rfl
 have s1 := cell_of_heap HBY.out (j := 1) rfl
 have s2 := cell_of_heap HBY.out (j := 2) rfl
 have sf0 := blk_frozen HBY.out 0
 have sf1 := blk_frozen HBY.out 1
 have sf2 := blk_frozen HBY.out 2
 have CC := same_own HX.out HY.out H3.out.2.1.1 H3.out.2.1.2
 go_wp2_with fail
 clear p0 p1 p2 pf0 pf1 pf2
 clear s0 s1 s2 sf0 sf1 sf2
 refine CC.mono ?_
 clear CC
 rintro e wc ⟨rfl, hB⟩
 clear H3 HX HY
 replace HL := Go.Lib.hid (HL.out.later hB)
 replace HBX := Go.Lib.hid ((hB.block _ (blk_lt HBX.out)).trans HBX.out)
 replace HBY := Go.Lib.hid ((hB.block _ (blk_lt HBY.out)).trans HBY.out)
 clear hB
 go_wp2_with fail
 go_ret
 exact ⟨rfl, HL.out.at.B⟩
end Go.Proofs.Ytkmmihadcbfkoaa
end

section
namespace Go.Proofs.Ytkmmihadcbfkoaa
open Go.ChangeShapes Go.WideShapes Go.RowKit Go.Deep Go.Joins Go.Proofs.YtkmmihadcbfkoaaW.PrintWords PM
set_option linter.unusedVariables false
set_option linter.unusedSimpArgs false
section
variable {H : Type} {enc : TypeId × Value → H} {W : World} {base : Nat} {held : Bool}
theorem C_of_cells {A : Option Addr} {L C : Nat} {Z : List Int} (hl : L ≤ C) (hm : C ≤ maxLen) (hz : Z.length = C) (hn : A = none → C = 0) (hc : ∀ a, A = some a → ∀ c, c < C → W.cell? (a.add c) = some (.int .i64 (Z.getD c 0))) :
  (Z.take L).length = L ∧ Kd.C (Kd.int .i64) W A L (Z.take L) := by
 have hlen : (Z.take L).length = L := by rw [List.length_take]; omega
 have hmx : maxLen = 9223372036854775807 := rfl
 refine ⟨hlen, ?_⟩
 cases A with
 | none =>
  have h0 : L = 0 := by have := hn rfl; omega
  subst h0
  exact Kd.C_nil _ _
 | some a =>
  refine Kd.C_of_reads (enc := Value.int .i64) (d := (0 : Int)) (h1 := fun _ => rfl) ⟨hlen, by omega, fun _ => ⟨a, rfl, fun j hj => ?_⟩⟩
  rw [hc a rfl j (by omega)]
  simp [List.getD_eq_getElem?_getD, List.getElem?_take, hj]
theorem open_intsC {fuel : Nat} {cs : List Value} {x : DataW H × List MemPlace} (h : DataW.trod enc Try.prog W base (fun _ => true) held fuel 22 cs = some x) :
  ∃ A c F, cs = [.slice A F.length c] ∧ F.length ≤ c ∧ Kd.C (Kd.int .i64) W A F.length F := by
 rcases open_ints Try.underlying22 Try.underlying3 (by kernel_rfl) h with ⟨rfl, _⟩ | ⟨a, len, cap, zs, rfl, _, hl, hm, hz, _, hcell, _⟩
 ·
  exact ⟨none, 0, [], rfl, Nat.zero_le _, Kd.C_nil _ _⟩
 simp only [if_true] at hz
 obtain ⟨e, hC⟩ := C_of_cells (W := W) (A := some a) (L := len) (C := cap) (Z := zs) hl hm hz (fun k => by cases k) (fun a' k c hc => by cases k; exact hcell c (by omega))
 exact ⟨some a, cap, zs.take len, by rw [e], by rw [e]; exact hl, by rw [e]; exact hC⟩
theorem open_rowsC {fuel : Nat} {cs : List Value} {x : DataW H × List MemPlace} (h : DataW.trod enc Try.prog W base (fun _ => true) held fuel 24 cs = some x) :
  ∃ A c T, cs = [.slice A T.length c] ∧ T.length ≤ c ∧ Kd.C (Kd.slice 3 (Kd.int .i64)) W A T.length T := by
 rcases open_int_rows Try.underlying24 Try.underlying22 Try.underlying3 (by kernel_rfl) (by kernel_rfl) h with ⟨rfl, _⟩ | ⟨a, len, cap, A, L, C, Z, rfl, _, hl, hm, _, hr⟩
 ·
  exact ⟨none, 0, [], rfl, Nat.zero_le _, Kd.C_nil _ _⟩
 have hmx : maxLen = 9223372036854775807 := rfl
 have hlen : ((List.range len).map fun r => (Z r).take (L r)).length = len := by simp
 refine ⟨some a, cap, (List.range len).map fun r => (Z r).take (L r), by rw [hlen], by rw [hlen]; exact hl, ?_⟩
 rw [hlen]
 refine ⟨hlen, by omega, fun _ => ⟨a, rfl, fun j p hj => ?_⟩⟩
 obtain ⟨hjl, hp⟩ := List.getElem?_eq_some_iff.1 hj
 rw [hlen] at hjl
 rw [List.getElem_map, List.getElem_range] at hp
 obtain ⟨h1, h2, h3, h4, _, h6, h7⟩ := hr j (by omega)
 obtain ⟨e, hC⟩ := C_of_cells (W := W) (A := A j) h2 h3 h4 h6 (fun a' k => (h7 a' k).2)
 rw [hp] at e hC
 refine ⟨[.slice (A j) (L j) (C j)], rfl, ⟨A j, C j, by rw [e], by rw [e]; exact h2, by rw [e]; exact hC⟩, fun i u hu => ?_⟩
 cases i with
 | zero =>
  simp only [List.getElem?_cons_zero, Option.some.injEq] at hu
  subst hu
  show W.cell? (a.add (j * 1 + 0)) = _
  rw [Nat.mul_one, Nat.add_zero]
  exact h1
 | succ i => simp at hu
set_option maxRecDepth 100000 in
theorem open_slotsC {fuel : Nat} {cs : List Value} {x : DataW H × List MemPlace} (h : DataW.trod enc Try.prog W base (fun _ => true) held fuel 23 cs = some x) :
  ∃ A c S, cs = [.slice A S.length c] ∧ S.length ≤ c ∧ Kd.C k50 W A S.length S := by
 rcases open_slice Try.underlying23 h with ⟨rfl, _⟩ | ⟨a, len, cap, m, n, D, Pl, rfl, _, hl, hm, hmm, _, hx⟩
 ·
  exact ⟨none, 0, [], rfl, Nat.zero_le _, Kd.C_nil _ _⟩
 simp only [if_true] at hmm
 have hmx : maxLen = 9223372036854775807 := rfl
 have hsz : Try.prog.cellsOf 50 = 3 := by kernel_rfl
 have c3 : Try.prog.cellsOf 3 = 1 := by kernel_rfl
 rw [hsz] at hx
 have each : ∀ i, i < len → ∃ s : Int × Int × Int, W.cell? (a.add (i * 3 + 0)) = some (.int .i64 s.1) ∧ W.cell? (a.add (i * 3 + 1)) = some (.int .i64 s.2.1) ∧ W.cell? (a.add (i * 3 + 2)) = some (.int .i64 s.2.2) := fun i hi => by
  obtain ⟨cs', hcs, ht⟩ := hx i (by omega)
  obtain ⟨_, hlen, hcell⟩ := World.cells?_some hcs
  obtain ⟨y0, y1, y2, n', _, _, g0, g1, g2⟩ := trod_struct3 Try.underlying50 ht
  obtain ⟨u0, u1, u2, rfl⟩ : ∃ u0 u1 u2, cs' = [u0, u1, u2] := by
   match cs', hlen with
   | [u0, u1, u2], _ => exact ⟨u0, u1, u2, rfl⟩
  obtain ⟨n0, e0, _⟩ := DataW.trod_int Try.underlying3 g0
  obtain ⟨n1, e1, _⟩ := DataW.trod_int Try.underlying3 g1
  obtain ⟨n2, e2, _⟩ := DataW.trod_int Try.underlying3 g2
  rw [c3] at e0 e1 e2
  simp only [List.drop_zero, List.drop_succ_cons, List.take_succ_cons, List.take_zero, List.cons.injEq, and_true] at e0 e1 e2
  subst e0 e1 e2
  have k0 := hcell 0 (by omega)
  have k1 := hcell 1 (by omega)
  have k2 := hcell 2 (by omega)
  rw [Deep.add_add] at k0 k1 k2
  exact ⟨(n0, n1, n2), k0, k1, k2⟩
 obtain ⟨f, hf⟩ := choose_lt (α := Int × Int × Int) each
 have hlen : ((List.range len).map fun r => (⟨(f r).1, (f r).2.1, (f r).2.2⟩ : S50)).length = len := by simp
 refine ⟨some a, cap, (List.range len).map fun r => (⟨(f r).1, (f r).2.1, (f r).2.2⟩ : S50), by rw [hlen], by rw [hlen]; exact hl, ?_⟩
 rw [hlen]
 refine ⟨hlen, by omega, fun _ => ⟨a, rfl, fun j p hj => ?_⟩⟩
 obtain ⟨hjl, hp⟩ := List.getElem?_eq_some_iff.1 hj
 rw [hlen] at hjl
 rw [List.getElem_map, List.getElem_range] at hp
 obtain ⟨h0, h1, h2⟩ := hf j hjl
 refine ⟨[.int .i64 p.f0, .int .i64 p.f1, .int .i64 p.f2], rfl, k50_mk W p, fun i u hu => ?_⟩
 subst hp
 match i, hu with
 | 0, hu => simp only [List.getElem?_cons_zero, Option.some.injEq] at hu; subst hu; exact h0
 | 1, hu => simp only [List.getElem?_cons_succ, List.getElem?_cons_zero, Option.some.injEq] at hu; subst hu; exact h1
 | 2, hu => simp only [List.getElem?_cons_succ, List.getElem?_cons_zero, Option.some.injEq] at hu; subst hu; exact h2
 | i + 3, hu => simp at hu
set_option maxRecDepth 100000 in
/-- A board that came in. -/
theorem open_boardV {r : Reach} {b0 : Nat} {v : Value} {d : DataW H} {p : List MemPlace} (hv : Value.okWide Try.prog W r b0 26 v) (h : DataW.Trod enc Try.prog W base (fun _ => true) held 26 v d p) :
  ∃ A0 c0 F A1 c1 S A2 c2 T, v = .agg #[.slice A0 F.length c0, .slice A1 S.length c1, .slice A2 T.length c2] ∧ Kd.C (Kd.int .i64) W A0 F.length F ∧ F.length ≤ c0 ∧ Kd.C k50 W A1 S.length S ∧ S.length ≤ c1 ∧ Kd.C (Kd.slice 3 (Kd.int .i64)) W A2 T.length T ∧ T.length ≤ c2 := by
 obtain ⟨v0, v1, v2, y0, y1, y2, n, rfl, _, _, h0, h1, h2⟩ := open_agg3 Try.underlying26 (by kernel_rfl) (by kernel_rfl) hv h
 obtain ⟨A0, c0, F, e0, l0, C0⟩ := open_intsC h0
 obtain ⟨A1, c1, S, e1, l1, C1⟩ := open_slotsC h1
 obtain ⟨A2, c2, T, e2, l2, C2⟩ := open_rowsC h2
 simp only [List.cons.injEq, and_true] at e0 e1 e2
 subst e0 e1 e2
 exact ⟨A0, c0, F, A1, c1, S, A2, c2, T, rfl, C0, l0, C1, l1, C2, l2⟩
end
end Go.Proofs.Ytkmmihadcbfkoaa
end

section
namespace Go.Proofs.Ytkmmihadcbfkoaa
open Go.ChangeShapes Go.WideShapes Go.ChangeAt Go.RowKit Go.Proofs.YtkmmihadcbfkoaaW.PrintWords PM
set_option linter.unusedVariables false
set_option linter.unusedSimpArgs false
theorem matchOthers_own : ownKnob Try.prog.godebug = none := by kernel_rfl
theorem matchOthers_laid : laidOutB Try.prog = true := by kernel_rfl
set_option maxRecDepth 100000 in
theorem matchOthers_lifted (os : Os) (started : os.Started) (H : Type) (enc : TypeId × Value → H) :
  ReturnsInHanded {} Try.checked os 9 .any (Rows.matchOthersSpec.pre6 enc Try.prog Try.f9 Rows.matchOthersRow.domain false) (Rows.matchOthersSpec.post enc Try.prog Try.f9 false true false false) := by
 refine returnsInHanded_of_change (C := Try.checked) matchOthers_own started (by kernel_rfl) Try.func9
  (ChangeSpec.witness6 (enc := enc) (C := Try.checked) false ⟨#[], #[.agg #[.slice none 0 0, .slice none 0 0, .slice none 0 0], .int .i64 0, .int .i64 0], []⟩ 8 (by kernel_rfl) (by kernel_rfl) (by kernel_rfl) (by kernel_rfl)) ?_
 intro W base args ds gs before hval0 hW hcnd _
 have hval : ∀ (j : Nat) t v, Try.f9.params[j]? = some t → args[j]? = some v → Value.okWide Try.prog W .any base t v := hval0
 have hW' := hW
 obtain ⟨p, q, hA0, hV, rfl, hfz, hnd⟩ := hW
 have hA : DataW.TrodAll enc Try.prog W 0 (fun _ => true) true Try.f9.params.toList args.toList ds p := hA0
 rw [Try.params9] at hA hval
 obtain ⟨v0, vs0, d0, ds0, p0, q0, hargs, rfl, rfl, h0, r0⟩ := trodAll_cons hA
 obtain ⟨v1, vs1, d1, ds1, p1, q1, rfl, rfl, rfl, h1, r1⟩ := trodAll_cons r0
 obtain ⟨v2, vs2, d2, ds2, p2, q2, rfl, rfl, rfl, h2, r2⟩ := trodAll_cons r1
 obtain ⟨rfl, rfl, rfl⟩ := trodAll_nil r2
 obtain rfl : args = #[v0, v1, v2] := by cases args; simp_all
 obtain ⟨rfl, rfl⟩ := trodVars_none hV
 have k0 := h0
 have lt0 : ∀ x ∈ p0, x.block < W.heap.size := by obtain ⟨m, hm⟩ := k0; exact DataW.trod_lt m _ _ _ hm
 obtain ⟨A0a, c0a, F, A0b, c0b, S, A0c, c0c, T, rfl, Ca, la, Cb, lb, Cc, lc⟩ := open_boardV (hval 0 26 v0 rfl rfl) h0
 obtain ⟨x1, rfl, rfl, rfl, w1⟩ := open_int Try.underlying3 (hval 1 3 v1 rfl rfl) h1
 obtain ⟨x2, rfl, rfl, rfl, w2⟩ := open_int Try.underlying3 (hval 2 3 v2 rfl rfl) h2
 clear hA0 hval0
 refine (others_walk A0a c0a F A0b c0b S A0c c0c T x1 x2 W Ca la Cb lb Cc lc).mono fun e W' ⟨he, bel⟩ => ?_
 subst he
 exact ⟨_, rfl, _, _, _, [], _, [], hW', trodAll_mk1 (shut_bool Try.underlying4 _), (trodAll_cons_mk (Below.trod matchOthers_laid (by kernel_rfl) (of_decide_eq_true (by kernel_rfl)) k0 bel lt0) (trodAll_cons_mk (shut_int Try.underlying3 w1) (trodAll_cons_mk (shut_int Try.underlying3 w2) trodAll_mk0))), rfl, bel.frame _, fun h => by cases h⟩
theorem matchOthers_holds : Rows.MatchOthersSaid :=
 OpenClaim.holds_of_wide 9 Try.f9 rfl rfl rfl rfl rfl rfl rfl ⟨rfl, rfl, rfl, rfl, rfl⟩ rfl rfl rfl rfl rfl (by kernel_rfl) Try.func9 (by kernel_rfl)
  (of_decide_eq_true (by kernel_rfl)) (by unfold Func.isWrapper; first | (rw [if_pos (by decide +kernel)]; kernel_rfl) | (rw [if_neg (by decide +kernel)]; exact ⟨rfl, rfl⟩))
  (fun os started H enc _ => matchOthers_lifted os started H enc)
#print axioms matchOthers_holds
end Go.Proofs.Ytkmmihadcbfkoaa
end
