/-
  MatchMay holds: for every board, find, slot and list, the law returns true and what it is given reads as it did. (part 3 of 6 of the texts that it stands on)
-/
import Derived.Deep.QuietTactic
import Derived.BigQuiet
import Derived.Deep.RegionHeld3
import Derived.Test.YtkmmihadcbfkoaaZMayb
section
namespace Go.Proofs.Ytkmmihadcbfkoaa.PM
open Go.RowKit Go.Proofs.YtkmmihadcbfkoaaW.PrintWords Go.Proofs.YtkmmihadcbfkoaaW.PrintLast Go.Proofs.YtkmmihadcbfkoaaW.PrintMore
set_option linter.unusedVariables false
set_option linter.unusedSimpArgs false
mutual
def laganref04_CheckBoard.j0 : Nat → Bool → List Int → List (S50) → List (List Int) → Option (Int)
 | 0, _, _, _, _ => none
 | k + 1, x16, x133000, x133001, x133002 => if x16 = true then (some 2) else (laganref04_CheckBoard.l0 k 0 x133000 x133001 x133002)
def laganref04_CheckBoard.l0 : Nat → Int → List Int → List (S50) → List (List Int) → Option (Int)
 | 0, _, _, _, _ => none
 | k + 1, x3, x133000, x133001, x133002 => if x3 < (x133000.length : Int) then (if 0 ≤ x3 then (if (rd x133000 x3) < 10 then (some 1) else (if (rd x133000 x3) > 10000007 then (some 1) else (if x3 > 0 then (if 0 ≤ (wrap64 (x3 - 1)) then (if (wrap64 (x3 - 1)) < (x133000.length : Int) then (if (rd x133000 x3) ≤ (rd x133000 (wrap64 (x3 - 1))) then (some 1) else (laganref04_CheckBoard.l0 k (wrap64 (x3 + 1)) x133000 x133001 x133002)) else (none)) else (none)) else (laganref04_CheckBoard.l0 k (wrap64 (x3 + 1)) x133000 x133001 x133002)))) else (none)) else (laganref04_CheckBoard.l1 k 0 x133000 x133001 x133002)
def laganref04_CheckBoard.l1 : Nat → Int → List Int → List (S50) → List (List Int) → Option (Int)
 | 0, _, _, _, _ => none
 | k + 1, x4, x133000, x133001, x133002 => if x4 < (x133001.length : Int) then (if 0 ≤ x4 then (if ((rd_T50 x133001 x4).f0) < 1 then (laganref04_CheckBoard.j3 k x4 true x133000 x133001 x133002 ((rd_T50 x133001 x4).f0) ((rd_T50 x133001 x4).f1) ((rd_T50 x133001 x4).f2)) else (if ((rd_T50 x133001 x4).f0) > 20 then (laganref04_CheckBoard.j3 k x4 true x133000 x133001 x133002 ((rd_T50 x133001 x4).f0) ((rd_T50 x133001 x4).f1) ((rd_T50 x133001 x4).f2)) else (if ((rd_T50 x133001 x4).f1) < 1 then (laganref04_CheckBoard.j3 k x4 true x133000 x133001 x133002 ((rd_T50 x133001 x4).f0) ((rd_T50 x133001 x4).f1) ((rd_T50 x133001 x4).f2)) else (if ((rd_T50 x133001 x4).f1) > 200 then (laganref04_CheckBoard.j3 k x4 true x133000 x133001 x133002 ((rd_T50 x133001 x4).f0) ((rd_T50 x133001 x4).f1) ((rd_T50 x133001 x4).f2)) else (if ((rd_T50 x133001 x4).f2) < 1 then (laganref04_CheckBoard.j3 k x4 true x133000 x133001 x133002 ((rd_T50 x133001 x4).f0) ((rd_T50 x133001 x4).f1) ((rd_T50 x133001 x4).f2)) else (laganref04_CheckBoard.j3 k x4 (decide (((rd_T50 x133001 x4).f2) > 20)) x133000 x133001 x133002 ((rd_T50 x133001 x4).f0) ((rd_T50 x133001 x4).f1) ((rd_T50 x133001 x4).f2))))))) else (none)) else (if (x133002.length : Int) = (x133000.length : Int) then (laganref04_CheckBoard.l2 k 0 x133000 x133001 x133002) else (some 1))
def laganref04_CheckBoard.j3 : Nat → Int → Bool → List Int → List (S50) → List (List Int) → Int → Int → Int → Option (Int)
 | 0, _, _, _, _, _, _, _, _ => none
 | k + 1, x4, x95, x133000, x133001, x133002, x139000, x139001, x139002 => if x95 = true then (some 1) else (if x4 > 0 then (if 0 ≤ (wrap64 (x4 - 1)) then (if (wrap64 (x4 - 1)) < (x133001.length : Int) then (if x139000 < ((rd_T50 x133001 (wrap64 (x4 - 1))).f0) then (some 1) else (if x139000 = ((rd_T50 x133001 (wrap64 (x4 - 1))).f0) then (if x139001 ≤ ((rd_T50 x133001 (wrap64 (x4 - 1))).f1) then (some 1) else (laganref04_CheckBoard.l1 k (wrap64 (x4 + 1)) x133000 x133001 x133002)) else (laganref04_CheckBoard.l1 k (wrap64 (x4 + 1)) x133000 x133001 x133002))) else (none)) else (none)) else (laganref04_CheckBoard.l1 k (wrap64 (x4 + 1)) x133000 x133001 x133002))
def laganref04_CheckBoard.l2 : Nat → Int → List Int → List (S50) → List (List Int) → Option (Int)
 | 0, _, _, _, _ => none
 | k + 1, x6, x133000, x133001, x133002 => if x6 < (x133002.length : Int) then (if 0 ≤ x6 then ((laganref04_ascending.f k (rd_L1 x133002 x6) (x133001.length : Int)).bind fun t143 => (if t143 = true then (laganref04_CheckBoard.l2 k (wrap64 (x6 + 1)) x133000 x133001 x133002) else (some 1))) else (none)) else (some 0)
end
def laganref04_CheckBoard.f (k : Nat) (aD : List Int) (aA : List (S50)) (aC : List (List Int)) : Option (Int) := if (aD.length : Int) > 60 then (laganref04_CheckBoard.j0 k true aD aA aC) else (laganref04_CheckBoard.j0 k (decide ((aA.length : Int) > 200)) aD aA aC)
set_option maxHeartbeats 8000000 in
set_option maxRecDepth 100000 in
theorem laganref04_CheckBoard.calls (k : Nat) (aG : Option Addr) (aH : Nat) (aD : List Int) (aK : Option Addr) (aI : Nat) (aA : List (S50)) (aM : Option Addr) (aJ : Nat) (aC : List (List Int)) (r : Int) (w : World) (bC : Kd.C (Kd.int .i64) w aG aD.length aD) (bD : aD.length ≤ aH) (bE : Kd.C k50 w aK aA.length aA) (bF : aA.length ≤ aI) (bG : Kd.C (Kd.slice 3 (Kd.int .i64)) w aM aC.length aC) (bH : aC.length ≤ aJ) (h : laganref04_CheckBoard.f k aD aA aC = some r) :
  Calls Try.prog 19 #[.agg #[.slice aG aD.length aH, .slice aK aA.length aI, .slice aM aC.length aJ]] w fun e w' => e = .returned (.int .i64 r) ∧ Below w.heap.size w w' := by
 have hu26 := Try.underlying26
 have hu50 := Try.underlying50
 have bA := Aside0.mk bC
 have bK := Aside0.mk bD
 clear bC bD
 have aZ := Aside0.mk bE
 have bL := Aside0.mk bF
 clear bE bF
 have aX := Aside0.mk bG
 have bM := Aside0.mk bH
 clear bG bH
 have HB := Aside0.mk (Below.refl w.heap.size w)
 have H : (if (aD.length : Int) > 60 then (laganref04_CheckBoard.j0 k true aD aA aC) else (laganref04_CheckBoard.j0 k (decide ((aA.length : Int) > 200)) aD aA aC)) = some r := h
 clear h
 have HC2 := Aside0.mk H
 clear H
 go_enter Try.func19, Try.ntmps19
 go_upto_region 1 with (first | ((with_reducible refine gate_dst (N := 1) rfl ?_); (try (refine gate_guard (by rfl) ?_; dsimp only)); refine box_event ?hg (N := 1) ?hd (cs := #[.slice aG aD.length aH, .slice aK aA.length aI, .slice aM aC.length aJ]) (t := 26) ?hr ?_; (case hd => rfl); (case hg => rfl); (case hr => first | (go_simp; done) | (go_simp; rfl)); intro gb132 hg w3 hbox hb; have n0_ := Aside0.mk (below_step (by repeat (first | (with_reducible first | exact HB.out | apply below_alloc | apply pw_below_drewN | apply below_drew1) | exact HB.out)) hb); have n1_ := Aside0.mk (hbox); have n2_ := Aside0.mk ((by rw [hg]; exact (below_size (by repeat (first | (with_reducible first | exact HB.out | apply below_alloc | apply pw_below_drewN | apply below_drew1) | exact HB.out))) : w.heap.size ≤ gb132)); have n3_ := Aside0.mk ((by rw [hg]; exact (below_size (by repeat (first | (with_reducible first | exact HB.out | apply below_alloc | apply pw_below_drewN | apply below_drew1) | exact HB.out))) : w.heap.size ≤ gb132)); clear HB; have HB := n0_; have BK132 := n1_; have GW132 := n2_; have GE132 := n3_; clear n0_ n1_ n2_ n3_; clear hb hbox hg))
 repeat (go_quiet (first | ((with_reducible refine gate_dst (N := 1) rfl ?_); (try (refine gate_guard (by rfl) ?_; dsimp only)); refine box_event ?hg (N := 1) ?hd (cs := #[.slice aG aD.length aH, .slice aK aA.length aI, .slice aM aC.length aJ]) (t := 26) ?hr ?_; (case hd => rfl); (case hg => rfl); (case hr => first | (go_simp; done) | (go_simp; rfl)); intro gb132 hg w3 hbox hb; have n0_ := Aside0.mk (below_step (by repeat (first | (with_reducible first | exact HB.out | apply below_alloc | apply pw_below_drewN | apply below_drew1) | exact HB.out)) hb); have n1_ := Aside0.mk (hbox); have n2_ := Aside0.mk ((by rw [hg]; exact (below_size (by repeat (first | (with_reducible first | exact HB.out | apply below_alloc | apply pw_below_drewN | apply below_drew1) | exact HB.out))) : w.heap.size ≤ gb132)); have n3_ := Aside0.mk ((by rw [hg]; exact (below_size (by repeat (first | (with_reducible first | exact HB.out | apply below_alloc | apply pw_below_drewN | apply below_drew1) | exact HB.out))) : w.heap.size ≤ gb132)); clear HB; have HB := n0_; have BK132 := n1_; have GW132 := n2_; have GE132 := n3_; clear n0_ n1_ n2_ n3_; clear hb hbox hg)); go_upto_region 1 with (first | ((with_reducible refine gate_dst (N := 1) rfl ?_); (try (refine gate_guard (by rfl) ?_; dsimp only)); refine box_event ?hg (N := 1) ?hd (cs := #[.slice aG aD.length aH, .slice aK aA.length aI, .slice aM aC.length aJ]) (t := 26) ?hr ?_; (case hd => rfl); (case hg => rfl); (case hr => first | (go_simp; done) | (go_simp; rfl)); intro gb132 hg w3 hbox hb; have n0_ := Aside0.mk (below_step (by repeat (first | (with_reducible first | exact HB.out | apply below_alloc | apply pw_below_drewN | apply below_drew1) | exact HB.out)) hb); have n1_ := Aside0.mk (hbox); have n2_ := Aside0.mk ((by rw [hg]; exact (below_size (by repeat (first | (with_reducible first | exact HB.out | apply below_alloc | apply pw_below_drewN | apply below_drew1) | exact HB.out))) : w.heap.size ≤ gb132)); have n3_ := Aside0.mk ((by rw [hg]; exact (below_size (by repeat (first | (with_reducible first | exact HB.out | apply below_alloc | apply pw_below_drewN | apply below_drew1) | exact HB.out))) : w.heap.size ≤ gb132)); clear HB; have HB := n0_; have BK132 := n1_; have GW132 := n2_; have GE132 := n3_; clear n0_ n1_ n2_ n3_; clear hb hbox hg)))
 (try simp only [Act.put, List.setIfInBounds_toArray, List.set_cons_zero, List.set_cons_succ])
 go_cut [16] (fun v16 wc => ∃ (kq : Nat) (iN : Bool), v16 = .bool iN ∧ Aside0 (laganref04_CheckBoard.j0 kq iN aD aA aC = some r) ∧ Aside0 (kq ≤ k) ∧ Aside0 (wc.heap[gb132]? = some (.cells #[(.slice aG aD.length aH), (.slice aK aA.length aI), (.slice aM aC.length aJ)] 26 (0, 0))) ∧ Aside0 (Below w.heap.size w wc))
 case first =>
  have H := HC2.out
  clear HC2
  by_cases c4 : (aD.length : Int) > 60
  ·
   rw [if_pos c4] at H
   have c4b0 : decide (60 < (aD.length : Int)) = true := decide_eq_true c4
   have c4b1 : decide (60 < aD.length) = true := decide_eq_true (by omega)
   clear c4
   (first | rw [c4b0] | (simp only [i64_w, i32_w]; rw [c4b0]) | skip)
   have H' := Aside0.mk H
   clear H
   have dG : w3.cell? ⟨gb132, 0, none⟩ = some (.slice aG aD.length aH) := (blk_cell BK132.out 0).trans rfl
   have dH : w3.cell? ⟨gb132, 1, none⟩ = some (.slice aK aA.length aI) := (blk_cell BK132.out 1).trans rfl
   have dI : w3.cell? ⟨gb132, 2, none⟩ = some (.slice aM aC.length aJ) := (blk_cell BK132.out 2).trans rfl
   have dJ := blk_frozen BK132.out 0
   have dK := blk_frozen BK132.out 1
   have dL := blk_frozen BK132.out 2
   go_wp2
   repeat (go_quiet (fail); try go_wp2)
   go_meet
   case rel => exact ⟨_, (true), (by first | rfl | (simp; done) | (simp [*]; done)), H', ⟨by first | omega | exact Nat.le_refl _⟩, ⟨by (with_reducible repeat (first | refine blk_drewN ?_ _ | refine blk_drew ?_ | refine blk_alloc ?_ _)); exact BK132.out⟩, ⟨by repeat (first | (with_reducible first | exact HB.out | apply below_alloc | apply pw_below_drewN | apply below_drew1 | refine below_set ?_ GE132.out) | exact HB.out)⟩⟩
  rw [if_neg c4] at H
  have c4b0 : decide (60 < (aD.length : Int)) = false := decide_eq_false c4
  have c4b1 : decide (60 < aD.length) = false := decide_eq_false (by omega)
  clear c4
  (first | rw [c4b0] | (simp only [i64_w, i32_w]; rw [c4b0]) | skip)
  have H' := Aside0.mk H
  clear H
  have dM : w3.cell? ⟨gb132, 0, none⟩ = some (.slice aG aD.length aH) := (blk_cell BK132.out 0).trans rfl
  have dN : w3.cell? ⟨gb132, 1, none⟩ = some (.slice aK aA.length aI) := (blk_cell BK132.out 1).trans rfl
  have dO : w3.cell? ⟨gb132, 2, none⟩ = some (.slice aM aC.length aJ) := (blk_cell BK132.out 2).trans rfl
  have dP := blk_frozen BK132.out 0
  have dQ := blk_frozen BK132.out 1
  have dR := blk_frozen BK132.out 2
  go_wp2
  repeat (go_quiet (fail); try go_wp2)
  go_meet
  case rel => exact ⟨_, (decide ((aA.length : Int) > 200)), (by first | rfl | (simp; done) | (simp [*]; done)), H', ⟨by first | omega | exact Nat.le_refl _⟩, ⟨by (with_reducible repeat (first | refine blk_drewN ?_ _ | refine blk_drew ?_ | refine blk_alloc ?_ _)); exact BK132.out⟩, ⟨by repeat (first | (with_reducible first | exact HB.out | apply below_alloc | apply pw_below_drewN | apply below_drew1 | refine below_set ?_ GE132.out) | exact HB.out)⟩⟩
 case rest =>
  clear HC2
  try clear dG
  try clear dH
  try clear dI
  try clear dM
  try clear dN
  try clear dO
  try clear dJ
  try clear dK
  try clear dL
  try clear dP
  try clear dQ
  try clear dR
  obtain ⟨kq, iN, rfl, HA, HJ1, BK132, HB⟩ := hcut
  cases kq with
  | zero => exact absurd HA.out (by simp [laganref04_CheckBoard.j0])
  | succ kj1 =>
   have H := HA.out
   clear HA
   simp only [laganref04_CheckBoard.j0] at H
   by_cases c7 : iN = true
   ·
    subst c7
    have H1 : (some 2) = some r := by rw [if_pos rfl] at H; exact H
    clear H
    have H := H1
    clear H1
    obtain rfl := Option.some.inj H
    go_wp2
    repeat (go_quiet (fail); try go_wp2)
    go_ret
    exact ⟨by first | rfl | (simp [errW_none, errW_some] <;> rfl) | (simp [*, errW_none, errW_some] <;> rfl), by repeat (first | (with_reducible first | exact HB.out | apply below_alloc | apply pw_below_drewN | apply below_drew1 | refine below_set ?_ GE132.out) | exact HB.out)⟩
   replace c7 := Bool.eq_false_iff.mpr c7
   subst c7
   have H1 : (laganref04_CheckBoard.l0 kj1 0 aD aA aC) = some r := by rw [if_neg (show ¬ (false = true) by decide)] at H; exact H
   clear H
   have H := H1
   clear H1
   have H' := Aside0.mk H
   clear H
   go_wp2
   repeat (go_quiet (fail); try go_wp2)
   go_loopg [3] kj1 (fun kq v3 w' => ∃ (aV : Int), v3 = .int .i64 aV ∧ Aside0 (laganref04_CheckBoard.l0 kq aV aD aA aC = some r) ∧ Aside0 (kq ≤ kj1) ∧ Aside0 (w'.heap[gb132]? = some (.cells #[(.slice aG aD.length aH), (.slice aK aA.length aI), (.slice aM aC.length aJ)] 26 (0, 0))) ∧ Aside0 (Below w.heap.size w w'))
   case atStart => exact ⟨(0), (by first | rfl | (simp; done) | (simp [*]; done)), H', ⟨Nat.le_refl _⟩, ⟨by (with_reducible repeat (first | refine blk_drewN ?_ _ | refine blk_drew ?_ | refine blk_alloc ?_ _)); exact BK132.out⟩, ⟨by repeat (first | (with_reducible first | exact HB.out | apply below_alloc | apply pw_below_drewN | apply below_drew1 | refine below_set ?_ GE132.out) | exact HB.out)⟩⟩
   clear H'
   try clear dG
   try clear dH
   try clear dI
   try clear dM
   try clear dN
   try clear dO
   try clear dJ
   try clear dK
   try clear dL
   try clear dP
   try clear dQ
   try clear dR
   obtain ⟨aV, rfl, HA, HK2, BK132, HB⟩ := hrel
   cases gk with
   | zero => exact absurd HA.out (by simp [laganref04_CheckBoard.l0])
   | succ k2 =>
    have H := HA.out
    clear HA
    simp only [laganref04_CheckBoard.l0] at H
    by_cases c8 : aV < (aD.length : Int)
    ·
     rw [if_pos c8] at H
     have c8b0 : decide (aV < (aD.length : Int)) = true := decide_eq_true c8
     clear c8
     by_cases c9 : 0 ≤ aV
     rotate_left
     ·
      rw [if_neg c9] at H
      exact absurd H (by simp)
     rw [if_pos c9] at H
     have c9b0 : decide (0 ≤ aV) = true := decide_eq_true c9
     clear c9
     by_cases c10 : (rd aD aV) < 10
     ·
      rw [if_pos c10] at H
      have c10b0 : decide ((rd aD aV) < 10) = true := decide_eq_true c10
      clear c10
      obtain rfl := Option.some.inj H
      have kA : wr.cell? ⟨gb132, 0, none⟩ = some (.slice aG aD.length aH) := (blk_cell BK132.out 0).trans rfl
      have kB : wr.cell? ⟨gb132, 1, none⟩ = some (.slice aK aA.length aI) := (blk_cell BK132.out 1).trans rfl
      have kC : wr.cell? ⟨gb132, 2, none⟩ = some (.slice aM aC.length aJ) := (blk_cell BK132.out 2).trans rfl
      have kD := blk_frozen BK132.out 0
      have kE := blk_frozen BK132.out 1
      have kF := blk_frozen BK132.out 2
      have p133 : 0 ≤ (aV : Int) := of_decide_eq_true (by assumption)
      have q133 : aV < (aD.length : Int) := of_decide_eq_true (by assumption)
      obtain ⟨ad133, e133, bR⟩ := Kd.at_int bA.out aV p133 q133
      cases e133
      replace bR := (HB.out.cell (World.block_lt_of_cell? w _ bR)).trans bR
      replace p133 := eq_true p133
      replace q133 := eq_true q133
      go_wp2
      repeat (go_quiet (fail); try go_wp2)
      go_ret
      exact ⟨by first | rfl | (simp [errW_none, errW_some] <;> rfl) | (simp [*, errW_none, errW_some] <;> rfl), by repeat (first | (with_reducible first | exact HB.out | apply below_alloc | apply pw_below_drewN | apply below_drew1 | refine below_set ?_ GE132.out) | exact HB.out)⟩
     rw [if_neg c10] at H
     have c10b0 : decide ((rd aD aV) < 10) = false := decide_eq_false c10
     clear c10
     by_cases c12 : (rd aD aV) > 10000007
     ·
      rw [if_pos c12] at H
      have c12b0 : decide (10000007 < (rd aD aV)) = true := decide_eq_true c12
      clear c12
      obtain rfl := Option.some.inj H
      have iO : wr.cell? ⟨gb132, 0, none⟩ = some (.slice aG aD.length aH) := (blk_cell BK132.out 0).trans rfl
      have iP : wr.cell? ⟨gb132, 1, none⟩ = some (.slice aK aA.length aI) := (blk_cell BK132.out 1).trans rfl
      have iQ : wr.cell? ⟨gb132, 2, none⟩ = some (.slice aM aC.length aJ) := (blk_cell BK132.out 2).trans rfl
      have iR := blk_frozen BK132.out 0
      have iS := blk_frozen BK132.out 1
      have iT := blk_frozen BK132.out 2
      have p133 : 0 ≤ (aV : Int) := of_decide_eq_true (by assumption)
      have q133 : aV < (aD.length : Int) := of_decide_eq_true (by assumption)
      obtain ⟨ad133, e133, bR⟩ := Kd.at_int bA.out aV p133 q133
      cases e133
      replace bR := (HB.out.cell (World.block_lt_of_cell? w _ bR)).trans bR
      replace p133 := eq_true p133
      replace q133 := eq_true q133
      have p134 : 0 ≤ (aV : Int) := of_decide_eq_true (by assumption)
      have q134 : aV < (aD.length : Int) := of_decide_eq_true (by assumption)
      obtain ⟨ad134, e134, bX⟩ := Kd.at_int bA.out aV p134 q134
      obtain rfl : ad133 = ad134 := (by injection e134)
      replace bX := (HB.out.cell (World.block_lt_of_cell? w _ bX)).trans bX
      replace p134 := eq_true p134
      replace q134 := eq_true q134
      go_wp2
      repeat (go_quiet (fail); try go_wp2)
      go_ret
      exact ⟨by first | rfl | (simp [errW_none, errW_some] <;> rfl) | (simp [*, errW_none, errW_some] <;> rfl), by repeat (first | (with_reducible first | exact HB.out | apply below_alloc | apply pw_below_drewN | apply below_drew1 | refine below_set ?_ GE132.out) | exact HB.out)⟩
     rw [if_neg c12] at H
     have c12b0 : decide (10000007 < (rd aD aV)) = false := decide_eq_false c12
     clear c12
     by_cases c14 : aV > 0
     rotate_left
     ·
      rw [if_neg c14] at H
      have c14b0 : decide (0 < aV) = false := decide_eq_false c14
      clear c14
      have H' := Aside0.mk H
      clear H
      have fA : wr.cell? ⟨gb132, 0, none⟩ = some (.slice aG aD.length aH) := (blk_cell BK132.out 0).trans rfl
      have fB : wr.cell? ⟨gb132, 1, none⟩ = some (.slice aK aA.length aI) := (blk_cell BK132.out 1).trans rfl
      have fC : wr.cell? ⟨gb132, 2, none⟩ = some (.slice aM aC.length aJ) := (blk_cell BK132.out 2).trans rfl
      have fD := blk_frozen BK132.out 0
      have fE := blk_frozen BK132.out 1
      have fF := blk_frozen BK132.out 2
      have p133 : 0 ≤ (aV : Int) := of_decide_eq_true (by assumption)
      have q133 : aV < (aD.length : Int) := of_decide_eq_true (by assumption)
      obtain ⟨ad133, e133, bR⟩ := Kd.at_int bA.out aV p133 q133
      cases e133
      replace bR := (HB.out.cell (World.block_lt_of_cell? w _ bR)).trans bR
      replace p133 := eq_true p133
      replace q133 := eq_true q133
      have p134 : 0 ≤ (aV : Int) := of_decide_eq_true (by assumption)
      have q134 : aV < (aD.length : Int) := of_decide_eq_true (by assumption)
      obtain ⟨ad134, e134, bX⟩ := Kd.at_int bA.out aV p134 q134
      obtain rfl : ad133 = ad134 := (by injection e134)
      replace bX := (HB.out.cell (World.block_lt_of_cell? w _ bX)).trans bX
      replace p134 := eq_true p134
      replace q134 := eq_true q134
      go_wp2
      repeat (go_quiet (fail); try go_wp2)
      go_roundg k2
      case measure => have := HJ1.out; have := HK2.out; omega
      case rel => exact ⟨(wrap64 (aV + 1)), (by first | rfl | (simp; done) | (simp [*]; done)), H', ⟨by have := HJ1.out; have := HK2.out; omega⟩, ⟨by (with_reducible repeat (first | refine blk_drewN ?_ _ | refine blk_drew ?_ | refine blk_alloc ?_ _)); exact BK132.out⟩, ⟨by repeat (first | (with_reducible first | exact HB.out | apply below_alloc | apply pw_below_drewN | apply below_drew1 | refine below_set ?_ GE132.out) | exact HB.out)⟩⟩
     rw [if_pos c14] at H
     have c14b0 : decide (0 < aV) = true := decide_eq_true c14
     clear c14
     obtain ⟨ji15, hji15⟩ : ∃ j_ : Int, (wrap64 (aV - 1)) = j_ := ⟨_, rfl⟩
     replace H : (if 0 ≤ (ji15) then (if (ji15) < (aD.length : Int) then (if (rd aD aV) ≤ (rd aD (ji15)) then (some 1) else (laganref04_CheckBoard.l0 k2 (wrap64 (aV + 1)) aD aA aC)) else (none)) else (none)) = some r := by first | (rw [hji15] at H; exact H) | (simp only [hji15] at H ⊢; exact H)
     have hji15w : (IntKind.i64.wrap (aV - 1)) = ji15 := (i64_w _).trans hji15
     by_cases c16 : 0 ≤ (ji15)
     rotate_left
     ·
      rw [if_neg c16] at H
      exact absurd H (by simp)
     rw [if_pos c16] at H
     have c16b0 : decide (0 ≤ (ji15)) = true := decide_eq_true c16
     clear c16
     by_cases c17 : (ji15) < (aD.length : Int)
     rotate_left
     ·
      rw [if_neg c17] at H
      exact absurd H (by simp)
     rw [if_pos c17] at H
     have c17b0 : decide ((ji15) < (aD.length : Int)) = true := decide_eq_true c17
     clear c17
     by_cases c18 : (rd aD aV) ≤ (rd aD (ji15))
     ·
      rw [if_pos c18] at H
      have c18b0 : decide ((rd aD aV) ≤ (rd aD (ji15))) = true := decide_eq_true c18
      clear c18
      obtain rfl := Option.some.inj H
      have fG : wr.cell? ⟨gb132, 0, none⟩ = some (.slice aG aD.length aH) := (blk_cell BK132.out 0).trans rfl
      have fH : wr.cell? ⟨gb132, 1, none⟩ = some (.slice aK aA.length aI) := (blk_cell BK132.out 1).trans rfl
      have fI : wr.cell? ⟨gb132, 2, none⟩ = some (.slice aM aC.length aJ) := (blk_cell BK132.out 2).trans rfl
      have fJ := blk_frozen BK132.out 0
      have fK := blk_frozen BK132.out 1
      have fL := blk_frozen BK132.out 2
      have p133 : 0 ≤ (aV : Int) := of_decide_eq_true (by assumption)
      have q133 : aV < (aD.length : Int) := of_decide_eq_true (by assumption)
      obtain ⟨ad133, e133, bR⟩ := Kd.at_int bA.out aV p133 q133
      cases e133
      replace bR := (HB.out.cell (World.block_lt_of_cell? w _ bR)).trans bR
      replace p133 := eq_true p133
      replace q133 := eq_true q133
      have p134 : 0 ≤ (aV : Int) := of_decide_eq_true (by assumption)
      have q134 : aV < (aD.length : Int) := of_decide_eq_true (by assumption)
      obtain ⟨ad134, e134, bX⟩ := Kd.at_int bA.out aV p134 q134
      obtain rfl : ad133 = ad134 := (by injection e134)
      replace bX := (HB.out.cell (World.block_lt_of_cell? w _ bX)).trans bX
      replace p134 := eq_true p134
      replace q134 := eq_true q134
      have p135 : 0 ≤ (aV : Int) := of_decide_eq_true (by assumption)
      have q135 : aV < (aD.length : Int) := of_decide_eq_true (by assumption)
      obtain ⟨ad135, e135, dS⟩ := Kd.at_int bA.out aV p135 q135
      obtain rfl : ad133 = ad135 := (by injection e135)
      replace dS := (HB.out.cell (World.block_lt_of_cell? w _ dS)).trans dS
      replace p135 := eq_true p135
      replace q135 := eq_true q135
      have p136 : 0 ≤ ((ji15) : Int) := of_decide_eq_true (by assumption)
      have q136 : (ji15) < (aD.length : Int) := of_decide_eq_true (by assumption)
      obtain ⟨ad136, e136, dT⟩ := Kd.at_int bA.out (ji15) p136 q136
      obtain rfl : ad133 = ad136 := (by injection e136)
      replace dT := (HB.out.cell (World.block_lt_of_cell? w _ dT)).trans dT
      replace p136 := eq_true p136
      replace q136 := eq_true q136
      go_wp2
      repeat (go_quiet (fail); try go_wp2)
      go_ret
      exact ⟨by first | rfl | (simp [errW_none, errW_some] <;> rfl) | (simp only [← hji15]; first | rfl | (simp [errW_none, errW_some] <;> rfl)) | (simp [*, errW_none, errW_some] <;> rfl), by repeat (first | (with_reducible first | exact HB.out | apply below_alloc | apply pw_below_drewN | apply below_drew1 | refine below_set ?_ GE132.out) | exact HB.out)⟩
     rw [if_neg c18] at H
     have c18b0 : decide ((rd aD aV) ≤ (rd aD (ji15))) = false := decide_eq_false c18
     clear c18
     have H' := Aside0.mk H
     clear H
     have iU : wr.cell? ⟨gb132, 0, none⟩ = some (.slice aG aD.length aH) := (blk_cell BK132.out 0).trans rfl
     have iV : wr.cell? ⟨gb132, 1, none⟩ = some (.slice aK aA.length aI) := (blk_cell BK132.out 1).trans rfl
     have iW : wr.cell? ⟨gb132, 2, none⟩ = some (.slice aM aC.length aJ) := (blk_cell BK132.out 2).trans rfl
     have iX := blk_frozen BK132.out 0
     have iY := blk_frozen BK132.out 1
     have iZ := blk_frozen BK132.out 2
     have p133 : 0 ≤ (aV : Int) := of_decide_eq_true (by assumption)
     have q133 : aV < (aD.length : Int) := of_decide_eq_true (by assumption)
     obtain ⟨ad133, e133, bR⟩ := Kd.at_int bA.out aV p133 q133
     cases e133
     replace bR := (HB.out.cell (World.block_lt_of_cell? w _ bR)).trans bR
     replace p133 := eq_true p133
     replace q133 := eq_true q133
     have p134 : 0 ≤ (aV : Int) := of_decide_eq_true (by assumption)
     have q134 : aV < (aD.length : Int) := of_decide_eq_true (by assumption)
     obtain ⟨ad134, e134, bX⟩ := Kd.at_int bA.out aV p134 q134
     obtain rfl : ad133 = ad134 := (by injection e134)
     replace bX := (HB.out.cell (World.block_lt_of_cell? w _ bX)).trans bX
     replace p134 := eq_true p134
     replace q134 := eq_true q134
     have p135 : 0 ≤ (aV : Int) := of_decide_eq_true (by assumption)
     have q135 : aV < (aD.length : Int) := of_decide_eq_true (by assumption)
     obtain ⟨ad135, e135, dS⟩ := Kd.at_int bA.out aV p135 q135
     obtain rfl : ad133 = ad135 := (by injection e135)
     replace dS := (HB.out.cell (World.block_lt_of_cell? w _ dS)).trans dS
     replace p135 := eq_true p135
     replace q135 := eq_true q135
     have p136 : 0 ≤ ((ji15) : Int) := of_decide_eq_true (by assumption)
     have q136 : (ji15) < (aD.length : Int) := of_decide_eq_true (by assumption)
     obtain ⟨ad136, e136, dT⟩ := Kd.at_int bA.out (ji15) p136 q136
     obtain rfl : ad133 = ad136 := (by injection e136)
     replace dT := (HB.out.cell (World.block_lt_of_cell? w _ dT)).trans dT
     replace p136 := eq_true p136
     replace q136 := eq_true q136
     go_wp2
     repeat (go_quiet (fail); try go_wp2)
     go_roundg k2
     case measure => have := HJ1.out; have := HK2.out; omega
     case rel => exact ⟨(wrap64 (aV + 1)), (by first | rfl | (simp; done) | (simp [*]; done)), H', ⟨by have := HJ1.out; have := HK2.out; omega⟩, ⟨by (with_reducible repeat (first | refine blk_drewN ?_ _ | refine blk_drew ?_ | refine blk_alloc ?_ _)); exact BK132.out⟩, ⟨by repeat (first | (with_reducible first | exact HB.out | apply below_alloc | apply pw_below_drewN | apply below_drew1 | refine below_set ?_ GE132.out) | exact HB.out)⟩⟩
    rw [if_neg c8] at H
    have c8b0 : decide (aV < (aD.length : Int)) = false := decide_eq_false c8
    clear c8
    have H' := Aside0.mk H
    clear H
    have fP : wr.cell? ⟨gb132, 0, none⟩ = some (.slice aG aD.length aH) := (blk_cell BK132.out 0).trans rfl
    have fQ : wr.cell? ⟨gb132, 1, none⟩ = some (.slice aK aA.length aI) := (blk_cell BK132.out 1).trans rfl
    have fR : wr.cell? ⟨gb132, 2, none⟩ = some (.slice aM aC.length aJ) := (blk_cell BK132.out 2).trans rfl
    have fS := blk_frozen BK132.out 0
    have fT := blk_frozen BK132.out 1
    have fU := blk_frozen BK132.out 2
    go_wp2
    repeat (go_quiet (fail); try go_wp2)
    go_loopg [4] k2 (fun kq v4 w' => ∃ (aU : Int), v4 = .int .i64 aU ∧ Aside0 (laganref04_CheckBoard.l1 kq aU aD aA aC = some r) ∧ Aside0 (kq ≤ k2) ∧ Aside0 (w'.heap[gb132]? = some (.cells #[(.slice aG aD.length aH), (.slice aK aA.length aI), (.slice aM aC.length aJ)] 26 (0, 0))) ∧ Aside0 (Below w.heap.size w w'))
    case atStart => exact ⟨(0), (by first | rfl | (simp; done) | (simp [*]; done)), H', ⟨Nat.le_refl _⟩, ⟨by (with_reducible repeat (first | refine blk_drewN ?_ _ | refine blk_drew ?_ | refine blk_alloc ?_ _)); exact BK132.out⟩, ⟨by repeat (first | (with_reducible first | exact HB.out | apply below_alloc | apply pw_below_drewN | apply below_drew1 | refine below_set ?_ GE132.out) | exact HB.out)⟩⟩
    clear H'
    try clear kA
    try clear kB
    try clear kC
    try clear iO
    try clear iP
    try clear iQ
    try clear fG
    try clear fH
    try clear fI
    try clear iU
    try clear iV
    try clear iW
    try clear fA
    try clear fB
    try clear fC
    try clear fP
    try clear fQ
    try clear fR
    try clear dG
    try clear dH
    try clear dI
    try clear dM
    try clear dN
    try clear dO
    try clear kD
    try clear kE
    try clear kF
    try clear iR
    try clear iS
    try clear iT
    try clear fJ
    try clear fK
    try clear fL
    try clear iX
    try clear iY
    try clear iZ
    try clear fD
    try clear fE
    try clear fF
    try clear fS
    try clear fT
    try clear fU
    try clear dJ
    try clear dK
    try clear dL
    try clear dP
    try clear dQ
    try clear dR
    try clear bR
    try clear bX
    try clear dS
    try clear dT
    obtain ⟨aU, rfl, HA, HK3, BK132, HB⟩ := hrel
    cases gk with
    | zero => exact absurd HA.out (by simp [laganref04_CheckBoard.l1])
    | succ k3 =>
     have H := HA.out
     clear HA
     simp only [laganref04_CheckBoard.l1] at H
     by_cases c23 : aU < (aA.length : Int)
     rotate_left
     ·
      rw [if_neg c23] at H
      have c23b0 : decide (aU < (aA.length : Int)) = false := decide_eq_false c23
      clear c23
      by_cases c67 : (aC.length : Int) = (aD.length : Int)
      rotate_left
      ·
       rw [if_neg c67] at H
       have c67b0 : ((aC.length : Int) == (aD.length : Int)) = false := beq_eq_false_iff_ne.mpr c67
       have c67b1 : ((aC.length : Int) != (aD.length : Int)) = true := bne_iff_ne.mpr c67
       have c67b2 : (aC.length == aD.length) = false := by first | simpa using c67 | (simp at c67 ⊢; omega)
       obtain rfl := Option.some.inj H
       have hcz76_0 : wr.cell? ⟨gb132, 0, none⟩ = some (.slice aG aD.length aH) := (blk_cell BK132.out 0).trans rfl
       have hcz76_1 : wr.cell? ⟨gb132, 1, none⟩ = some (.slice aK aA.length aI) := (blk_cell BK132.out 1).trans rfl
       have hcz76_2 : wr.cell? ⟨gb132, 2, none⟩ = some (.slice aM aC.length aJ) := (blk_cell BK132.out 2).trans rfl
       have hfz76_0 := blk_frozen BK132.out 0
       have hfz76_1 := blk_frozen BK132.out 1
       have hfz76_2 := blk_frozen BK132.out 2
       go_wp2
       repeat (go_quiet (fail); try go_wp2)
       go_ret
       exact ⟨by first | rfl | (simp [errW_none, errW_some] <;> rfl) | (simp [*, errW_none, errW_some] <;> rfl), by repeat (first | (with_reducible first | exact HB.out | apply below_alloc | apply pw_below_drewN | apply below_drew1 | refine below_set ?_ GE132.out) | exact HB.out)⟩
      rw [if_pos c67] at H
      have c67b0 : ((aC.length : Int) == (aD.length : Int)) = true := beq_iff_eq.mpr c67
      have c67b1 : ((aC.length : Int) != (aD.length : Int)) = false := bne_eq_false_iff_eq.mpr c67
      have c67b2 : (aC.length == aD.length) = true := by first | simpa using c67 | (simp at c67 ⊢; omega)
      clear c67
      have H' := Aside0.mk H
      clear H
      have oL : wr.cell? ⟨gb132, 0, none⟩ = some (.slice aG aD.length aH) := (blk_cell BK132.out 0).trans rfl
      have oM : wr.cell? ⟨gb132, 1, none⟩ = some (.slice aK aA.length aI) := (blk_cell BK132.out 1).trans rfl
      have oN : wr.cell? ⟨gb132, 2, none⟩ = some (.slice aM aC.length aJ) := (blk_cell BK132.out 2).trans rfl
      have oO := blk_frozen BK132.out 0
      have oP := blk_frozen BK132.out 1
      have oQ := blk_frozen BK132.out 2
      go_wp2
      repeat (go_quiet (fail); try go_wp2)
      go_loopg [6] k3 (fun kq v6 w' => ∃ (bQ : Int), v6 = .int .i64 bQ ∧ Aside0 (laganref04_CheckBoard.l2 kq bQ aD aA aC = some r) ∧ Aside0 (kq ≤ k3) ∧ Aside0 (w'.heap[gb132]? = some (.cells #[(.slice aG aD.length aH), (.slice aK aA.length aI), (.slice aM aC.length aJ)] 26 (0, 0))) ∧ Aside0 (Below w.heap.size w w'))
      case atStart => exact ⟨(0), (by first | rfl | (simp; done) | (simp [*]; done)), H', ⟨Nat.le_refl _⟩, ⟨by (with_reducible repeat (first | refine blk_drewN ?_ _ | refine blk_drew ?_ | refine blk_alloc ?_ _)); exact BK132.out⟩, ⟨by repeat (first | (with_reducible first | exact HB.out | apply below_alloc | apply pw_below_drewN | apply below_drew1 | refine below_set ?_ GE132.out) | exact HB.out)⟩⟩
      clear H'
      try clear kA
      try clear kB
      try clear kC
      try clear iO
      try clear iP
      try clear iQ
      try clear fG
      try clear fH
      try clear fI
      try clear iU
      try clear iV
      try clear iW
      try clear fA
      try clear fB
      try clear fC
      try clear fP
      try clear fQ
      try clear fR
      try clear jA
      try clear jB
      try clear jC
      try clear fV
      try clear fW
      try clear fX
      try clear lP
      try clear lQ
      try clear lR
      try clear lU
      try clear lV
      try clear lW
      try clear kG
      try clear kH
      try clear kI
      try clear jD
      try clear jE
      try clear jF
      try clear lX
      try clear lY
      try clear lZ
      try clear mA
      try clear mB
      try clear mC
      try clear oR
      try clear oS
      try clear oT
      try clear oU
      try clear oV
      try clear oW
      try clear oX
      try clear oY
      try clear oZ
      try clear dG
      try clear dH
      try clear dI
      try clear oL
      try clear oM
      try clear oN
      try clear dM
      try clear dN
      try clear dO
      try clear kD
      try clear kE
      try clear kF
      try clear iR
      try clear iS
      try clear iT
      try clear fJ
      try clear fK
      try clear fL
      try clear iX
      try clear iY
      try clear iZ
      try clear fD
      try clear fE
      try clear fF
      try clear fS
      try clear fT
      try clear fU
      try clear jG
      try clear jH
      try clear jI
      try clear fY
      try clear fZ
      try clear gA
      try clear mD
      try clear mE
      try clear mF
      try clear mG
      try clear mH
      try clear mI
      try clear kJ
      try clear kK
      try clear kL
      try clear jJ
      try clear jK
      try clear jL
      try clear mJ
      try clear mK
      try clear mL
      try clear mM
      try clear mN
      try clear mO
      try clear dJ
      try clear dK
      try clear dL
      try clear oO
      try clear oP
      try clear oQ
      try clear dP
      try clear dQ
      try clear dR
      try clear bR
      try clear bX
      try clear dS
      try clear dT
      try clear gB
      try clear gC
      try clear gD
      try clear dV
      try clear dW
      try clear dX
      obtain ⟨bQ, rfl, HA, HK4, BK132, HB⟩ := hrel
      cases gk with
      | zero => exact absurd HA.out (by simp [laganref04_CheckBoard.l2])
      | succ k4 =>
       have H := HA.out
       clear HA
       simp only [laganref04_CheckBoard.l2] at H
       by_cases c69 : bQ < (aC.length : Int)
       rotate_left
       ·
        rw [if_neg c69] at H
        have c69b0 : decide (bQ < (aC.length : Int)) = false := decide_eq_false c69
        clear c69
        obtain rfl := Option.some.inj H
        have hcz75_0 : wr.cell? ⟨gb132, 0, none⟩ = some (.slice aG aD.length aH) := (blk_cell BK132.out 0).trans rfl
        have hcz75_1 : wr.cell? ⟨gb132, 1, none⟩ = some (.slice aK aA.length aI) := (blk_cell BK132.out 1).trans rfl
        have hcz75_2 : wr.cell? ⟨gb132, 2, none⟩ = some (.slice aM aC.length aJ) := (blk_cell BK132.out 2).trans rfl
        have hfz75_0 := blk_frozen BK132.out 0
        have hfz75_1 := blk_frozen BK132.out 1
        have hfz75_2 := blk_frozen BK132.out 2
        go_wp2
        repeat (go_quiet (fail); try go_wp2)
        go_ret
        exact ⟨by first | rfl | (simp [errW_none, errW_some] <;> rfl) | (simp [*, errW_none, errW_some] <;> rfl), by repeat (first | (with_reducible first | exact HB.out | apply below_alloc | apply pw_below_drewN | apply below_drew1 | refine below_set ?_ GE132.out) | exact HB.out)⟩
       rw [if_pos c69] at H
       have c69b0 : decide (bQ < (aC.length : Int)) = true := decide_eq_true c69
       clear c69
       by_cases c70 : 0 ≤ bQ
       rotate_left
       ·
        rw [if_neg c70] at H
        exact absurd H (by simp)
       rw [if_pos c70] at H
       have c70b0 : decide (0 ≤ bQ) = true := decide_eq_true c70
       clear c70
       replace H := Option.bind_eq_some_iff.mp H
       obtain ⟨t143, A710, H⟩ := H
       replace H : (if t143 = true then (laganref04_CheckBoard.l2 k4 (wrap64 (bQ + 1)) aD aA aC) else (some 1)) = some r := H
       have A71 := Aside0.mk A710
       clear A710
       by_cases c72 : t143 = true
       rotate_left
       ·
        replace c72 := Bool.eq_false_iff.mpr c72
        subst c72
        have H1 : (some 1) = some r := by rw [if_neg (show ¬ (false = true) by decide)] at H; exact H
        clear H
        have H := H1
        clear H1
        obtain rfl := Option.some.inj H
        have qN : wr.cell? ⟨gb132, 0, none⟩ = some (.slice aG aD.length aH) := (blk_cell BK132.out 0).trans rfl
        have qO : wr.cell? ⟨gb132, 1, none⟩ = some (.slice aK aA.length aI) := (blk_cell BK132.out 1).trans rfl
        have qP : wr.cell? ⟨gb132, 2, none⟩ = some (.slice aM aC.length aJ) := (blk_cell BK132.out 2).trans rfl
        have qQ := blk_frozen BK132.out 0
        have qR := blk_frozen BK132.out 1
        have qS := blk_frozen BK132.out 2
        have p142 : 0 ≤ (bQ : Int) := of_decide_eq_true (by assumption)
        have q142 : bQ < (aC.length : Int) := of_decide_eq_true (by assumption)
        obtain ⟨ad142, qT, qU, e142, eI, gE, gF⟩ := at_L1 aX.out bQ p142 q142
        cases e142
        replace eI := (HB.out.cell (World.block_lt_of_cell? w _ eI)).trans eI
        have eJ := Aside0.mk gF
        have eK := Aside0.mk gE
        clear gF gE
        replace p142 := eq_true p142
        replace q142 := eq_true q142
        go_wp2_with (first | (go_at_call 62; (with_reducible refine (laganref04_ascending.calls k4 _ _ (rd_L1 aC bQ) (aA.length : Int) false _ ?side1 ?side2 A71.out).mono ?_); (case side1 => repeat (first | exact (Kd.C_below eJ.out HB.out) | (with_reducible refine Kd.C_alloc ?_ _) | (with_reducible refine Kd.C_drewN ?_ _) | (with_reducible refine Kd.C_drew ?_))); (case side2 => exact eK.out); rintro e w' ⟨rfl, ⟨nd, rfl⟩⟩; (try first | exact ⟨rfl, _, World.drewN_drewN _ _ _⟩ | exact ⟨rfl, _, Eq.trans (World.drewN_drewN _ _ _) (congrArg (World.drewN _) (Nat.add_assoc _ _ _))⟩)))
        repeat (go_quiet (first | (go_at_call 62; (with_reducible refine (laganref04_ascending.calls k4 _ _ (rd_L1 aC bQ) (aA.length : Int) false _ ?side1 ?side2 A71.out).mono ?_); (case side1 => repeat (first | exact (Kd.C_below eJ.out HB.out) | (with_reducible refine Kd.C_alloc ?_ _) | (with_reducible refine Kd.C_drewN ?_ _) | (with_reducible refine Kd.C_drew ?_))); (case side2 => exact eK.out); rintro e w' ⟨rfl, ⟨nd, rfl⟩⟩; (try first | exact ⟨rfl, _, World.drewN_drewN _ _ _⟩ | exact ⟨rfl, _, Eq.trans (World.drewN_drewN _ _ _) (congrArg (World.drewN _) (Nat.add_assoc _ _ _))⟩))); try go_wp2_with (first | (go_at_call 62; (with_reducible refine (laganref04_ascending.calls k4 _ _ (rd_L1 aC bQ) (aA.length : Int) false _ ?side1 ?side2 A71.out).mono ?_); (case side1 => repeat (first | exact (Kd.C_below eJ.out HB.out) | (with_reducible refine Kd.C_alloc ?_ _) | (with_reducible refine Kd.C_drewN ?_ _) | (with_reducible refine Kd.C_drew ?_))); (case side2 => exact eK.out); rintro e w' ⟨rfl, ⟨nd, rfl⟩⟩; (try first | exact ⟨rfl, _, World.drewN_drewN _ _ _⟩ | exact ⟨rfl, _, Eq.trans (World.drewN_drewN _ _ _) (congrArg (World.drewN _) (Nat.add_assoc _ _ _))⟩))))
        go_ret
        exact ⟨by first | rfl | (simp [errW_none, errW_some] <;> rfl) | (simp [*, errW_none, errW_some] <;> rfl), by repeat (first | (with_reducible first | exact HB.out | apply below_alloc | apply pw_below_drewN | apply below_drew1 | refine below_set ?_ GE132.out) | exact HB.out)⟩
       subst c72
       have H1 : (laganref04_CheckBoard.l2 k4 (wrap64 (bQ + 1)) aD aA aC) = some r := by rw [if_pos rfl] at H; exact H
       clear H
       have H := H1
       clear H1
       have H' := Aside0.mk H
       clear H
       have hcz73_0 : wr.cell? ⟨gb132, 0, none⟩ = some (.slice aG aD.length aH) := (blk_cell BK132.out 0).trans rfl
       have hcz73_1 : wr.cell? ⟨gb132, 1, none⟩ = some (.slice aK aA.length aI) := (blk_cell BK132.out 1).trans rfl
       have hcz73_2 : wr.cell? ⟨gb132, 2, none⟩ = some (.slice aM aC.length aJ) := (blk_cell BK132.out 2).trans rfl
       have hfz73_0 := blk_frozen BK132.out 0
       have hfz73_1 := blk_frozen BK132.out 1
       have hfz73_2 := blk_frozen BK132.out 2
       have p142 : 0 ≤ (bQ : Int) := of_decide_eq_true (by assumption)
       have q142 : bQ < (aC.length : Int) := of_decide_eq_true (by assumption)
       obtain ⟨ad142, qT, qU, e142, eI, gE, gF⟩ := at_L1 aX.out bQ p142 q142
       cases e142
       replace eI := (HB.out.cell (World.block_lt_of_cell? w _ eI)).trans eI
       have eJ := Aside0.mk gF
       have eK := Aside0.mk gE
       clear gF gE
       replace p142 := eq_true p142
       replace q142 := eq_true q142
       go_wp2_with (first | (go_at_call 62; (with_reducible refine (laganref04_ascending.calls k4 _ _ (rd_L1 aC bQ) (aA.length : Int) true _ ?side1 ?side2 A71.out).mono ?_); (case side1 => repeat (first | exact (Kd.C_below eJ.out HB.out) | (with_reducible refine Kd.C_alloc ?_ _) | (with_reducible refine Kd.C_drewN ?_ _) | (with_reducible refine Kd.C_drew ?_))); (case side2 => exact eK.out); rintro e w' ⟨rfl, ⟨nd, rfl⟩⟩; (try first | exact ⟨rfl, _, World.drewN_drewN _ _ _⟩ | exact ⟨rfl, _, Eq.trans (World.drewN_drewN _ _ _) (congrArg (World.drewN _) (Nat.add_assoc _ _ _))⟩)))
       repeat (go_quiet (first | (go_at_call 62; (with_reducible refine (laganref04_ascending.calls k4 _ _ (rd_L1 aC bQ) (aA.length : Int) true _ ?side1 ?side2 A71.out).mono ?_); (case side1 => repeat (first | exact (Kd.C_below eJ.out HB.out) | (with_reducible refine Kd.C_alloc ?_ _) | (with_reducible refine Kd.C_drewN ?_ _) | (with_reducible refine Kd.C_drew ?_))); (case side2 => exact eK.out); rintro e w' ⟨rfl, ⟨nd, rfl⟩⟩; (try first | exact ⟨rfl, _, World.drewN_drewN _ _ _⟩ | exact ⟨rfl, _, Eq.trans (World.drewN_drewN _ _ _) (congrArg (World.drewN _) (Nat.add_assoc _ _ _))⟩))); try go_wp2_with (first | (go_at_call 62; (with_reducible refine (laganref04_ascending.calls k4 _ _ (rd_L1 aC bQ) (aA.length : Int) true _ ?side1 ?side2 A71.out).mono ?_); (case side1 => repeat (first | exact (Kd.C_below eJ.out HB.out) | (with_reducible refine Kd.C_alloc ?_ _) | (with_reducible refine Kd.C_drewN ?_ _) | (with_reducible refine Kd.C_drew ?_))); (case side2 => exact eK.out); rintro e w' ⟨rfl, ⟨nd, rfl⟩⟩; (try first | exact ⟨rfl, _, World.drewN_drewN _ _ _⟩ | exact ⟨rfl, _, Eq.trans (World.drewN_drewN _ _ _) (congrArg (World.drewN _) (Nat.add_assoc _ _ _))⟩))))
       go_roundg k4
       case measure => have := HJ1.out; have := HK2.out; have := HK3.out; have := HK4.out; omega
       case rel => exact ⟨(wrap64 (bQ + 1)), (by first | rfl | (simp; done) | (simp [*]; done)), H', ⟨by have := HJ1.out; have := HK2.out; have := HK3.out; have := HK4.out; omega⟩, ⟨by (with_reducible repeat (first | refine blk_drewN ?_ _ | refine blk_drew ?_ | refine blk_alloc ?_ _)); exact BK132.out⟩, ⟨by repeat (first | (with_reducible first | exact HB.out | apply below_alloc | apply pw_below_drewN | apply below_drew1 | refine below_set ?_ GE132.out) | exact HB.out)⟩⟩
     rw [if_pos c23] at H
     have c23b0 : decide (aU < (aA.length : Int)) = true := decide_eq_true c23
     clear c23
     by_cases c24 : 0 ≤ aU
     rotate_left
     ·
      rw [if_neg c24] at H
      exact absurd H (by simp)
     rw [if_pos c24] at H
     have c24b0 : decide (0 ≤ aU) = true := decide_eq_true c24
     clear c24
     have HC25 := Aside0.mk H
     clear H
     have jA : wr.cell? ⟨gb132, 0, none⟩ = some (.slice aG aD.length aH) := (blk_cell BK132.out 0).trans rfl
     have jB : wr.cell? ⟨gb132, 1, none⟩ = some (.slice aK aA.length aI) := (blk_cell BK132.out 1).trans rfl
     have jC : wr.cell? ⟨gb132, 2, none⟩ = some (.slice aM aC.length aJ) := (blk_cell BK132.out 2).trans rfl
     have jG := blk_frozen BK132.out 0
     have jH := blk_frozen BK132.out 1
     have jI := blk_frozen BK132.out 2
     have p137 : 0 ≤ (aU : Int) := of_decide_eq_true (by assumption)
     have q137 : aU < (aA.length : Int) := of_decide_eq_true (by assumption)
     obtain ⟨ad137, e137, gB, gC, gD⟩ := at_T50 aZ.out aU p137 q137
     cases e137
     replace gB := (HB.out.cell (World.block_lt_of_cell? w _ gB)).trans gB
     replace gC := (HB.out.cell (World.block_lt_of_cell? w _ gC)).trans gC
     replace gD := (HB.out.cell (World.block_lt_of_cell? w _ gD)).trans gD
     replace p137 := eq_true p137
     replace q137 := eq_true q137
     go_upto_region 12 with (first | ((with_reducible refine gate_dst (N := 5) rfl ?_); (try (refine gate_guard (by rfl) ?_; dsimp only)); refine box_event ?hg (N := 5) ?hd (cs := #[.int .i64 0, .int .i64 0, .int .i64 0]) (t := 50) ?hr ?_; (case hd => rfl); (case hg => rfl); (case hr => first | (go_simp; done) | (go_simp; rfl)); intro gb138 hg w27 hbox hb; have n0_ := Aside0.mk (blk_below (g := gb132) (o := .cells #[.slice aG aD.length aH, .slice (some ad137) aA.length aI, .slice aM aC.length aJ] 26 (0, 0)) (by (with_reducible repeat (first | refine blk_drewN ?_ _ | refine blk_drew ?_ | refine blk_alloc ?_ _)); exact BK132.out) hb); have n1_ := Aside0.mk (below_step (by repeat (first | (with_reducible first | exact HB.out | apply below_alloc | apply pw_below_drewN | apply below_drew1 | refine below_set ?_ GE132.out) | exact HB.out)) hb); have n2_ := Aside0.mk (hbox); have n3_ := Aside0.mk ((by rw [hg]; exact (below_size (by repeat (first | (with_reducible first | exact HB.out | apply below_alloc | apply pw_below_drewN | apply below_drew1 | refine below_set ?_ GE132.out) | exact HB.out))) : w.heap.size ≤ gb138)); have n4_ := Aside0.mk ((by rw [hg]; exact (below_size (by repeat (first | (with_reducible first | exact HB.out | apply below_alloc | apply pw_below_drewN | apply below_drew1 | refine below_set ?_ GE132.out) | exact HB.out))) : w.heap.size ≤ gb138)); have n5_ := Aside0.mk ((by rw [hg]; exact Nat.ne_of_lt (blk_lt (g := gb132) (o := .cells #[.slice aG aD.length aH, .slice (some ad137) aA.length aI, .slice aM aC.length aJ] 26 (0, 0)) (by (with_reducible repeat (first | refine blk_drewN ?_ _ | refine blk_drew ?_ | refine blk_alloc ?_ _)); exact BK132.out)) : gb132 ≠ gb138)); have n6_ := Aside0.mk ((by rw [hg]; exact Nat.ne_of_gt (blk_lt (g := gb132) (o := .cells #[.slice aG aD.length aH, .slice (some ad137) aA.length aI, .slice aM aC.length aJ] 26 (0, 0)) (by (with_reducible repeat (first | refine blk_drewN ?_ _ | refine blk_drew ?_ | refine blk_alloc ?_ _)); exact BK132.out)) : gb138 ≠ gb132)); clear BK132; clear HB; have BK132 := n0_; have HB := n1_; have BK138 := n2_; have GW138 := n3_; have GE138 := n4_; have bI := n5_; have cE := n6_; clear n0_ n1_ n2_ n3_ n4_ n5_ n6_; clear hb hbox hg; have hnb28 := cE.out; have hnc28 := bI.out; have fV : w27.cell? ⟨gb138, 0, none⟩ = some (.int .i64 0) := (blk_cell BK138.out 0).trans rfl; have fW : w27.cell? ⟨gb138, 1, none⟩ = some (.int .i64 0) := (blk_cell BK138.out 1).trans rfl; have fX : w27.cell? ⟨gb138, 2, none⟩ = some (.int .i64 0) := (blk_cell BK138.out 2).trans rfl; have fY := blk_frozen BK138.out 0; have fZ := blk_frozen BK138.out 1; have gA := blk_frozen BK138.out 2))
     repeat (go_quiet (first | ((with_reducible refine gate_dst (N := 5) rfl ?_); (try (refine gate_guard (by rfl) ?_; dsimp only)); refine box_event ?hg (N := 5) ?hd (cs := #[.int .i64 0, .int .i64 0, .int .i64 0]) (t := 50) ?hr ?_; (case hd => rfl); (case hg => rfl); (case hr => first | (go_simp; done) | (go_simp; rfl)); intro gb138 hg w27 hbox hb; have n0_ := Aside0.mk (blk_below (g := gb132) (o := .cells #[.slice aG aD.length aH, .slice (some ad137) aA.length aI, .slice aM aC.length aJ] 26 (0, 0)) (by (with_reducible repeat (first | refine blk_drewN ?_ _ | refine blk_drew ?_ | refine blk_alloc ?_ _)); exact BK132.out) hb); have n1_ := Aside0.mk (below_step (by repeat (first | (with_reducible first | exact HB.out | apply below_alloc | apply pw_below_drewN | apply below_drew1 | refine below_set ?_ GE132.out) | exact HB.out)) hb); have n2_ := Aside0.mk (hbox); have n3_ := Aside0.mk ((by rw [hg]; exact (below_size (by repeat (first | (with_reducible first | exact HB.out | apply below_alloc | apply pw_below_drewN | apply below_drew1 | refine below_set ?_ GE132.out) | exact HB.out))) : w.heap.size ≤ gb138)); have n4_ := Aside0.mk ((by rw [hg]; exact (below_size (by repeat (first | (with_reducible first | exact HB.out | apply below_alloc | apply pw_below_drewN | apply below_drew1 | refine below_set ?_ GE132.out) | exact HB.out))) : w.heap.size ≤ gb138)); have n5_ := Aside0.mk ((by rw [hg]; exact Nat.ne_of_lt (blk_lt (g := gb132) (o := .cells #[.slice aG aD.length aH, .slice (some ad137) aA.length aI, .slice aM aC.length aJ] 26 (0, 0)) (by (with_reducible repeat (first | refine blk_drewN ?_ _ | refine blk_drew ?_ | refine blk_alloc ?_ _)); exact BK132.out)) : gb132 ≠ gb138)); have n6_ := Aside0.mk ((by rw [hg]; exact Nat.ne_of_gt (blk_lt (g := gb132) (o := .cells #[.slice aG aD.length aH, .slice (some ad137) aA.length aI, .slice aM aC.length aJ] 26 (0, 0)) (by (with_reducible repeat (first | refine blk_drewN ?_ _ | refine blk_drew ?_ | refine blk_alloc ?_ _)); exact BK132.out)) : gb138 ≠ gb132)); clear BK132; clear HB; have BK132 := n0_; have HB := n1_; have BK138 := n2_; have GW138 := n3_; have GE138 := n4_; have bI := n5_; have cE := n6_; clear n0_ n1_ n2_ n3_ n4_ n5_ n6_; clear hb hbox hg; have hnb28 := cE.out; have hnc28 := bI.out; have fV : w27.cell? ⟨gb138, 0, none⟩ = some (.int .i64 0) := (blk_cell BK138.out 0).trans rfl; have fW : w27.cell? ⟨gb138, 1, none⟩ = some (.int .i64 0) := (blk_cell BK138.out 1).trans rfl; have fX : w27.cell? ⟨gb138, 2, none⟩ = some (.int .i64 0) := (blk_cell BK138.out 2).trans rfl; have fY := blk_frozen BK138.out 0; have fZ := blk_frozen BK138.out 1; have gA := blk_frozen BK138.out 2)); go_upto_region 12 with (first | ((with_reducible refine gate_dst (N := 5) rfl ?_); (try (refine gate_guard (by rfl) ?_; dsimp only)); refine box_event ?hg (N := 5) ?hd (cs := #[.int .i64 0, .int .i64 0, .int .i64 0]) (t := 50) ?hr ?_; (case hd => rfl); (case hg => rfl); (case hr => first | (go_simp; done) | (go_simp; rfl)); intro gb138 hg w27 hbox hb; have n0_ := Aside0.mk (blk_below (g := gb132) (o := .cells #[.slice aG aD.length aH, .slice (some ad137) aA.length aI, .slice aM aC.length aJ] 26 (0, 0)) (by (with_reducible repeat (first | refine blk_drewN ?_ _ | refine blk_drew ?_ | refine blk_alloc ?_ _)); exact BK132.out) hb); have n1_ := Aside0.mk (below_step (by repeat (first | (with_reducible first | exact HB.out | apply below_alloc | apply pw_below_drewN | apply below_drew1 | refine below_set ?_ GE132.out) | exact HB.out)) hb); have n2_ := Aside0.mk (hbox); have n3_ := Aside0.mk ((by rw [hg]; exact (below_size (by repeat (first | (with_reducible first | exact HB.out | apply below_alloc | apply pw_below_drewN | apply below_drew1 | refine below_set ?_ GE132.out) | exact HB.out))) : w.heap.size ≤ gb138)); have n4_ := Aside0.mk ((by rw [hg]; exact (below_size (by repeat (first | (with_reducible first | exact HB.out | apply below_alloc | apply pw_below_drewN | apply below_drew1 | refine below_set ?_ GE132.out) | exact HB.out))) : w.heap.size ≤ gb138)); have n5_ := Aside0.mk ((by rw [hg]; exact Nat.ne_of_lt (blk_lt (g := gb132) (o := .cells #[.slice aG aD.length aH, .slice (some ad137) aA.length aI, .slice aM aC.length aJ] 26 (0, 0)) (by (with_reducible repeat (first | refine blk_drewN ?_ _ | refine blk_drew ?_ | refine blk_alloc ?_ _)); exact BK132.out)) : gb132 ≠ gb138)); have n6_ := Aside0.mk ((by rw [hg]; exact Nat.ne_of_gt (blk_lt (g := gb132) (o := .cells #[.slice aG aD.length aH, .slice (some ad137) aA.length aI, .slice aM aC.length aJ] 26 (0, 0)) (by (with_reducible repeat (first | refine blk_drewN ?_ _ | refine blk_drew ?_ | refine blk_alloc ?_ _)); exact BK132.out)) : gb138 ≠ gb132)); clear BK132; clear HB; have BK132 := n0_; have HB := n1_; have BK138 := n2_; have GW138 := n3_; have GE138 := n4_; have bI := n5_; have cE := n6_; clear n0_ n1_ n2_ n3_ n4_ n5_ n6_; clear hb hbox hg; have hnb28 := cE.out; have hnc28 := bI.out; have fV : w27.cell? ⟨gb138, 0, none⟩ = some (.int .i64 0) := (blk_cell BK138.out 0).trans rfl; have fW : w27.cell? ⟨gb138, 1, none⟩ = some (.int .i64 0) := (blk_cell BK138.out 1).trans rfl; have fX : w27.cell? ⟨gb138, 2, none⟩ = some (.int .i64 0) := (blk_cell BK138.out 2).trans rfl; have fY := blk_frozen BK138.out 0; have fZ := blk_frozen BK138.out 1; have gA := blk_frozen BK138.out 2)))
     (try simp only [Act.put, List.setIfInBounds_toArray, List.set_cons_zero, List.set_cons_succ])
     go_cut [95] (fun v95 wc => ∃ (kq : Nat) (jM : Bool), v95 = .bool jM ∧ Aside0 (laganref04_CheckBoard.j3 kq aU jM aD aA aC ((rd_T50 aA aU).f0) ((rd_T50 aA aU).f1) ((rd_T50 aA aU).f2) = some r) ∧ Aside0 (kq ≤ k3) ∧ Aside0 (wc.heap[gb132]? = some (.cells #[(.slice aG aD.length aH), (.slice (some ad137) aA.length aI), (.slice aM aC.length aJ)] 26 (0, 0))) ∧ Aside0 (wc.heap[gb138]? = some (.cells #[.int .i64 ((rd_T50 aA aU).f0), .int .i64 ((rd_T50 aA aU).f1), .int .i64 ((rd_T50 aA aU).f2)] 50 (0, 0))) ∧ Aside0 (Below w.heap.size w wc))
     case first =>
      have H := HC25.out
      clear HC25
      by_cases c30 : ((rd_T50 aA aU).f0) < 1
      ·
       rw [if_pos c30] at H
       have c30b0 : decide (((rd_T50 aA aU).f0) < 1) = true := decide_eq_true c30
       clear c30
       (first | rw [c30b0] | (simp only [i64_w, i32_w]; rw [c30b0]) | skip)
       have H' := Aside0.mk H
       clear H
       have hnb31 := cE.out
       have hnc31 := bI.out
       have lP : w27.cell? ⟨gb138, 0, none⟩ = some (.int .i64 0) := (blk_cell BK138.out 0).trans rfl
       have lQ : w27.cell? ⟨gb138, 1, none⟩ = some (.int .i64 0) := (blk_cell BK138.out 1).trans rfl
       have lR : w27.cell? ⟨gb138, 2, none⟩ = some (.int .i64 0) := (blk_cell BK138.out 2).trans rfl
       have mD := blk_frozen BK138.out 0
       have mE := blk_frozen BK138.out 1
       have mF := blk_frozen BK138.out 2
       go_wp2
       repeat (go_quiet (fail); try go_wp2)
       go_meet
       case rel => exact ⟨_, (true), (by first | rfl | (simp; done) | (simp [*]; done)), H', ⟨by have := HJ1.out; have := HK2.out; have := HK3.out; first | omega | exact Nat.le_refl _⟩, ⟨by (with_reducible repeat (first | refine blk_drewN ?_ _ | refine blk_drew ?_ | refine blk_alloc ?_ _)); refine blk_far ?_ bI.out _; (with_reducible repeat (first | refine blk_drewN ?_ _ | refine blk_drew ?_ | refine blk_alloc ?_ _)); refine blk_far ?_ bI.out _; (with_reducible repeat (first | refine blk_drewN ?_ _ | refine blk_drew ?_ | refine blk_alloc ?_ _)); refine blk_far ?_ bI.out _; (with_reducible repeat (first | refine blk_drewN ?_ _ | refine blk_drew ?_ | refine blk_alloc ?_ _)); exact BK132.out⟩, ⟨by (with_reducible repeat (first | refine blk_drewN ?_ _ | refine blk_drew ?_ | refine blk_alloc ?_ _)); refine blk_put (cs := #[.int .i64 ((rd_T50 aA aU).f0), .int .i64 ((rd_T50 aA aU).f1), .int .i64 0]) ?_ 2 _ rfl; (with_reducible repeat (first | refine blk_drewN ?_ _ | refine blk_drew ?_ | refine blk_alloc ?_ _)); refine blk_put (cs := #[.int .i64 ((rd_T50 aA aU).f0), .int .i64 0, .int .i64 0]) ?_ 1 _ rfl; (with_reducible repeat (first | refine blk_drewN ?_ _ | refine blk_drew ?_ | refine blk_alloc ?_ _)); refine blk_put (cs := #[.int .i64 0, .int .i64 0, .int .i64 0]) ?_ 0 _ rfl; (with_reducible repeat (first | refine blk_drewN ?_ _ | refine blk_drew ?_ | refine blk_alloc ?_ _)); exact BK138.out⟩, ⟨by repeat (first | (with_reducible first | exact HB.out | apply below_alloc | apply pw_below_drewN | apply below_drew1 | refine below_set ?_ GE132.out | refine below_set ?_ GE138.out) | exact HB.out)⟩⟩
      rw [if_neg c30] at H
      have c30b0 : decide (((rd_T50 aA aU).f0) < 1) = false := decide_eq_false c30
      clear c30
      (first | rw [c30b0] | (simp only [i64_w, i32_w]; rw [c30b0]) | skip)
      by_cases c33 : ((rd_T50 aA aU).f0) > 20
      ·
       rw [if_pos c33] at H
       have c33b0 : decide (20 < ((rd_T50 aA aU).f0)) = true := decide_eq_true c33
       clear c33
       have H' := Aside0.mk H
       clear H
       have hnb34 := cE.out
       have hnc34 := bI.out
       have lU : w27.cell? ⟨gb138, 0, none⟩ = some (.int .i64 0) := (blk_cell BK138.out 0).trans rfl
       have lV : w27.cell? ⟨gb138, 1, none⟩ = some (.int .i64 0) := (blk_cell BK138.out 1).trans rfl
       have lW : w27.cell? ⟨gb138, 2, none⟩ = some (.int .i64 0) := (blk_cell BK138.out 2).trans rfl
       have mG := blk_frozen BK138.out 0
       have mH := blk_frozen BK138.out 1
       have mI := blk_frozen BK138.out 2
       go_wp2
       repeat (go_quiet (fail); try go_wp2)
       go_meet
       case rel => exact ⟨_, (true), (by first | rfl | (simp; done) | (simp [*]; done)), H', ⟨by have := HJ1.out; have := HK2.out; have := HK3.out; first | omega | exact Nat.le_refl _⟩, ⟨by (with_reducible repeat (first | refine blk_drewN ?_ _ | refine blk_drew ?_ | refine blk_alloc ?_ _)); refine blk_far ?_ bI.out _; (with_reducible repeat (first | refine blk_drewN ?_ _ | refine blk_drew ?_ | refine blk_alloc ?_ _)); refine blk_far ?_ bI.out _; (with_reducible repeat (first | refine blk_drewN ?_ _ | refine blk_drew ?_ | refine blk_alloc ?_ _)); refine blk_far ?_ bI.out _; (with_reducible repeat (first | refine blk_drewN ?_ _ | refine blk_drew ?_ | refine blk_alloc ?_ _)); exact BK132.out⟩, ⟨by (with_reducible repeat (first | refine blk_drewN ?_ _ | refine blk_drew ?_ | refine blk_alloc ?_ _)); refine blk_put (cs := #[.int .i64 ((rd_T50 aA aU).f0), .int .i64 ((rd_T50 aA aU).f1), .int .i64 0]) ?_ 2 _ rfl; (with_reducible repeat (first | refine blk_drewN ?_ _ | refine blk_drew ?_ | refine blk_alloc ?_ _)); refine blk_put (cs := #[.int .i64 ((rd_T50 aA aU).f0), .int .i64 0, .int .i64 0]) ?_ 1 _ rfl; (with_reducible repeat (first | refine blk_drewN ?_ _ | refine blk_drew ?_ | refine blk_alloc ?_ _)); refine blk_put (cs := #[.int .i64 0, .int .i64 0, .int .i64 0]) ?_ 0 _ rfl; (with_reducible repeat (first | refine blk_drewN ?_ _ | refine blk_drew ?_ | refine blk_alloc ?_ _)); exact BK138.out⟩, ⟨by repeat (first | (with_reducible first | exact HB.out | apply below_alloc | apply pw_below_drewN | apply below_drew1 | refine below_set ?_ GE132.out | refine below_set ?_ GE138.out) | exact HB.out)⟩⟩
      rw [if_neg c33] at H
      have c33b0 : decide (20 < ((rd_T50 aA aU).f0)) = false := decide_eq_false c33
      clear c33
      by_cases c36 : ((rd_T50 aA aU).f1) < 1
      ·
       rw [if_pos c36] at H
       have c36b0 : decide (((rd_T50 aA aU).f1) < 1) = true := decide_eq_true c36
       clear c36
       have H' := Aside0.mk H
       clear H
       have hnb37 := cE.out
       have hnc37 := bI.out
       have kG : w27.cell? ⟨gb138, 0, none⟩ = some (.int .i64 0) := (blk_cell BK138.out 0).trans rfl
       have kH : w27.cell? ⟨gb138, 1, none⟩ = some (.int .i64 0) := (blk_cell BK138.out 1).trans rfl
       have kI : w27.cell? ⟨gb138, 2, none⟩ = some (.int .i64 0) := (blk_cell BK138.out 2).trans rfl
       have kJ := blk_frozen BK138.out 0
       have kK := blk_frozen BK138.out 1
       have kL := blk_frozen BK138.out 2
       go_wp2
       repeat (go_quiet (fail); try go_wp2)
       go_meet
       case rel => exact ⟨_, (true), (by first | rfl | (simp; done) | (simp [*]; done)), H', ⟨by have := HJ1.out; have := HK2.out; have := HK3.out; first | omega | exact Nat.le_refl _⟩, ⟨by (with_reducible repeat (first | refine blk_drewN ?_ _ | refine blk_drew ?_ | refine blk_alloc ?_ _)); refine blk_far ?_ bI.out _; (with_reducible repeat (first | refine blk_drewN ?_ _ | refine blk_drew ?_ | refine blk_alloc ?_ _)); refine blk_far ?_ bI.out _; (with_reducible repeat (first | refine blk_drewN ?_ _ | refine blk_drew ?_ | refine blk_alloc ?_ _)); refine blk_far ?_ bI.out _; (with_reducible repeat (first | refine blk_drewN ?_ _ | refine blk_drew ?_ | refine blk_alloc ?_ _)); exact BK132.out⟩, ⟨by (with_reducible repeat (first | refine blk_drewN ?_ _ | refine blk_drew ?_ | refine blk_alloc ?_ _)); refine blk_put (cs := #[.int .i64 ((rd_T50 aA aU).f0), .int .i64 ((rd_T50 aA aU).f1), .int .i64 0]) ?_ 2 _ rfl; (with_reducible repeat (first | refine blk_drewN ?_ _ | refine blk_drew ?_ | refine blk_alloc ?_ _)); refine blk_put (cs := #[.int .i64 ((rd_T50 aA aU).f0), .int .i64 0, .int .i64 0]) ?_ 1 _ rfl; (with_reducible repeat (first | refine blk_drewN ?_ _ | refine blk_drew ?_ | refine blk_alloc ?_ _)); refine blk_put (cs := #[.int .i64 0, .int .i64 0, .int .i64 0]) ?_ 0 _ rfl; (with_reducible repeat (first | refine blk_drewN ?_ _ | refine blk_drew ?_ | refine blk_alloc ?_ _)); exact BK138.out⟩, ⟨by repeat (first | (with_reducible first | exact HB.out | apply below_alloc | apply pw_below_drewN | apply below_drew1 | refine below_set ?_ GE132.out | refine below_set ?_ GE138.out) | exact HB.out)⟩⟩
      rw [if_neg c36] at H
      have c36b0 : decide (((rd_T50 aA aU).f1) < 1) = false := decide_eq_false c36
      clear c36
      by_cases c39 : ((rd_T50 aA aU).f1) > 200
      ·
       rw [if_pos c39] at H
       have c39b0 : decide (200 < ((rd_T50 aA aU).f1)) = true := decide_eq_true c39
       clear c39
       have H' := Aside0.mk H
       clear H
       have hnb40 := cE.out
       have hnc40 := bI.out
       have jD : w27.cell? ⟨gb138, 0, none⟩ = some (.int .i64 0) := (blk_cell BK138.out 0).trans rfl
       have jE : w27.cell? ⟨gb138, 1, none⟩ = some (.int .i64 0) := (blk_cell BK138.out 1).trans rfl
       have jF : w27.cell? ⟨gb138, 2, none⟩ = some (.int .i64 0) := (blk_cell BK138.out 2).trans rfl
       have jJ := blk_frozen BK138.out 0
       have jK := blk_frozen BK138.out 1
       have jL := blk_frozen BK138.out 2
       go_wp2
       repeat (go_quiet (fail); try go_wp2)
       go_meet
       case rel => exact ⟨_, (true), (by first | rfl | (simp; done) | (simp [*]; done)), H', ⟨by have := HJ1.out; have := HK2.out; have := HK3.out; first | omega | exact Nat.le_refl _⟩, ⟨by (with_reducible repeat (first | refine blk_drewN ?_ _ | refine blk_drew ?_ | refine blk_alloc ?_ _)); refine blk_far ?_ bI.out _; (with_reducible repeat (first | refine blk_drewN ?_ _ | refine blk_drew ?_ | refine blk_alloc ?_ _)); refine blk_far ?_ bI.out _; (with_reducible repeat (first | refine blk_drewN ?_ _ | refine blk_drew ?_ | refine blk_alloc ?_ _)); refine blk_far ?_ bI.out _; (with_reducible repeat (first | refine blk_drewN ?_ _ | refine blk_drew ?_ | refine blk_alloc ?_ _)); exact BK132.out⟩, ⟨by (with_reducible repeat (first | refine blk_drewN ?_ _ | refine blk_drew ?_ | refine blk_alloc ?_ _)); refine blk_put (cs := #[.int .i64 ((rd_T50 aA aU).f0), .int .i64 ((rd_T50 aA aU).f1), .int .i64 0]) ?_ 2 _ rfl; (with_reducible repeat (first | refine blk_drewN ?_ _ | refine blk_drew ?_ | refine blk_alloc ?_ _)); refine blk_put (cs := #[.int .i64 ((rd_T50 aA aU).f0), .int .i64 0, .int .i64 0]) ?_ 1 _ rfl; (with_reducible repeat (first | refine blk_drewN ?_ _ | refine blk_drew ?_ | refine blk_alloc ?_ _)); refine blk_put (cs := #[.int .i64 0, .int .i64 0, .int .i64 0]) ?_ 0 _ rfl; (with_reducible repeat (first | refine blk_drewN ?_ _ | refine blk_drew ?_ | refine blk_alloc ?_ _)); exact BK138.out⟩, ⟨by repeat (first | (with_reducible first | exact HB.out | apply below_alloc | apply pw_below_drewN | apply below_drew1 | refine below_set ?_ GE132.out | refine below_set ?_ GE138.out) | exact HB.out)⟩⟩
      rw [if_neg c39] at H
      have c39b0 : decide (200 < ((rd_T50 aA aU).f1)) = false := decide_eq_false c39
      clear c39
      by_cases c42 : ((rd_T50 aA aU).f2) < 1
      ·
       rw [if_pos c42] at H
       have c42b0 : decide (((rd_T50 aA aU).f2) < 1) = true := decide_eq_true c42
       clear c42
       have H' := Aside0.mk H
       clear H
       have hnb43 := cE.out
       have hnc43 := bI.out
       have lX : w27.cell? ⟨gb138, 0, none⟩ = some (.int .i64 0) := (blk_cell BK138.out 0).trans rfl
       have lY : w27.cell? ⟨gb138, 1, none⟩ = some (.int .i64 0) := (blk_cell BK138.out 1).trans rfl
       have lZ : w27.cell? ⟨gb138, 2, none⟩ = some (.int .i64 0) := (blk_cell BK138.out 2).trans rfl
       have mJ := blk_frozen BK138.out 0
       have mK := blk_frozen BK138.out 1
       have mL := blk_frozen BK138.out 2
       go_wp2
       repeat (go_quiet (fail); try go_wp2)
       go_meet
       case rel => exact ⟨_, (true), (by first | rfl | (simp; done) | (simp [*]; done)), H', ⟨by have := HJ1.out; have := HK2.out; have := HK3.out; first | omega | exact Nat.le_refl _⟩, ⟨by (with_reducible repeat (first | refine blk_drewN ?_ _ | refine blk_drew ?_ | refine blk_alloc ?_ _)); refine blk_far ?_ bI.out _; (with_reducible repeat (first | refine blk_drewN ?_ _ | refine blk_drew ?_ | refine blk_alloc ?_ _)); refine blk_far ?_ bI.out _; (with_reducible repeat (first | refine blk_drewN ?_ _ | refine blk_drew ?_ | refine blk_alloc ?_ _)); refine blk_far ?_ bI.out _; (with_reducible repeat (first | refine blk_drewN ?_ _ | refine blk_drew ?_ | refine blk_alloc ?_ _)); exact BK132.out⟩, ⟨by (with_reducible repeat (first | refine blk_drewN ?_ _ | refine blk_drew ?_ | refine blk_alloc ?_ _)); refine blk_put (cs := #[.int .i64 ((rd_T50 aA aU).f0), .int .i64 ((rd_T50 aA aU).f1), .int .i64 0]) ?_ 2 _ rfl; (with_reducible repeat (first | refine blk_drewN ?_ _ | refine blk_drew ?_ | refine blk_alloc ?_ _)); refine blk_put (cs := #[.int .i64 ((rd_T50 aA aU).f0), .int .i64 0, .int .i64 0]) ?_ 1 _ rfl; (with_reducible repeat (first | refine blk_drewN ?_ _ | refine blk_drew ?_ | refine blk_alloc ?_ _)); refine blk_put (cs := #[.int .i64 0, .int .i64 0, .int .i64 0]) ?_ 0 _ rfl; (with_reducible repeat (first | refine blk_drewN ?_ _ | refine blk_drew ?_ | refine blk_alloc ?_ _)); exact BK138.out⟩, ⟨by repeat (first | (with_reducible first | exact HB.out | apply below_alloc | apply pw_below_drewN | apply below_drew1 | refine below_set ?_ GE132.out | refine below_set ?_ GE138.out) | exact HB.out)⟩⟩
      rw [if_neg c42] at H
      have c42b0 : decide (((rd_T50 aA aU).f2) < 1) = false := decide_eq_false c42
      clear c42
      have H' := Aside0.mk H
      clear H
      have hnb45 := cE.out
      have hnc45 := bI.out
      have mA : w27.cell? ⟨gb138, 0, none⟩ = some (.int .i64 0) := (blk_cell BK138.out 0).trans rfl
      have mB : w27.cell? ⟨gb138, 1, none⟩ = some (.int .i64 0) := (blk_cell BK138.out 1).trans rfl
      have mC : w27.cell? ⟨gb138, 2, none⟩ = some (.int .i64 0) := (blk_cell BK138.out 2).trans rfl
      have mM := blk_frozen BK138.out 0
      have mN := blk_frozen BK138.out 1
      have mO := blk_frozen BK138.out 2
      go_wp2
      repeat (go_quiet (fail); try go_wp2)
      go_meet
      case rel => exact ⟨_, (decide (((rd_T50 aA aU).f2) > 20)), (by first | rfl | (simp; done) | (simp [*]; done)), H', ⟨by have := HJ1.out; have := HK2.out; have := HK3.out; first | omega | exact Nat.le_refl _⟩, ⟨by (with_reducible repeat (first | refine blk_drewN ?_ _ | refine blk_drew ?_ | refine blk_alloc ?_ _)); refine blk_far ?_ bI.out _; (with_reducible repeat (first | refine blk_drewN ?_ _ | refine blk_drew ?_ | refine blk_alloc ?_ _)); refine blk_far ?_ bI.out _; (with_reducible repeat (first | refine blk_drewN ?_ _ | refine blk_drew ?_ | refine blk_alloc ?_ _)); refine blk_far ?_ bI.out _; (with_reducible repeat (first | refine blk_drewN ?_ _ | refine blk_drew ?_ | refine blk_alloc ?_ _)); exact BK132.out⟩, ⟨by (with_reducible repeat (first | refine blk_drewN ?_ _ | refine blk_drew ?_ | refine blk_alloc ?_ _)); refine blk_put (cs := #[.int .i64 ((rd_T50 aA aU).f0), .int .i64 ((rd_T50 aA aU).f1), .int .i64 0]) ?_ 2 _ rfl; (with_reducible repeat (first | refine blk_drewN ?_ _ | refine blk_drew ?_ | refine blk_alloc ?_ _)); refine blk_put (cs := #[.int .i64 ((rd_T50 aA aU).f0), .int .i64 0, .int .i64 0]) ?_ 1 _ rfl; (with_reducible repeat (first | refine blk_drewN ?_ _ | refine blk_drew ?_ | refine blk_alloc ?_ _)); refine blk_put (cs := #[.int .i64 0, .int .i64 0, .int .i64 0]) ?_ 0 _ rfl; (with_reducible repeat (first | refine blk_drewN ?_ _ | refine blk_drew ?_ | refine blk_alloc ?_ _)); exact BK138.out⟩, ⟨by repeat (first | (with_reducible first | exact HB.out | apply below_alloc | apply pw_below_drewN | apply below_drew1 | refine below_set ?_ GE132.out | refine below_set ?_ GE138.out) | exact HB.out)⟩⟩
     case rest =>
      clear HC25
      try clear kA
      try clear kB
      try clear kC
      try clear iO
      try clear iP
      try clear iQ
      try clear fG
      try clear fH
      try clear fI
      try clear iU
      try clear iV
      try clear iW
      try clear fA
      try clear fB
      try clear fC
      try clear fP
      try clear fQ
      try clear fR
      try clear jA
      try clear jB
      try clear jC
      try clear fV
      try clear fW
      try clear fX
      try clear lP
      try clear lQ
      try clear lR
      try clear lU
      try clear lV
      try clear lW
      try clear kG
      try clear kH
      try clear kI
      try clear jD
      try clear jE
      try clear jF
      try clear lX
      try clear lY
      try clear lZ
      try clear mA
      try clear mB
      try clear mC
      try clear dG
      try clear dH
      try clear dI
      try clear dM
      try clear dN
      try clear dO
      try clear kD
      try clear kE
      try clear kF
      try clear iR
      try clear iS
      try clear iT
      try clear fJ
      try clear fK
      try clear fL
      try clear iX
      try clear iY
      try clear iZ
      try clear fD
      try clear fE
      try clear fF
      try clear fS
      try clear fT
      try clear fU
      try clear jG
      try clear jH
      try clear jI
      try clear fY
      try clear fZ
      try clear gA
      try clear mD
      try clear mE
      try clear mF
      try clear mG
      try clear mH
      try clear mI
      try clear kJ
      try clear kK
      try clear kL
      try clear jJ
      try clear jK
      try clear jL
      try clear mJ
      try clear mK
      try clear mL
      try clear mM
      try clear mN
      try clear mO
      try clear dJ
      try clear dK
      try clear dL
      try clear dP
      try clear dQ
      try clear dR
      try clear bR
      try clear bX
      try clear dS
      try clear dT
      try clear gB
      try clear gC
      try clear gD
      obtain ⟨kq, jM, rfl, HA, HJ24, BK132, BK138, HB⟩ := hcut
      cases kq with
      | zero => exact absurd HA.out (by simp [laganref04_CheckBoard.j3])
      | succ kj24 =>
       have H := HA.out
       clear HA
       simp only [laganref04_CheckBoard.j3] at H
       by_cases c47 : jM = true
       ·
        subst c47
        have H1 : (some 1) = some r := by rw [if_pos rfl] at H; exact H
        clear H
        have H := H1
        clear H1
        obtain rfl := Option.some.inj H
        go_wp2
        repeat (go_quiet (fail); try go_wp2)
        go_ret
        exact ⟨by first | rfl | (simp [errW_none, errW_some] <;> rfl) | (simp [*, errW_none, errW_some] <;> rfl), by repeat (first | (with_reducible first | exact HB.out | apply below_alloc | apply pw_below_drewN | apply below_drew1 | refine below_set ?_ GE132.out | refine below_set ?_ GE138.out) | exact HB.out)⟩
       replace c47 := Bool.eq_false_iff.mpr c47
       subst c47
       have H1 : (if aU > 0 then (if 0 ≤ (wrap64 (aU - 1)) then (if (wrap64 (aU - 1)) < (aA.length : Int) then (if ((rd_T50 aA aU).f0) < ((rd_T50 aA (wrap64 (aU - 1))).f0) then (some 1) else (if ((rd_T50 aA aU).f0) = ((rd_T50 aA (wrap64 (aU - 1))).f0) then (if ((rd_T50 aA aU).f1) ≤ ((rd_T50 aA (wrap64 (aU - 1))).f1) then (some 1) else (laganref04_CheckBoard.l1 kj24 (wrap64 (aU + 1)) aD aA aC)) else (laganref04_CheckBoard.l1 kj24 (wrap64 (aU + 1)) aD aA aC))) else (none)) else (none)) else (laganref04_CheckBoard.l1 kj24 (wrap64 (aU + 1)) aD aA aC)) = some r := by rw [if_neg (show ¬ (false = true) by decide)] at H; exact H
       clear H
       have H := H1
       clear H1
       by_cases c48 : aU > 0
       rotate_left
       ·
        rw [if_neg c48] at H
        have c48b0 : decide (0 < aU) = false := decide_eq_false c48
        clear c48
        have H' := Aside0.mk H
        clear H
        go_wp2
        repeat (go_quiet (fail); try go_wp2)
        go_roundg kj24
        case measure => have := HJ1.out; have := HK2.out; have := HK3.out; have := HJ24.out; omega
        case rel => exact ⟨(wrap64 (aU + 1)), (by first | rfl | (simp; done) | (simp [*]; done)), H', ⟨by have := HJ1.out; have := HK2.out; have := HK3.out; have := HJ24.out; omega⟩, ⟨by (with_reducible repeat (first | refine blk_drewN ?_ _ | refine blk_drew ?_ | refine blk_alloc ?_ _)); exact BK132.out⟩, ⟨by repeat (first | (with_reducible first | exact HB.out | apply below_alloc | apply pw_below_drewN | apply below_drew1 | refine below_set ?_ GE132.out | refine below_set ?_ GE138.out) | exact HB.out)⟩⟩
       rw [if_pos c48] at H
       have c48b0 : decide (0 < aU) = true := decide_eq_true c48
       clear c48
       obtain ⟨ji49, hji49⟩ : ∃ j_ : Int, (wrap64 (aU - 1)) = j_ := ⟨_, rfl⟩
       replace H : (if 0 ≤ (ji49) then (if (ji49) < (aA.length : Int) then (if ((rd_T50 aA aU).f0) < ((rd_T50 aA (ji49)).f0) then (some 1) else (if ((rd_T50 aA aU).f0) = ((rd_T50 aA (ji49)).f0) then (if ((rd_T50 aA aU).f1) ≤ ((rd_T50 aA (ji49)).f1) then (some 1) else (laganref04_CheckBoard.l1 kj24 (wrap64 (aU + 1)) aD aA aC)) else (laganref04_CheckBoard.l1 kj24 (wrap64 (aU + 1)) aD aA aC))) else (none)) else (none)) = some r := by first | (rw [hji49] at H; exact H) | (simp only [hji49] at H ⊢; exact H)
       have hji49w : (IntKind.i64.wrap (aU - 1)) = ji49 := (i64_w _).trans hji49
       by_cases c50 : 0 ≤ (ji49)
       rotate_left
       ·
        rw [if_neg c50] at H
        exact absurd H (by simp)
       rw [if_pos c50] at H
       have c50b0 : decide (0 ≤ (ji49)) = true := decide_eq_true c50
       clear c50
       by_cases c51 : (ji49) < (aA.length : Int)
       rotate_left
       ·
        rw [if_neg c51] at H
        exact absurd H (by simp)
       rw [if_pos c51] at H
       have c51b0 : decide ((ji49) < (aA.length : Int)) = true := decide_eq_true c51
       clear c51
       by_cases c52 : ((rd_T50 aA aU).f0) < ((rd_T50 aA (ji49)).f0)
       ·
        rw [if_pos c52] at H
        have c52b0 : decide (((rd_T50 aA aU).f0) < ((rd_T50 aA (ji49)).f0)) = true := decide_eq_true c52
        clear c52
        obtain rfl := Option.some.inj H
        have hnb53 := cE.out
        have hnc53 := bI.out
        have oR : wc.cell? ⟨gb138, 0, none⟩ = some (.int .i64 ((rd_T50 aA aU).f0)) := (blk_cell BK138.out 0).trans rfl
        have oS : wc.cell? ⟨gb138, 1, none⟩ = some (.int .i64 ((rd_T50 aA aU).f1)) := (blk_cell BK138.out 1).trans rfl
        have oT : wc.cell? ⟨gb138, 2, none⟩ = some (.int .i64 ((rd_T50 aA aU).f2)) := (blk_cell BK138.out 2).trans rfl
        have pP := blk_frozen BK138.out 0
        have pQ := blk_frozen BK138.out 1
        have pR := blk_frozen BK138.out 2
        have oU : wc.cell? ⟨gb132, 0, none⟩ = some (.slice aG aD.length aH) := (blk_cell BK132.out 0).trans rfl
        have oV : wc.cell? ⟨gb132, 1, none⟩ = some (.slice (some ad137) aA.length aI) := (blk_cell BK132.out 1).trans rfl
        have oW : wc.cell? ⟨gb132, 2, none⟩ = some (.slice aM aC.length aJ) := (blk_cell BK132.out 2).trans rfl
        have pS := blk_frozen BK132.out 0
        have pT := blk_frozen BK132.out 1
        have pU := blk_frozen BK132.out 2
        have p139 : 0 ≤ ((ji49) : Int) := of_decide_eq_true (by assumption)
        have q139 : (ji49) < (aA.length : Int) := of_decide_eq_true (by assumption)
        obtain ⟨ad139, e139, cA, cB, cC⟩ := at_T50 aZ.out (ji49) p139 q139
        obtain rfl : ad137 = ad139 := (by injection e139)
        replace cA := (HB.out.cell (World.block_lt_of_cell? w _ cA)).trans cA
        replace cB := (HB.out.cell (World.block_lt_of_cell? w _ cB)).trans cB
        replace cC := (HB.out.cell (World.block_lt_of_cell? w _ cC)).trans cC
        replace p139 := eq_true p139
        replace q139 := eq_true q139
        go_wp2
        repeat (go_quiet (fail); try go_wp2)
        go_ret
        exact ⟨by first | rfl | (simp [errW_none, errW_some] <;> rfl) | (simp only [← hji49]; first | rfl | (simp [errW_none, errW_some] <;> rfl)) | (simp [*, errW_none, errW_some] <;> rfl), by repeat (first | (with_reducible first | exact HB.out | apply below_alloc | apply pw_below_drewN | apply below_drew1 | refine below_set ?_ GE132.out | refine below_set ?_ GE138.out) | exact HB.out)⟩
       rw [if_neg c52] at H
       have c52b0 : decide (((rd_T50 aA aU).f0) < ((rd_T50 aA (ji49)).f0)) = false := decide_eq_false c52
       clear c52
       by_cases c56 : ((rd_T50 aA aU).f0) = ((rd_T50 aA (ji49)).f0)
       rotate_left
       ·
        rw [if_neg c56] at H
        have c56b0 : (((rd_T50 aA aU).f0) == ((rd_T50 aA (ji49)).f0)) = false := beq_eq_false_iff_ne.mpr c56
        have c56b1 : (((rd_T50 aA aU).f0) != ((rd_T50 aA (ji49)).f0)) = true := bne_iff_ne.mpr c56
        have H' := Aside0.mk H
        clear H
        have hnb64 := cE.out
        have hnc64 := bI.out
        have pJ : wc.cell? ⟨gb138, 0, none⟩ = some (.int .i64 ((rd_T50 aA aU).f0)) := (blk_cell BK138.out 0).trans rfl
        have pK : wc.cell? ⟨gb138, 1, none⟩ = some (.int .i64 ((rd_T50 aA aU).f1)) := (blk_cell BK138.out 1).trans rfl
        have pL : wc.cell? ⟨gb138, 2, none⟩ = some (.int .i64 ((rd_T50 aA aU).f2)) := (blk_cell BK138.out 2).trans rfl
        have qH := blk_frozen BK138.out 0
        have qI := blk_frozen BK138.out 1
        have qJ := blk_frozen BK138.out 2
        have pM : wc.cell? ⟨gb132, 0, none⟩ = some (.slice aG aD.length aH) := (blk_cell BK132.out 0).trans rfl
        have pN : wc.cell? ⟨gb132, 1, none⟩ = some (.slice (some ad137) aA.length aI) := (blk_cell BK132.out 1).trans rfl
        have pO : wc.cell? ⟨gb132, 2, none⟩ = some (.slice aM aC.length aJ) := (blk_cell BK132.out 2).trans rfl
        have qK := blk_frozen BK132.out 0
        have qL := blk_frozen BK132.out 1
        have qM := blk_frozen BK132.out 2
        have p139 : 0 ≤ ((ji49) : Int) := of_decide_eq_true (by assumption)
        have q139 : (ji49) < (aA.length : Int) := of_decide_eq_true (by assumption)
        obtain ⟨ad139, e139, cA, cB, cC⟩ := at_T50 aZ.out (ji49) p139 q139
        obtain rfl : ad137 = ad139 := (by injection e139)
        replace cA := (HB.out.cell (World.block_lt_of_cell? w _ cA)).trans cA
        replace cB := (HB.out.cell (World.block_lt_of_cell? w _ cB)).trans cB
        replace cC := (HB.out.cell (World.block_lt_of_cell? w _ cC)).trans cC
        replace p139 := eq_true p139
        replace q139 := eq_true q139
        have p140 : 0 ≤ ((ji49) : Int) := of_decide_eq_true (by assumption)
        have q140 : (ji49) < (aA.length : Int) := of_decide_eq_true (by assumption)
        obtain ⟨ad140, e140, cP, cQ, cR⟩ := at_T50 aZ.out (ji49) p140 q140
        obtain rfl : ad137 = ad140 := (by injection e140)
        replace cP := (HB.out.cell (World.block_lt_of_cell? w _ cP)).trans cP
        replace cQ := (HB.out.cell (World.block_lt_of_cell? w _ cQ)).trans cQ
        replace cR := (HB.out.cell (World.block_lt_of_cell? w _ cR)).trans cR
        replace p140 := eq_true p140
        replace q140 := eq_true q140
        go_wp2
        repeat (go_quiet (fail); try go_wp2)
        go_roundg kj24
        case measure => have := HJ1.out; have := HK2.out; have := HK3.out; have := HJ24.out; omega
        case rel => exact ⟨(wrap64 (aU + 1)), (by first | rfl | (simp; done) | (simp [*]; done)), H', ⟨by have := HJ1.out; have := HK2.out; have := HK3.out; have := HJ24.out; omega⟩, ⟨by (with_reducible repeat (first | refine blk_drewN ?_ _ | refine blk_drew ?_ | refine blk_alloc ?_ _)); exact BK132.out⟩, ⟨by repeat (first | (with_reducible first | exact HB.out | apply below_alloc | apply pw_below_drewN | apply below_drew1 | refine below_set ?_ GE132.out | refine below_set ?_ GE138.out) | exact HB.out)⟩⟩
       rw [if_pos c56] at H
       have c56b0 : (((rd_T50 aA aU).f0) == ((rd_T50 aA (ji49)).f0)) = true := beq_iff_eq.mpr c56
       have c56b1 : (((rd_T50 aA aU).f0) != ((rd_T50 aA (ji49)).f0)) = false := bne_eq_false_iff_eq.mpr c56
       clear c56
       by_cases c57 : ((rd_T50 aA aU).f1) ≤ ((rd_T50 aA (ji49)).f1)
       ·
        rw [if_pos c57] at H
        have c57b0 : decide (((rd_T50 aA aU).f1) ≤ ((rd_T50 aA (ji49)).f1)) = true := decide_eq_true c57
        clear c57
        obtain rfl := Option.some.inj H
        have hnb58 := cE.out
        have hnc58 := bI.out
        have oX : wc.cell? ⟨gb138, 0, none⟩ = some (.int .i64 ((rd_T50 aA aU).f0)) := (blk_cell BK138.out 0).trans rfl
        have oY : wc.cell? ⟨gb138, 1, none⟩ = some (.int .i64 ((rd_T50 aA aU).f1)) := (blk_cell BK138.out 1).trans rfl
        have oZ : wc.cell? ⟨gb138, 2, none⟩ = some (.int .i64 ((rd_T50 aA aU).f2)) := (blk_cell BK138.out 2).trans rfl
        have pV := blk_frozen BK138.out 0
        have pW := blk_frozen BK138.out 1
        have pX := blk_frozen BK138.out 2
        have pA : wc.cell? ⟨gb132, 0, none⟩ = some (.slice aG aD.length aH) := (blk_cell BK132.out 0).trans rfl
        have pB : wc.cell? ⟨gb132, 1, none⟩ = some (.slice (some ad137) aA.length aI) := (blk_cell BK132.out 1).trans rfl
        have pC : wc.cell? ⟨gb132, 2, none⟩ = some (.slice aM aC.length aJ) := (blk_cell BK132.out 2).trans rfl
        have pY := blk_frozen BK132.out 0
        have pZ := blk_frozen BK132.out 1
        have qA := blk_frozen BK132.out 2
        have p139 : 0 ≤ ((ji49) : Int) := of_decide_eq_true (by assumption)
        have q139 : (ji49) < (aA.length : Int) := of_decide_eq_true (by assumption)
        obtain ⟨ad139, e139, cA, cB, cC⟩ := at_T50 aZ.out (ji49) p139 q139
        obtain rfl : ad137 = ad139 := (by injection e139)
        replace cA := (HB.out.cell (World.block_lt_of_cell? w _ cA)).trans cA
        replace cB := (HB.out.cell (World.block_lt_of_cell? w _ cB)).trans cB
        replace cC := (HB.out.cell (World.block_lt_of_cell? w _ cC)).trans cC
        replace p139 := eq_true p139
        replace q139 := eq_true q139
        have p140 : 0 ≤ ((ji49) : Int) := of_decide_eq_true (by assumption)
        have q140 : (ji49) < (aA.length : Int) := of_decide_eq_true (by assumption)
        obtain ⟨ad140, e140, cP, cQ, cR⟩ := at_T50 aZ.out (ji49) p140 q140
        obtain rfl : ad137 = ad140 := (by injection e140)
        replace cP := (HB.out.cell (World.block_lt_of_cell? w _ cP)).trans cP
        replace cQ := (HB.out.cell (World.block_lt_of_cell? w _ cQ)).trans cQ
        replace cR := (HB.out.cell (World.block_lt_of_cell? w _ cR)).trans cR
        replace p140 := eq_true p140
        replace q140 := eq_true q140
        have p141 : 0 ≤ ((ji49) : Int) := of_decide_eq_true (by assumption)
        have q141 : (ji49) < (aA.length : Int) := of_decide_eq_true (by assumption)
        obtain ⟨ad141, e141, dV, dW, dX⟩ := at_T50 aZ.out (ji49) p141 q141
        obtain rfl : ad137 = ad141 := (by injection e141)
        replace dV := (HB.out.cell (World.block_lt_of_cell? w _ dV)).trans dV
        replace dW := (HB.out.cell (World.block_lt_of_cell? w _ dW)).trans dW
        replace dX := (HB.out.cell (World.block_lt_of_cell? w _ dX)).trans dX
        replace p141 := eq_true p141
        replace q141 := eq_true q141
        go_wp2
        repeat (go_quiet (fail); try go_wp2)
        go_ret
        exact ⟨by first | rfl | (simp [errW_none, errW_some] <;> rfl) | (simp only [← hji49]; first | rfl | (simp [errW_none, errW_some] <;> rfl)) | (simp [*, errW_none, errW_some] <;> rfl), by repeat (first | (with_reducible first | exact HB.out | apply below_alloc | apply pw_below_drewN | apply below_drew1 | refine below_set ?_ GE132.out | refine below_set ?_ GE138.out) | exact HB.out)⟩
       rw [if_neg c57] at H
       have c57b0 : decide (((rd_T50 aA aU).f1) ≤ ((rd_T50 aA (ji49)).f1)) = false := decide_eq_false c57
       clear c57
       have H' := Aside0.mk H
       clear H
       have hnb61 := cE.out
       have hnc61 := bI.out
       have pD : wc.cell? ⟨gb138, 0, none⟩ = some (.int .i64 ((rd_T50 aA aU).f0)) := (blk_cell BK138.out 0).trans rfl
       have pE : wc.cell? ⟨gb138, 1, none⟩ = some (.int .i64 ((rd_T50 aA aU).f1)) := (blk_cell BK138.out 1).trans rfl
       have pF : wc.cell? ⟨gb138, 2, none⟩ = some (.int .i64 ((rd_T50 aA aU).f2)) := (blk_cell BK138.out 2).trans rfl
       have qB := blk_frozen BK138.out 0
       have qC := blk_frozen BK138.out 1
       have qD := blk_frozen BK138.out 2
       have pG : wc.cell? ⟨gb132, 0, none⟩ = some (.slice aG aD.length aH) := (blk_cell BK132.out 0).trans rfl
       have pH : wc.cell? ⟨gb132, 1, none⟩ = some (.slice (some ad137) aA.length aI) := (blk_cell BK132.out 1).trans rfl
       have pI : wc.cell? ⟨gb132, 2, none⟩ = some (.slice aM aC.length aJ) := (blk_cell BK132.out 2).trans rfl
       have qE := blk_frozen BK132.out 0
       have qF := blk_frozen BK132.out 1
       have qG := blk_frozen BK132.out 2
       have p139 : 0 ≤ ((ji49) : Int) := of_decide_eq_true (by assumption)
       have q139 : (ji49) < (aA.length : Int) := of_decide_eq_true (by assumption)
       obtain ⟨ad139, e139, cA, cB, cC⟩ := at_T50 aZ.out (ji49) p139 q139
       obtain rfl : ad137 = ad139 := (by injection e139)
       replace cA := (HB.out.cell (World.block_lt_of_cell? w _ cA)).trans cA
       replace cB := (HB.out.cell (World.block_lt_of_cell? w _ cB)).trans cB
       replace cC := (HB.out.cell (World.block_lt_of_cell? w _ cC)).trans cC
       replace p139 := eq_true p139
       replace q139 := eq_true q139
       have p140 : 0 ≤ ((ji49) : Int) := of_decide_eq_true (by assumption)
       have q140 : (ji49) < (aA.length : Int) := of_decide_eq_true (by assumption)
       obtain ⟨ad140, e140, cP, cQ, cR⟩ := at_T50 aZ.out (ji49) p140 q140
       obtain rfl : ad137 = ad140 := (by injection e140)
       replace cP := (HB.out.cell (World.block_lt_of_cell? w _ cP)).trans cP
       replace cQ := (HB.out.cell (World.block_lt_of_cell? w _ cQ)).trans cQ
       replace cR := (HB.out.cell (World.block_lt_of_cell? w _ cR)).trans cR
       replace p140 := eq_true p140
       replace q140 := eq_true q140
       have p141 : 0 ≤ ((ji49) : Int) := of_decide_eq_true (by assumption)
       have q141 : (ji49) < (aA.length : Int) := of_decide_eq_true (by assumption)
       obtain ⟨ad141, e141, dV, dW, dX⟩ := at_T50 aZ.out (ji49) p141 q141
       obtain rfl : ad137 = ad141 := (by injection e141)
       replace dV := (HB.out.cell (World.block_lt_of_cell? w _ dV)).trans dV
       replace dW := (HB.out.cell (World.block_lt_of_cell? w _ dW)).trans dW
       replace dX := (HB.out.cell (World.block_lt_of_cell? w _ dX)).trans dX
       replace p141 := eq_true p141
       replace q141 := eq_true q141
       go_wp2
       repeat (go_quiet (fail); try go_wp2)
       go_roundg kj24
       case measure => have := HJ1.out; have := HK2.out; have := HK3.out; have := HJ24.out; omega
       case rel => exact ⟨(wrap64 (aU + 1)), (by first | rfl | (simp; done) | (simp [*]; done)), H', ⟨by have := HJ1.out; have := HK2.out; have := HK3.out; have := HJ24.out; omega⟩, ⟨by (with_reducible repeat (first | refine blk_drewN ?_ _ | refine blk_drew ?_ | refine blk_alloc ?_ _)); exact BK132.out⟩, ⟨by repeat (first | (with_reducible first | exact HB.out | apply below_alloc | apply pw_below_drewN | apply below_drew1 | refine below_set ?_ GE132.out | refine below_set ?_ GE138.out) | exact HB.out)⟩⟩
def laganref04_there.f (k : Nat) (aD : List Int) (aA : List (S50)) (aC : List (List Int)) (a1 : Int) (a2 : Int) : Option (Int) := (laganref04_CheckBoard.f k aD aA aC).bind fun t296 => (if t296 = 0 then (if a1 < 0 then (some 1) else (if a1 ≥ (aD.length : Int) then (some 1) else (if a2 < 0 then (some 1) else (if a2 ≥ (aA.length : Int) then (some 1) else (some t296))))) else (some t296))
set_option maxHeartbeats 8000000 in
set_option maxRecDepth 100000 in
theorem laganref04_there.calls (k : Nat) (aG : Option Addr) (aH : Nat) (aD : List Int) (aK : Option Addr) (aI : Nat) (aA : List (S50)) (aM : Option Addr) (aJ : Nat) (aC : List (List Int)) (a1 : Int) (a2 : Int) (r : Int) (w : World) (bC : Kd.C (Kd.int .i64) w aG aD.length aD) (bD : aD.length ≤ aH) (bE : Kd.C k50 w aK aA.length aA) (bF : aA.length ≤ aI) (bG : Kd.C (Kd.slice 3 (Kd.int .i64)) w aM aC.length aC) (bH : aC.length ≤ aJ) (h : laganref04_there.f k aD aA aC a1 a2 = some r) :
  Calls Try.prog 72 #[.agg #[.slice aG aD.length aH, .slice aK aA.length aI, .slice aM aC.length aJ], .int .i64 a1, .int .i64 a2] w fun e w' => e = .returned (.int .i64 r) ∧ Below w.heap.size w w' := by
 have hu26 := Try.underlying26
 have bA := Aside0.mk bC
 have bK := Aside0.mk bD
 clear bC bD
 have aZ := Aside0.mk bE
 have bL := Aside0.mk bF
 clear bE bF
 have aX := Aside0.mk bG
 have bM := Aside0.mk bH
 clear bG bH
 have HB := Aside0.mk (Below.refl w.heap.size w)
 have H : ((laganref04_CheckBoard.f k aD aA aC).bind fun t296 => (if t296 = 0 then (if a1 < 0 then (some 1) else (if a1 ≥ (aD.length : Int) then (some 1) else (if a2 < 0 then (some 1) else (if a2 ≥ (aA.length : Int) then (some 1) else (some t296))))) else (some t296))) = some r := h
 clear h
 replace H := Option.bind_eq_some_iff.mp H
 obtain ⟨t296, A40, H⟩ := H
 replace H : (if t296 = 0 then (if a1 < 0 then (some 1) else (if a1 ≥ (aD.length : Int) then (some 1) else (if a2 < 0 then (some 1) else (if a2 ≥ (aA.length : Int) then (some 1) else (some t296))))) else (some t296)) = some r := H
 have A4 := Aside0.mk A40
 clear A40
 by_cases c5 : t296 = 0
 rotate_left
 ·
  rw [if_neg c5] at H
  have c5b0 : (t296 == 0) = false := beq_eq_false_iff_ne.mpr c5
  have c5b1 : (t296 != 0) = true := bne_iff_ne.mpr c5
  obtain rfl := Option.some.inj H
  go_enter Try.func72, Try.ntmps72
  go_wp2_with (first | ((with_reducible refine gate_dst (N := 3) rfl ?_); (try (refine gate_guard (by rfl) ?_; dsimp only)); refine box_event ?hg (N := 3) ?hd (cs := #[.slice aG aD.length aH, .slice aK aA.length aI, .slice aM aC.length aJ]) (t := 26) ?hr ?_; (case hd => rfl); (case hg => rfl); (case hr => first | (go_simp; done) | (go_simp; rfl)); intro gb295 hg w29 hbox hb; have n0_ := Aside0.mk (below_step (by repeat (first | (with_reducible first | exact HB.out | apply below_alloc | apply pw_below_drewN | apply below_drew1) | exact HB.out)) hb); have n1_ := Aside0.mk (hbox); have n2_ := Aside0.mk ((by rw [hg]; exact (below_size (by repeat (first | (with_reducible first | exact HB.out | apply below_alloc | apply pw_below_drewN | apply below_drew1) | exact HB.out))) : w.heap.size ≤ gb295)); have n3_ := Aside0.mk ((by rw [hg]; exact (below_size (by repeat (first | (with_reducible first | exact HB.out | apply below_alloc | apply pw_below_drewN | apply below_drew1) | exact HB.out))) : w.heap.size ≤ gb295)); clear HB; have HB := n0_; have BK295 := n1_; have GW295 := n2_; have GE295 := n3_; clear n0_ n1_ n2_ n3_; clear hb hbox hg; have qV : w29.cell? ⟨gb295, 0, none⟩ = some (.slice aG aD.length aH) := (blk_cell BK295.out 0).trans rfl; have qW : w29.cell? ⟨gb295, 1, none⟩ = some (.slice aK aA.length aI) := (blk_cell BK295.out 1).trans rfl; have qX : w29.cell? ⟨gb295, 2, none⟩ = some (.slice aM aC.length aJ) := (blk_cell BK295.out 2).trans rfl; have qY := blk_frozen BK295.out 0; have qZ := blk_frozen BK295.out 1; have rA := blk_frozen BK295.out 2) | ((with_reducible refine gate_callee (f := 19) rfl ?_); refine goesL_ (some 9) rfl rfl Try.func19 (by kernel_rfl) rfl #[.agg #[.slice aG aD.length aH, .slice aK aA.length aI, .slice aM aC.length aJ]] rfl (by (try simp only [List.map_toArray, List.map_cons, List.map_nil]); first | done | rfl | (simp only [List.length_drop, List.length_take]; rfl)) ?_; (with_reducible refine (laganref04_CheckBoard.calls k _ _ aD _ _ aA _ _ aC t296 _ ?side1 ?side2 ?side3 ?side4 ?side5 ?side6 A4.out).mono ?_); (case side1 => repeat (first | exact (Kd.C_below bA.out HB.out) | (with_reducible refine Kd.C_alloc ?_ _) | (with_reducible refine Kd.C_drewN ?_ _) | (with_reducible refine Kd.C_drew ?_))); (case side2 => exact bK.out); (case side3 => repeat (first | exact (Kd.C_below aZ.out HB.out) | (with_reducible refine Kd.C_alloc ?_ _) | (with_reducible refine Kd.C_drewN ?_ _) | (with_reducible refine Kd.C_drew ?_))); (case side4 => exact bL.out); (case side5 => repeat (first | exact (Kd.C_below aX.out HB.out) | (with_reducible refine Kd.C_alloc ?_ _) | (with_reducible refine Kd.C_drewN ?_ _) | (with_reducible refine Kd.C_drew ?_))); (case side6 => exact bM.out); rintro e w31 ⟨rfl, hb⟩; refine ⟨_, rfl, ?_⟩; have n0_ := Aside0.mk (blk_below (g := gb295) (o := .cells #[.slice aG aD.length aH, .slice aK aA.length aI, .slice aM aC.length aJ] 26 (0, 0)) (by (with_reducible repeat (first | refine blk_drewN ?_ _ | refine blk_drew ?_ | refine blk_alloc ?_ _)); exact BK295.out) hb); have n1_ := Aside0.mk (below_step (by repeat (first | (with_reducible first | exact HB.out | apply below_alloc | apply pw_below_drewN | apply below_drew1 | refine below_set ?_ GE295.out) | exact HB.out)) hb); clear BK295; clear HB; have BK295 := n0_; have HB := n1_; clear n0_ n1_; (try clear hb); (try clear hb2); (try clear hk); (try clear hi)))
  go_ret
  exact ⟨by first | rfl | (simp [errW_none, errW_some] <;> rfl) | (simp [*, errW_none, errW_some] <;> rfl), by repeat (first | (with_reducible first | exact HB.out | apply below_alloc | apply pw_below_drewN | apply below_drew1 | refine below_set ?_ GE295.out) | exact HB.out)⟩
 rw [if_pos c5] at H
 have c5b0 : (t296 == 0) = true := beq_iff_eq.mpr c5
 have c5b1 : (t296 != 0) = false := bne_eq_false_iff_eq.mpr c5
 clear c5
 by_cases c6 : a1 < 0
 ·
  rw [if_pos c6] at H
  have c6b0 : decide (a1 < 0) = true := decide_eq_true c6
  clear c6
  obtain rfl := Option.some.inj H
  go_enter Try.func72, Try.ntmps72
  go_wp2_with (first | ((with_reducible refine gate_dst (N := 3) rfl ?_); (try (refine gate_guard (by rfl) ?_; dsimp only)); refine box_event ?hg (N := 3) ?hd (cs := #[.slice aG aD.length aH, .slice aK aA.length aI, .slice aM aC.length aJ]) (t := 26) ?hr ?_; (case hd => rfl); (case hg => rfl); (case hr => first | (go_simp; done) | (go_simp; rfl)); intro gb295 hg w7 hbox hb; have n0_ := Aside0.mk (below_step (by repeat (first | (with_reducible first | exact HB.out | apply below_alloc | apply pw_below_drewN | apply below_drew1) | exact HB.out)) hb); have n1_ := Aside0.mk (hbox); have n2_ := Aside0.mk ((by rw [hg]; exact (below_size (by repeat (first | (with_reducible first | exact HB.out | apply below_alloc | apply pw_below_drewN | apply below_drew1) | exact HB.out))) : w.heap.size ≤ gb295)); have n3_ := Aside0.mk ((by rw [hg]; exact (below_size (by repeat (first | (with_reducible first | exact HB.out | apply below_alloc | apply pw_below_drewN | apply below_drew1) | exact HB.out))) : w.heap.size ≤ gb295)); clear HB; have HB := n0_; have BK295 := n1_; have GW295 := n2_; have GE295 := n3_; clear n0_ n1_ n2_ n3_; clear hb hbox hg; have kM : w7.cell? ⟨gb295, 0, none⟩ = some (.slice aG aD.length aH) := (blk_cell BK295.out 0).trans rfl; have kN : w7.cell? ⟨gb295, 1, none⟩ = some (.slice aK aA.length aI) := (blk_cell BK295.out 1).trans rfl; have kO : w7.cell? ⟨gb295, 2, none⟩ = some (.slice aM aC.length aJ) := (blk_cell BK295.out 2).trans rfl; have kP := blk_frozen BK295.out 0; have kQ := blk_frozen BK295.out 1; have kR := blk_frozen BK295.out 2) | ((with_reducible refine gate_callee (f := 19) rfl ?_); refine goesL_ (some 9) rfl rfl Try.func19 (by kernel_rfl) rfl #[.agg #[.slice aG aD.length aH, .slice aK aA.length aI, .slice aM aC.length aJ]] rfl (by (try simp only [List.map_toArray, List.map_cons, List.map_nil]); first | done | rfl | (simp only [List.length_drop, List.length_take]; rfl)) ?_; (with_reducible refine (laganref04_CheckBoard.calls k _ _ aD _ _ aA _ _ aC t296 _ ?side1 ?side2 ?side3 ?side4 ?side5 ?side6 A4.out).mono ?_); (case side1 => repeat (first | exact (Kd.C_below bA.out HB.out) | (with_reducible refine Kd.C_alloc ?_ _) | (with_reducible refine Kd.C_drewN ?_ _) | (with_reducible refine Kd.C_drew ?_))); (case side2 => exact bK.out); (case side3 => repeat (first | exact (Kd.C_below aZ.out HB.out) | (with_reducible refine Kd.C_alloc ?_ _) | (with_reducible refine Kd.C_drewN ?_ _) | (with_reducible refine Kd.C_drew ?_))); (case side4 => exact bL.out); (case side5 => repeat (first | exact (Kd.C_below aX.out HB.out) | (with_reducible refine Kd.C_alloc ?_ _) | (with_reducible refine Kd.C_drewN ?_ _) | (with_reducible refine Kd.C_drew ?_))); (case side6 => exact bM.out); rintro e w9 ⟨rfl, hb⟩; refine ⟨_, rfl, ?_⟩; have n0_ := Aside0.mk (blk_below (g := gb295) (o := .cells #[.slice aG aD.length aH, .slice aK aA.length aI, .slice aM aC.length aJ] 26 (0, 0)) (by (with_reducible repeat (first | refine blk_drewN ?_ _ | refine blk_drew ?_ | refine blk_alloc ?_ _)); exact BK295.out) hb); have n1_ := Aside0.mk (below_step (by repeat (first | (with_reducible first | exact HB.out | apply below_alloc | apply pw_below_drewN | apply below_drew1 | refine below_set ?_ GE295.out) | exact HB.out)) hb); clear BK295; clear HB; have BK295 := n0_; have HB := n1_; clear n0_ n1_; (try clear hb); (try clear hb2); (try clear hk); (try clear hi)))
  go_ret
  exact ⟨by first | rfl | (simp [errW_none, errW_some] <;> rfl) | (simp [*, errW_none, errW_some] <;> rfl), by repeat (first | (with_reducible first | exact HB.out | apply below_alloc | apply pw_below_drewN | apply below_drew1 | refine below_set ?_ GE295.out) | exact HB.out)⟩
 rw [if_neg c6] at H
 have c6b0 : decide (a1 < 0) = false := decide_eq_false c6
 clear c6
 by_cases c10 : a1 ≥ (aD.length : Int)
 ·
  rw [if_pos c10] at H
  have c10b0 : decide ((aD.length : Int) ≤ a1) = true := decide_eq_true c10
  clear c10
  obtain rfl := Option.some.inj H
  go_enter Try.func72, Try.ntmps72
  go_wp2_with (first | ((with_reducible refine gate_dst (N := 3) rfl ?_); (try (refine gate_guard (by rfl) ?_; dsimp only)); refine box_event ?hg (N := 3) ?hd (cs := #[.slice aG aD.length aH, .slice aK aA.length aI, .slice aM aC.length aJ]) (t := 26) ?hr ?_; (case hd => rfl); (case hg => rfl); (case hr => first | (go_simp; done) | (go_simp; rfl)); intro gb295 hg w11 hbox hb; have n0_ := Aside0.mk (below_step (by repeat (first | (with_reducible first | exact HB.out | apply below_alloc | apply pw_below_drewN | apply below_drew1) | exact HB.out)) hb); have n1_ := Aside0.mk (hbox); have n2_ := Aside0.mk ((by rw [hg]; exact (below_size (by repeat (first | (with_reducible first | exact HB.out | apply below_alloc | apply pw_below_drewN | apply below_drew1) | exact HB.out))) : w.heap.size ≤ gb295)); have n3_ := Aside0.mk ((by rw [hg]; exact (below_size (by repeat (first | (with_reducible first | exact HB.out | apply below_alloc | apply pw_below_drewN | apply below_drew1) | exact HB.out))) : w.heap.size ≤ gb295)); clear HB; have HB := n0_; have BK295 := n1_; have GW295 := n2_; have GE295 := n3_; clear n0_ n1_ n2_ n3_; clear hb hbox hg; have kS : w11.cell? ⟨gb295, 0, none⟩ = some (.slice aG aD.length aH) := (blk_cell BK295.out 0).trans rfl; have kT : w11.cell? ⟨gb295, 1, none⟩ = some (.slice aK aA.length aI) := (blk_cell BK295.out 1).trans rfl; have kU : w11.cell? ⟨gb295, 2, none⟩ = some (.slice aM aC.length aJ) := (blk_cell BK295.out 2).trans rfl; have kV := blk_frozen BK295.out 0; have kW := blk_frozen BK295.out 1; have kX := blk_frozen BK295.out 2) | ((with_reducible refine gate_callee (f := 19) rfl ?_); refine goesL_ (some 9) rfl rfl Try.func19 (by kernel_rfl) rfl #[.agg #[.slice aG aD.length aH, .slice aK aA.length aI, .slice aM aC.length aJ]] rfl (by (try simp only [List.map_toArray, List.map_cons, List.map_nil]); first | done | rfl | (simp only [List.length_drop, List.length_take]; rfl)) ?_; (with_reducible refine (laganref04_CheckBoard.calls k _ _ aD _ _ aA _ _ aC t296 _ ?side1 ?side2 ?side3 ?side4 ?side5 ?side6 A4.out).mono ?_); (case side1 => repeat (first | exact (Kd.C_below bA.out HB.out) | (with_reducible refine Kd.C_alloc ?_ _) | (with_reducible refine Kd.C_drewN ?_ _) | (with_reducible refine Kd.C_drew ?_))); (case side2 => exact bK.out); (case side3 => repeat (first | exact (Kd.C_below aZ.out HB.out) | (with_reducible refine Kd.C_alloc ?_ _) | (with_reducible refine Kd.C_drewN ?_ _) | (with_reducible refine Kd.C_drew ?_))); (case side4 => exact bL.out); (case side5 => repeat (first | exact (Kd.C_below aX.out HB.out) | (with_reducible refine Kd.C_alloc ?_ _) | (with_reducible refine Kd.C_drewN ?_ _) | (with_reducible refine Kd.C_drew ?_))); (case side6 => exact bM.out); rintro e w13 ⟨rfl, hb⟩; refine ⟨_, rfl, ?_⟩; have n0_ := Aside0.mk (blk_below (g := gb295) (o := .cells #[.slice aG aD.length aH, .slice aK aA.length aI, .slice aM aC.length aJ] 26 (0, 0)) (by (with_reducible repeat (first | refine blk_drewN ?_ _ | refine blk_drew ?_ | refine blk_alloc ?_ _)); exact BK295.out) hb); have n1_ := Aside0.mk (below_step (by repeat (first | (with_reducible first | exact HB.out | apply below_alloc | apply pw_below_drewN | apply below_drew1 | refine below_set ?_ GE295.out) | exact HB.out)) hb); clear BK295; clear HB; have BK295 := n0_; have HB := n1_; clear n0_ n1_; (try clear hb); (try clear hb2); (try clear hk); (try clear hi); have mP : w13.cell? ⟨gb295, 0, none⟩ = some (.slice aG aD.length aH) := (blk_cell BK295.out 0).trans rfl; have mQ : w13.cell? ⟨gb295, 1, none⟩ = some (.slice aK aA.length aI) := (blk_cell BK295.out 1).trans rfl; have mR : w13.cell? ⟨gb295, 2, none⟩ = some (.slice aM aC.length aJ) := (blk_cell BK295.out 2).trans rfl; have mS := blk_frozen BK295.out 0; have mT := blk_frozen BK295.out 1; have mU := blk_frozen BK295.out 2))
  go_ret
  exact ⟨by first | rfl | (simp [errW_none, errW_some] <;> rfl) | (simp [*, errW_none, errW_some] <;> rfl), by repeat (first | (with_reducible first | exact HB.out | apply below_alloc | apply pw_below_drewN | apply below_drew1 | refine below_set ?_ GE295.out) | exact HB.out)⟩
 rw [if_neg c10] at H
 have c10b0 : decide ((aD.length : Int) ≤ a1) = false := decide_eq_false c10
 clear c10
 by_cases c15 : a2 < 0
 ·
  rw [if_pos c15] at H
  have c15b0 : decide (a2 < 0) = true := decide_eq_true c15
  clear c15
  obtain rfl := Option.some.inj H
  go_enter Try.func72, Try.ntmps72
  go_wp2_with (first | ((with_reducible refine gate_dst (N := 3) rfl ?_); (try (refine gate_guard (by rfl) ?_; dsimp only)); refine box_event ?hg (N := 3) ?hd (cs := #[.slice aG aD.length aH, .slice aK aA.length aI, .slice aM aC.length aJ]) (t := 26) ?hr ?_; (case hd => rfl); (case hg => rfl); (case hr => first | (go_simp; done) | (go_simp; rfl)); intro gb295 hg w16 hbox hb; have n0_ := Aside0.mk (below_step (by repeat (first | (with_reducible first | exact HB.out | apply below_alloc | apply pw_below_drewN | apply below_drew1) | exact HB.out)) hb); have n1_ := Aside0.mk (hbox); have n2_ := Aside0.mk ((by rw [hg]; exact (below_size (by repeat (first | (with_reducible first | exact HB.out | apply below_alloc | apply pw_below_drewN | apply below_drew1) | exact HB.out))) : w.heap.size ≤ gb295)); have n3_ := Aside0.mk ((by rw [hg]; exact (below_size (by repeat (first | (with_reducible first | exact HB.out | apply below_alloc | apply pw_below_drewN | apply below_drew1) | exact HB.out))) : w.heap.size ≤ gb295)); clear HB; have HB := n0_; have BK295 := n1_; have GW295 := n2_; have GE295 := n3_; clear n0_ n1_ n2_ n3_; clear hb hbox hg; have rB : w16.cell? ⟨gb295, 0, none⟩ = some (.slice aG aD.length aH) := (blk_cell BK295.out 0).trans rfl; have rC : w16.cell? ⟨gb295, 1, none⟩ = some (.slice aK aA.length aI) := (blk_cell BK295.out 1).trans rfl; have rD : w16.cell? ⟨gb295, 2, none⟩ = some (.slice aM aC.length aJ) := (blk_cell BK295.out 2).trans rfl; have rE := blk_frozen BK295.out 0; have rF := blk_frozen BK295.out 1; have rG := blk_frozen BK295.out 2) | ((with_reducible refine gate_callee (f := 19) rfl ?_); refine goesL_ (some 9) rfl rfl Try.func19 (by kernel_rfl) rfl #[.agg #[.slice aG aD.length aH, .slice aK aA.length aI, .slice aM aC.length aJ]] rfl (by (try simp only [List.map_toArray, List.map_cons, List.map_nil]); first | done | rfl | (simp only [List.length_drop, List.length_take]; rfl)) ?_; (with_reducible refine (laganref04_CheckBoard.calls k _ _ aD _ _ aA _ _ aC t296 _ ?side1 ?side2 ?side3 ?side4 ?side5 ?side6 A4.out).mono ?_); (case side1 => repeat (first | exact (Kd.C_below bA.out HB.out) | (with_reducible refine Kd.C_alloc ?_ _) | (with_reducible refine Kd.C_drewN ?_ _) | (with_reducible refine Kd.C_drew ?_))); (case side2 => exact bK.out); (case side3 => repeat (first | exact (Kd.C_below aZ.out HB.out) | (with_reducible refine Kd.C_alloc ?_ _) | (with_reducible refine Kd.C_drewN ?_ _) | (with_reducible refine Kd.C_drew ?_))); (case side4 => exact bL.out); (case side5 => repeat (first | exact (Kd.C_below aX.out HB.out) | (with_reducible refine Kd.C_alloc ?_ _) | (with_reducible refine Kd.C_drewN ?_ _) | (with_reducible refine Kd.C_drew ?_))); (case side6 => exact bM.out); rintro e w18 ⟨rfl, hb⟩; refine ⟨_, rfl, ?_⟩; have n0_ := Aside0.mk (blk_below (g := gb295) (o := .cells #[.slice aG aD.length aH, .slice aK aA.length aI, .slice aM aC.length aJ] 26 (0, 0)) (by (with_reducible repeat (first | refine blk_drewN ?_ _ | refine blk_drew ?_ | refine blk_alloc ?_ _)); exact BK295.out) hb); have n1_ := Aside0.mk (below_step (by repeat (first | (with_reducible first | exact HB.out | apply below_alloc | apply pw_below_drewN | apply below_drew1 | refine below_set ?_ GE295.out) | exact HB.out)) hb); clear BK295; clear HB; have BK295 := n0_; have HB := n1_; clear n0_ n1_; (try clear hb); (try clear hb2); (try clear hk); (try clear hi); have fG : w18.cell? ⟨gb295, 0, none⟩ = some (.slice aG aD.length aH) := (blk_cell BK295.out 0).trans rfl; have fH : w18.cell? ⟨gb295, 1, none⟩ = some (.slice aK aA.length aI) := (blk_cell BK295.out 1).trans rfl; have fI : w18.cell? ⟨gb295, 2, none⟩ = some (.slice aM aC.length aJ) := (blk_cell BK295.out 2).trans rfl; have fJ := blk_frozen BK295.out 0; have fK := blk_frozen BK295.out 1; have fL := blk_frozen BK295.out 2))
  go_ret
  exact ⟨by first | rfl | (simp [errW_none, errW_some] <;> rfl) | (simp [*, errW_none, errW_some] <;> rfl), by repeat (first | (with_reducible first | exact HB.out | apply below_alloc | apply pw_below_drewN | apply below_drew1 | refine below_set ?_ GE295.out) | exact HB.out)⟩
 rw [if_neg c15] at H
 have c15b0 : decide (a2 < 0) = false := decide_eq_false c15
 clear c15
 by_cases c20 : a2 ≥ (aA.length : Int)
 ·
  rw [if_pos c20] at H
  have c20b0 : decide ((aA.length : Int) ≤ a2) = true := decide_eq_true c20
  clear c20
  obtain rfl := Option.some.inj H
  go_enter Try.func72, Try.ntmps72
  go_wp2_with (first | ((with_reducible refine gate_dst (N := 3) rfl ?_); (try (refine gate_guard (by rfl) ?_; dsimp only)); refine box_event ?hg (N := 3) ?hd (cs := #[.slice aG aD.length aH, .slice aK aA.length aI, .slice aM aC.length aJ]) (t := 26) ?hr ?_; (case hd => rfl); (case hg => rfl); (case hr => first | (go_simp; done) | (go_simp; rfl)); intro gb295 hg w21 hbox hb; have n0_ := Aside0.mk (below_step (by repeat (first | (with_reducible first | exact HB.out | apply below_alloc | apply pw_below_drewN | apply below_drew1) | exact HB.out)) hb); have n1_ := Aside0.mk (hbox); have n2_ := Aside0.mk ((by rw [hg]; exact (below_size (by repeat (first | (with_reducible first | exact HB.out | apply below_alloc | apply pw_below_drewN | apply below_drew1) | exact HB.out))) : w.heap.size ≤ gb295)); have n3_ := Aside0.mk ((by rw [hg]; exact (below_size (by repeat (first | (with_reducible first | exact HB.out | apply below_alloc | apply pw_below_drewN | apply below_drew1) | exact HB.out))) : w.heap.size ≤ gb295)); clear HB; have HB := n0_; have BK295 := n1_; have GW295 := n2_; have GE295 := n3_; clear n0_ n1_ n2_ n3_; clear hb hbox hg; have fP : w21.cell? ⟨gb295, 0, none⟩ = some (.slice aG aD.length aH) := (blk_cell BK295.out 0).trans rfl; have fQ : w21.cell? ⟨gb295, 1, none⟩ = some (.slice aK aA.length aI) := (blk_cell BK295.out 1).trans rfl; have fR : w21.cell? ⟨gb295, 2, none⟩ = some (.slice aM aC.length aJ) := (blk_cell BK295.out 2).trans rfl; have fS := blk_frozen BK295.out 0; have fT := blk_frozen BK295.out 1; have fU := blk_frozen BK295.out 2) | ((with_reducible refine gate_callee (f := 19) rfl ?_); refine goesL_ (some 9) rfl rfl Try.func19 (by kernel_rfl) rfl #[.agg #[.slice aG aD.length aH, .slice aK aA.length aI, .slice aM aC.length aJ]] rfl (by (try simp only [List.map_toArray, List.map_cons, List.map_nil]); first | done | rfl | (simp only [List.length_drop, List.length_take]; rfl)) ?_; (with_reducible refine (laganref04_CheckBoard.calls k _ _ aD _ _ aA _ _ aC t296 _ ?side1 ?side2 ?side3 ?side4 ?side5 ?side6 A4.out).mono ?_); (case side1 => repeat (first | exact (Kd.C_below bA.out HB.out) | (with_reducible refine Kd.C_alloc ?_ _) | (with_reducible refine Kd.C_drewN ?_ _) | (with_reducible refine Kd.C_drew ?_))); (case side2 => exact bK.out); (case side3 => repeat (first | exact (Kd.C_below aZ.out HB.out) | (with_reducible refine Kd.C_alloc ?_ _) | (with_reducible refine Kd.C_drewN ?_ _) | (with_reducible refine Kd.C_drew ?_))); (case side4 => exact bL.out); (case side5 => repeat (first | exact (Kd.C_below aX.out HB.out) | (with_reducible refine Kd.C_alloc ?_ _) | (with_reducible refine Kd.C_drewN ?_ _) | (with_reducible refine Kd.C_drew ?_))); (case side6 => exact bM.out); rintro e w23 ⟨rfl, hb⟩; refine ⟨_, rfl, ?_⟩; have n0_ := Aside0.mk (blk_below (g := gb295) (o := .cells #[.slice aG aD.length aH, .slice aK aA.length aI, .slice aM aC.length aJ] 26 (0, 0)) (by (with_reducible repeat (first | refine blk_drewN ?_ _ | refine blk_drew ?_ | refine blk_alloc ?_ _)); exact BK295.out) hb); have n1_ := Aside0.mk (below_step (by repeat (first | (with_reducible first | exact HB.out | apply below_alloc | apply pw_below_drewN | apply below_drew1 | refine below_set ?_ GE295.out) | exact HB.out)) hb); clear BK295; clear HB; have BK295 := n0_; have HB := n1_; clear n0_ n1_; (try clear hb); (try clear hb2); (try clear hk); (try clear hi); have mV : w23.cell? ⟨gb295, 0, none⟩ = some (.slice aG aD.length aH) := (blk_cell BK295.out 0).trans rfl; have mW : w23.cell? ⟨gb295, 1, none⟩ = some (.slice aK aA.length aI) := (blk_cell BK295.out 1).trans rfl; have mX : w23.cell? ⟨gb295, 2, none⟩ = some (.slice aM aC.length aJ) := (blk_cell BK295.out 2).trans rfl; have mY := blk_frozen BK295.out 0; have mZ := blk_frozen BK295.out 1; have nA := blk_frozen BK295.out 2))
  go_ret
  exact ⟨by first | rfl | (simp [errW_none, errW_some] <;> rfl) | (simp [*, errW_none, errW_some] <;> rfl), by repeat (first | (with_reducible first | exact HB.out | apply below_alloc | apply pw_below_drewN | apply below_drew1 | refine below_set ?_ GE295.out) | exact HB.out)⟩
 rw [if_neg c20] at H
 have c20b0 : decide ((aA.length : Int) ≤ a2) = false := decide_eq_false c20
 clear c20
 obtain rfl := Option.some.inj H
 go_enter Try.func72, Try.ntmps72
 go_wp2_with (first | ((with_reducible refine gate_dst (N := 3) rfl ?_); (try (refine gate_guard (by rfl) ?_; dsimp only)); refine box_event ?hg (N := 3) ?hd (cs := #[.slice aG aD.length aH, .slice aK aA.length aI, .slice aM aC.length aJ]) (t := 26) ?hr ?_; (case hd => rfl); (case hg => rfl); (case hr => first | (go_simp; done) | (go_simp; rfl)); intro gb295 hg w25 hbox hb; have n0_ := Aside0.mk (below_step (by repeat (first | (with_reducible first | exact HB.out | apply below_alloc | apply pw_below_drewN | apply below_drew1) | exact HB.out)) hb); have n1_ := Aside0.mk (hbox); have n2_ := Aside0.mk ((by rw [hg]; exact (below_size (by repeat (first | (with_reducible first | exact HB.out | apply below_alloc | apply pw_below_drewN | apply below_drew1) | exact HB.out))) : w.heap.size ≤ gb295)); have n3_ := Aside0.mk ((by rw [hg]; exact (below_size (by repeat (first | (with_reducible first | exact HB.out | apply below_alloc | apply pw_below_drewN | apply below_drew1) | exact HB.out))) : w.heap.size ≤ gb295)); clear HB; have HB := n0_; have BK295 := n1_; have GW295 := n2_; have GE295 := n3_; clear n0_ n1_ n2_ n3_; clear hb hbox hg; have jA : w25.cell? ⟨gb295, 0, none⟩ = some (.slice aG aD.length aH) := (blk_cell BK295.out 0).trans rfl; have jB : w25.cell? ⟨gb295, 1, none⟩ = some (.slice aK aA.length aI) := (blk_cell BK295.out 1).trans rfl; have jC : w25.cell? ⟨gb295, 2, none⟩ = some (.slice aM aC.length aJ) := (blk_cell BK295.out 2).trans rfl; have jG := blk_frozen BK295.out 0; have jH := blk_frozen BK295.out 1; have jI := blk_frozen BK295.out 2) | ((with_reducible refine gate_callee (f := 19) rfl ?_); refine goesL_ (some 9) rfl rfl Try.func19 (by kernel_rfl) rfl #[.agg #[.slice aG aD.length aH, .slice aK aA.length aI, .slice aM aC.length aJ]] rfl (by (try simp only [List.map_toArray, List.map_cons, List.map_nil]); first | done | rfl | (simp only [List.length_drop, List.length_take]; rfl)) ?_; (with_reducible refine (laganref04_CheckBoard.calls k _ _ aD _ _ aA _ _ aC t296 _ ?side1 ?side2 ?side3 ?side4 ?side5 ?side6 A4.out).mono ?_); (case side1 => repeat (first | exact (Kd.C_below bA.out HB.out) | (with_reducible refine Kd.C_alloc ?_ _) | (with_reducible refine Kd.C_drewN ?_ _) | (with_reducible refine Kd.C_drew ?_))); (case side2 => exact bK.out); (case side3 => repeat (first | exact (Kd.C_below aZ.out HB.out) | (with_reducible refine Kd.C_alloc ?_ _) | (with_reducible refine Kd.C_drewN ?_ _) | (with_reducible refine Kd.C_drew ?_))); (case side4 => exact bL.out); (case side5 => repeat (first | exact (Kd.C_below aX.out HB.out) | (with_reducible refine Kd.C_alloc ?_ _) | (with_reducible refine Kd.C_drewN ?_ _) | (with_reducible refine Kd.C_drew ?_))); (case side6 => exact bM.out); rintro e w27 ⟨rfl, hb⟩; refine ⟨_, rfl, ?_⟩; have n0_ := Aside0.mk (blk_below (g := gb295) (o := .cells #[.slice aG aD.length aH, .slice aK aA.length aI, .slice aM aC.length aJ] 26 (0, 0)) (by (with_reducible repeat (first | refine blk_drewN ?_ _ | refine blk_drew ?_ | refine blk_alloc ?_ _)); exact BK295.out) hb); have n1_ := Aside0.mk (below_step (by repeat (first | (with_reducible first | exact HB.out | apply below_alloc | apply pw_below_drewN | apply below_drew1 | refine below_set ?_ GE295.out) | exact HB.out)) hb); clear BK295; clear HB; have BK295 := n0_; have HB := n1_; clear n0_ n1_; (try clear hb); (try clear hb2); (try clear hk); (try clear hi); have rH : w27.cell? ⟨gb295, 0, none⟩ = some (.slice aG aD.length aH) := (blk_cell BK295.out 0).trans rfl; have rI : w27.cell? ⟨gb295, 1, none⟩ = some (.slice aK aA.length aI) := (blk_cell BK295.out 1).trans rfl; have rJ : w27.cell? ⟨gb295, 2, none⟩ = some (.slice aM aC.length aJ) := (blk_cell BK295.out 2).trans rfl; have rK := blk_frozen BK295.out 0; have rL := blk_frozen BK295.out 1; have rM := blk_frozen BK295.out 2))
 go_ret
 exact ⟨by first | rfl | (simp [errW_none, errW_some] <;> rfl) | (simp [*, errW_none, errW_some] <;> rfl), by repeat (first | (with_reducible first | exact HB.out | apply below_alloc | apply pw_below_drewN | apply below_drew1 | refine below_set ?_ GE295.out) | exact HB.out)⟩
end Go.Proofs.Ytkmmihadcbfkoaa.PM
end

section
namespace Go.Proofs.Ytkmmihadcbfkoaa
open PM
theorem risB_at {l : List Int} {a b : Int} (h : risB l a b = true) : ∀ i, i < l.length → a ≤ l.getD i 0 ∧ l.getD i 0 ≤ b ∧ (0 < i → l.getD (i - 1) 0 < l.getD i 0) := by
 intro i hi
 have := List.all_eq_true.1 h i (List.mem_range.2 hi)
 unfold risAt inB at this
 simp only [Bool.and_eq_true, Bool.or_eq_true, decide_eq_true_eq] at this
 exact ⟨this.1.1, this.1.2, fun h0 => by rcases this.2 with h | h; exact absurd h (by omega); exact h⟩
theorem risB_low {l : List Int} {a b : Int} (h : risB l a b = true) : ∀ i : Nat, i < l.length → a + i ≤ l.getD i 0
 | 0, hi => by have := (risB_at h 0 hi).1; omega
 | i + 1, hi => by
  have ih := risB_low h i (by omega)
  have := (risB_at h (i + 1) hi).2.2 (by omega)
  rw [Nat.add_sub_cancel] at this
  omega
theorem risB_len {l : List Int} {b : Int} (h : risB l 0 b = true) : (l.length : Int) ≤ b + 1 ∨ l = [] := by
 cases hl : l.length with
 | zero => exact Or.inr (List.length_eq_zero_iff.1 hl)
 | succ n =>
  have h1 := risB_low h n (by omega)
  have h2 := (risB_at h n (by omega)).2.1
  exact Or.inl (by omega)
theorem check_parts {F : List Int} {S : List S50} {T : List (List Int)} (h : checkB F S T = 0) : F.length ≤ 60 ∧ S.length ≤ 200 ∧ risB F 10 10000007 = true ∧ T.length = F.length ∧ slotsB S = true ∧ fitsB S T = true := by
 unfold checkB at h
 split at h
 ·
  exact absurd h (by decide)
 split at h
 ·
  exact absurd h (by decide)
 rename_i h1 h2
 split at h
 ·
  exact absurd h (by decide)
 split at h
 ·
  exact absurd h (by decide)
 rename_i h3 h4
 refine ⟨by omega, by omega, ?_, ?_, by simpa using h3, by simpa using h4⟩
 ·
  cases hr : risB F 10 10000007 with
  | true => rfl
  | false => exact absurd (Or.inl hr) h2
 exact Decidable.byContradiction fun hn => h2 (Or.inr hn)
theorem fits_row {S : List S50} {T : List (List Int)} (h : fitsB S T = true) (i : Nat) (hi : i < T.length) : risB (T.getD i []) 0 ((S.length : Int) - 1) = true := by
 have := List.all_eq_true.1 h (T.getD i []) (by rw [List.getD_eq_getElem?_getD, List.getElem?_eq_getElem hi]; exact List.getElem_mem hi)
 exact this
theorem bok_of_check {F : List Int} {S : List S50} {T : List (List Int)} (h : checkB F S T = 0) : BOK F S T := by
 obtain ⟨h1, h2, h3, h4, h5, h6⟩ := check_parts h
 refine ⟨h1, h2, h4, fun i hi => ?_, fun i hi j hj => ?_⟩
 ·
  rcases risB_len (fits_row h6 i hi) with h | h
  ·
   omega
  rw [h]; simp
 have := risB_at (fits_row h6 i hi) j hj
 omega
theorem room_bound {F : List Int} {S : List S50} {T : List (List Int)} (h : checkB F S T = 0) (i : Nat) (hi : i < S.length) : 1 ≤ (rooms S).getD i 0 ∧ (rooms S).getD i 0 ≤ 20 := by
 have h5 := (check_parts h).2.2.2.2.1
 have := List.all_eq_true.1 h5 i (List.mem_range.2 hi)
 unfold slotAt slotIn inB at this
 simp only [Bool.and_eq_true, decide_eq_true_eq] at this
 have e : (rooms S).getD i 0 = (S.getD i z50).f2 := by
  simp [rooms, List.getD_eq_getElem?_getD, List.getElem?_eq_getElem hi]
 rw [e]
 exact this.1.1.2
end Go.Proofs.Ytkmmihadcbfkoaa
end

section
namespace Go.Proofs.Ytkmmihadcbfkoaa
open Go.RowKit Go.Proofs.YtkmmihadcbfkoaaW.PrintWords PM
set_option linter.unusedVariables false
set_option linter.unusedSimpArgs false
def Ev {α : Type} (f : Nat → Option α) (r : α) : Prop := ∃ K, ∀ k, K ≤ k → f k = some r
theorem Ev.step {α : Type} {f g : Nat → Option α} {r : α} (h : Ev g r) (hs : ∀ k, f (k + 1) = g k) : Ev f r := by
 obtain ⟨K, hK⟩ := h
 refine ⟨K + 1, fun k hk => ?_⟩
 obtain ⟨k, rfl⟩ : ∃ m, k = m + 1 := ⟨k - 1, by omega⟩
 rw [hs, hK k (by omega)]
theorem Ev.const {α : Type} (r : α) : Ev (fun _ => some r) r := ⟨0, fun _ _ => rfl⟩
theorem Ev.bind {α β : Type} {f : Nat → Option α} {g : Nat → α → Option β} {r : α} {s : β} (h : Ev f r) (h2 : Ev (fun k => g k r) s) : Ev (fun k => (f k).bind (g k)) s := by
 obtain ⟨K, hK⟩ := h
 obtain ⟨L, hL⟩ := h2
 refine ⟨max K L, fun k hk => ?_⟩
 show (f k).bind (g k) = _
 rw [hK k (by omega), Option.bind_some]
 exact hL k (by omega)
theorem Ev.congr {α : Type} {f g : Nat → Option α} {r : α} (h : Ev g r) (hs : ∀ k, f k = g k) : Ev f r := by
 obtain ⟨K, hK⟩ := h
 exact ⟨K, fun k hk => by rw [hs, hK k hk]⟩
theorem rd_nat (l : List Int) (i : Nat) : rd l (i : Int) = l.getD i 0 := by simp [rd]
theorem rd_pred (l : List Int) (i : Nat) (h : 0 < i) : rd l ((i : Int) - 1) = l.getD (i - 1) 0 := by
 unfold rd
 congr 1
 omega
theorem ascending_ev (l : List Int) (n : Int) (hl : l.length ≤ 9223372036854775807) (d : Nat) : ∀ i : Nat, l.length - i = d → i ≤ l.length →
  Ev (fun k => laganref04_ascending.l0 k l n (i : Int)) (((List.range l.length).drop i).all (risAt l 0 (n - 1))) := by
 induction d with
 | zero =>
  intro i hd hi
  rw [List.drop_of_length_le (by simp; omega)]
  exact (Ev.const true).step fun k => by simp only [laganref04_ascending.l0]; rw [if_neg (by omega)]
 | succ d ih =>
  intro i hd hi
  have hlt : i < l.length := by omega
  have hw := wrap_pm (i := (i : Int)) (by omega) (by omega)
  have ih' := ih (i + 1) (by omega) (by omega)
  rw [show (((i + 1 : Nat)) : Int) = (i : Int) + 1 from by omega] at ih'
  rw [all_range_step hlt]
  have hr : risAt l 0 (n - 1) i = (decide (0 ≤ l.getD i 0) && decide (l.getD i 0 < n) && (decide (i = 0) || decide (l.getD (i - 1) 0 < l.getD i 0))) := by
   unfold risAt inB
   congr 2
   exact decide_eq_decide.2 ⟨fun h => by omega, fun h => by omega⟩
  by_cases h1 : l.getD i 0 < 0
  ·
   rw [hr, decide_eq_false (show ¬ 0 ≤ l.getD i 0 by omega)]
   exact (Ev.const false).step fun k => by
    simp only [laganref04_ascending.l0]
    rw [if_pos (by omega), if_pos (by omega), rd_nat, if_pos h1]
  by_cases h2 : l.getD i 0 ≥ n
  ·
   rw [hr, decide_eq_false (show ¬ l.getD i 0 < n by omega), Bool.and_false, Bool.false_and, Bool.false_and]
   exact (Ev.const false).step fun k => by
    simp only [laganref04_ascending.l0]
    rw [if_pos (by omega), if_pos (by omega), rd_nat, if_neg h1, if_pos h2]
  rw [hr, decide_eq_true (show 0 ≤ l.getD i 0 by omega), decide_eq_true (show l.getD i 0 < n by omega)]
  by_cases hz : i = 0
  ·
   subst hz
   refine Ev.step (g := fun k => laganref04_ascending.l0 k l n ((0 : Nat) + 1 : Int)) (by simpa using ih') fun k => ?_
   simp only [laganref04_ascending.l0]
   rw [if_pos (by omega), if_pos (by omega), rd_nat, if_neg h1, if_neg h2, if_neg (by omega), hw.1]
  by_cases h3 : l.getD i 0 ≤ l.getD (i - 1) 0
  ·
   rw [decide_eq_false hz, decide_eq_false (show ¬ l.getD (i - 1) 0 < l.getD i 0 by omega), Bool.or_false, Bool.and_false, Bool.false_and]
   exact (Ev.const false).step fun k => by
    simp only [laganref04_ascending.l0]
    rw [if_pos (by omega), if_pos (by omega), rd_nat, if_neg h1, if_neg h2, if_pos (by omega), hw.2, if_pos (by omega), if_pos (by omega), rd_pred _ _ (by omega), if_pos h3]
  rw [decide_eq_true (show l.getD (i - 1) 0 < l.getD i 0 by omega)]
  refine Ev.step (g := fun k => laganref04_ascending.l0 k l n ((i : Int) + 1)) (by simpa using ih') fun k => ?_
  simp only [laganref04_ascending.l0]
  rw [if_pos (by omega), if_pos (by omega), rd_nat, if_neg h1, if_neg h2, if_pos (by omega), hw.2, if_pos (by omega), if_pos (by omega), rd_pred _ _ (by omega), if_neg h3, hw.1]
theorem ascending_is (l : List Int) (n : Int) (hl : l.length ≤ 9223372036854775807) : Ev (fun k => laganref04_ascending.f k l n) (risB l 0 (n - 1)) := by
 have := ascending_ev l n hl l.length 0 (by omega) (by omega)
 unfold risB
 exact this
end Go.Proofs.Ytkmmihadcbfkoaa
end

section
namespace Go.Proofs.Ytkmmihadcbfkoaa
open Go.RowKit Go.Proofs.YtkmmihadcbfkoaaW.PrintWords PM
set_option linter.unusedVariables false
set_option linter.unusedSimpArgs false
def slotUp (S : List S50) (i : Nat) : Bool := decide (i = 0) || (decide ((S.getD (i - 1) z50).f0 < (S.getD i z50).f0) || decide ((S.getD (i - 1) z50).f0 = (S.getD i z50).f0) && decide ((S.getD (i - 1) z50).f1 < (S.getD i z50).f1))
def slotRef (S : List S50) (i : Nat) : Bool := slotIn (S.getD i z50) && slotUp S i
theorem l2_ev (F : List Int) (S : List S50) (T : List (List Int)) (hT : T.length ≤ 9223372036854775807) (hr : ∀ l, l ∈ T → l.length ≤ 9223372036854775807) (d : Nat) : ∀ i : Nat, T.length - i = d → i ≤ T.length →
  Ev (fun k => laganref04_CheckBoard.l2 k (i : Int) F S T) (if (T.drop i).all (fun l => risB l 0 ((S.length : Int) - 1)) then (0 : Int) else 1) := by
 induction d with
 | zero =>
  intro i hd hi
  rw [List.drop_of_length_le (by omega)]
  exact (Ev.const (0 : Int)).step fun k => by simp only [laganref04_CheckBoard.l2]; rw [if_neg (by omega)]
 | succ d ih =>
  intro i hd hi
  have hlt : i < T.length := by omega
  have hw := wrap_pm (i := (i : Int)) (by omega) (by omega)
  have ih' := ih (i + 1) (by omega) (by omega)
  rw [show (((i + 1 : Nat)) : Int) = (i : Int) + 1 from by omega] at ih'
  have hrd : rd_L1 T (i : Int) = T[i] := by simp [rd_L1, List.getD_eq_getElem?_getD, List.getElem?_eq_getElem hlt]
  have ha := ascending_is T[i] (S.length : Int) (hr _ (List.getElem_mem hlt))
  rw [List.drop_eq_getElem_cons hlt, List.all_cons]
  refine Ev.step (g := fun k => (laganref04_ascending.f k T[i] (S.length : Int)).bind fun t143 => (if t143 = true then (laganref04_CheckBoard.l2 k ((i : Int) + 1) F S T) else (some 1))) (Ev.bind ha ?_) fun k => ?_
  ·
   cases hb : risB T[i] 0 ((S.length : Int) - 1) with
   | true => simpa using ih'
   | false => simpa using Ev.const (1 : Int)
  simp only [laganref04_CheckBoard.l2]
  rw [if_pos (by omega), if_pos (by omega), hrd, hw.1]
theorem rd_S (S : List S50) (i : Nat) : rd_T50 S (i : Int) = S.getD i z50 := by simp [rd_T50]
theorem rd_S1 (S : List S50) (i : Nat) (h : 0 < i) : rd_T50 S ((i : Int) - 1) = S.getD (i - 1) z50 := by
 unfold rd_T50
 congr 1
 omega
def behind (F : List Int) (S : List S50) (T : List (List Int)) : Int := if T.length = F.length then (if fitsB S T then 0 else 1) else 1
theorem l1_ev (F : List Int) (S : List S50) (T : List (List Int)) (hS : S.length ≤ 9223372036854775807) (hT : T.length ≤ 9223372036854775807) (hr : ∀ l, l ∈ T → l.length ≤ 9223372036854775807) (d : Nat) : ∀ i : Nat, S.length - i = d → i ≤ S.length →
  Ev (fun k => laganref04_CheckBoard.l1 k (i : Int) F S T) (if ((List.range S.length).drop i).all (slotRef S) then behind F S T else 1) := by
 induction d with
 | zero =>
  intro i hd hi
  rw [List.drop_of_length_le (by simp; omega)]
  have h2 := l2_ev F S T hT hr T.length 0 (by omega) (by omega)
  refine Ev.step (g := fun k => if (T.length : Int) = (F.length : Int) then laganref04_CheckBoard.l2 k 0 F S T else some 1) ?_ fun k => by simp only [laganref04_CheckBoard.l1]; rw [if_neg (by omega)]
  unfold behind
  by_cases he : T.length = F.length
  ·
   have he' : (T.length : Int) = (F.length : Int) := by omega
   simp only [if_pos he', if_pos he]
   simpa [fitsB] using h2
  have he' : ¬ (T.length : Int) = (F.length : Int) := by omega
  simp only [if_neg he', if_neg he]
  simpa using Ev.const (1 : Int)
 | succ d ih =>
  intro i hd hi
  have hlt : i < S.length := by omega
  have hw := wrap_pm (i := (i : Int)) (by omega) (by omega)
  have ih' := ih (i + 1) (by omega) (by omega)
  rw [show (((i + 1 : Nat)) : Int) = (i : Int) + 1 from by omega] at ih'
  rw [all_range_step hlt]
  obtain ⟨s, hs⟩ : ∃ s, S.getD i z50 = s := ⟨_, rfl⟩
  obtain ⟨rest, hrest⟩ : ∃ rest, ((List.range S.length).drop (i + 1)).all (slotRef S) = rest := ⟨_, rfl⟩
  rw [hrest] at ih' ⊢
  have hj : ∀ bad : Bool, Ev (fun k => laganref04_CheckBoard.j3 k (i : Int) bad F S T s.f0 s.f1 s.f2) (if bad = true then (1 : Int) else if (slotUp S i && rest) = true then behind F S T else 1) := by
   intro bad
   cases bad with
   | true => exact (Ev.const (1 : Int)).step fun k => by simp only [laganref04_CheckBoard.j3]; first | rfl | rw [if_pos trivial] | simp
   | false =>
    by_cases hz : i = 0
    ·
     subst hz
     refine Ev.step (g := fun k => laganref04_CheckBoard.l1 k (((0 : Nat) : Int) + 1) F S T) ?_ fun k => by
      simp only [laganref04_CheckBoard.j3]
      rw [if_neg (by simp), if_neg (by omega), hw.1]
     simpa [slotUp] using ih'
    ·
     obtain ⟨p, hp⟩ : ∃ p, S.getD (i - 1) z50 = p := ⟨_, rfl⟩
     have hup : slotUp S i = (decide (p.f0 < s.f0) || decide (p.f0 = s.f0) && decide (p.f1 < s.f1)) := by
      unfold slotUp
      rw [hp, hs, decide_eq_false hz, Bool.false_or]
     rw [hup]
     by_cases h1 : s.f0 < p.f0
     ·
      rw [decide_eq_false (show ¬ p.f0 < s.f0 by omega), decide_eq_false (show ¬ p.f0 = s.f0 by omega)]
      exact (Ev.const (1 : Int)).step fun k => by
       simp only [laganref04_CheckBoard.j3]
       rw [if_neg (by simp), if_pos (by omega), hw.2, if_pos (by omega), if_pos (by omega), rd_S1 _ _ (by omega), hp, if_pos h1]
     ·
      by_cases h2 : s.f0 = p.f0
      ·
       by_cases h3 : s.f1 ≤ p.f1
       ·
        rw [decide_eq_false (show ¬ p.f0 < s.f0 by omega), decide_eq_false (show ¬ p.f1 < s.f1 by omega), Bool.and_false]
        exact (Ev.const (1 : Int)).step fun k => by
         simp only [laganref04_CheckBoard.j3]
         rw [if_neg (by simp), if_pos (by omega), hw.2, if_pos (by omega), if_pos (by omega), rd_S1 _ _ (by omega), hp, if_neg h1, if_pos h2, if_pos h3]
       ·
        rw [decide_eq_true (show p.f0 = s.f0 from h2.symm), decide_eq_true (show p.f1 < s.f1 by omega), Bool.and_true, Bool.or_true, Bool.true_and]
        refine Ev.step (g := fun k => laganref04_CheckBoard.l1 k ((i : Int) + 1) F S T) (by simpa using ih') fun k => by
         simp only [laganref04_CheckBoard.j3]
         rw [if_neg (by simp), if_pos (by omega), hw.2, if_pos (by omega), if_pos (by omega), rd_S1 _ _ (by omega), hp, if_neg h1, if_pos h2, if_neg h3, hw.1]
      ·
       rw [decide_eq_true (show p.f0 < s.f0 by omega), Bool.true_or, Bool.true_and]
       refine Ev.step (g := fun k => laganref04_CheckBoard.l1 k ((i : Int) + 1) F S T) (by simpa using ih') fun k => by
        simp only [laganref04_CheckBoard.j3]
        rw [if_neg (by simp), if_pos (by omega), hw.2, if_pos (by omega), if_pos (by omega), rd_S1 _ _ (by omega), hp, if_neg h1, if_neg h2, hw.1]
  have hb : (if (slotRef S i && rest) = true then behind F S T else 1) = (if (!slotIn s) = true then (1 : Int) else if (slotUp S i && rest) = true then behind F S T else 1) := by
   unfold slotRef
   rw [hs]
   cases slotIn s <;> simp
  rw [hb]
  refine Ev.step (hj (!slotIn s)) fun k => ?_
  simp only [laganref04_CheckBoard.l1]
  rw [if_pos (by omega), if_pos (by omega), rd_S, hs]
  unfold slotIn inB
  by_cases a1 : s.f0 < 1
  ·
   rw [if_pos a1, decide_eq_false (show ¬ 1 ≤ s.f0 by omega)]; simp
  rw [if_neg a1, decide_eq_true (show 1 ≤ s.f0 by omega)]
  by_cases a2 : s.f0 > 20
  ·
   rw [if_pos a2, decide_eq_false (show ¬ s.f0 ≤ 20 by omega)]; simp
  rw [if_neg a2, decide_eq_true (show s.f0 ≤ 20 by omega)]
  by_cases a3 : s.f1 < 1
  ·
   rw [if_pos a3, decide_eq_false (show ¬ 1 ≤ s.f1 by omega)]; simp
  rw [if_neg a3, decide_eq_true (show 1 ≤ s.f1 by omega)]
  by_cases a4 : s.f1 > 200
  ·
   rw [if_pos a4, decide_eq_false (show ¬ s.f1 ≤ 200 by omega)]; simp
  rw [if_neg a4, decide_eq_true (show s.f1 ≤ 200 by omega)]
  by_cases a5 : s.f2 < 1
  ·
   rw [if_pos a5, decide_eq_false (show ¬ 1 ≤ s.f2 by omega)]; simp
  rw [if_neg a5, decide_eq_true (show 1 ≤ s.f2 by omega)]
  by_cases a6 : s.f2 > 20
  rotate_left
  ·
   rw [decide_eq_false a6, decide_eq_true (show s.f2 ≤ 20 by omega)]; simp
  rw [decide_eq_true a6, decide_eq_false (show ¬ s.f2 ≤ 20 by omega)]; simp
end Go.Proofs.Ytkmmihadcbfkoaa
end

section
namespace Go.Proofs.Ytkmmihadcbfkoaa
open Go.RowKit Go.Proofs.YtkmmihadcbfkoaaW.PrintWords PM
set_option linter.unusedVariables false
set_option linter.unusedSimpArgs false
def slotsRef (F : List Int) (S : List S50) (T : List (List Int)) : Int := if (List.range S.length).all (slotRef S) then behind F S T else 1
theorem l0_ev (F : List Int) (S : List S50) (T : List (List Int)) (hF : F.length ≤ 9223372036854775807) (hS : S.length ≤ 9223372036854775807) (hT : T.length ≤ 9223372036854775807) (hr : ∀ l, l ∈ T → l.length ≤ 9223372036854775807) (d : Nat) : ∀ i : Nat, F.length - i = d → i ≤ F.length →
  Ev (fun k => laganref04_CheckBoard.l0 k (i : Int) F S T) (if ((List.range F.length).drop i).all (risAt F 10 10000007) then slotsRef F S T else 1) := by
 induction d with
 | zero =>
  intro i hd hi
  rw [List.drop_of_length_le (by simp; omega)]
  have h1 := l1_ev F S T hS hT hr S.length 0 (by omega) (by omega)
  refine Ev.step (g := fun k => laganref04_CheckBoard.l1 k 0 F S T) ?_ fun k => by simp only [laganref04_CheckBoard.l0]; rw [if_neg (by omega)]
  simpa [slotsRef] using h1
 | succ d ih =>
  intro i hd hi
  have hlt : i < F.length := by omega
  have hw := wrap_pm (i := (i : Int)) (by omega) (by omega)
  have ih' := ih (i + 1) (by omega) (by omega)
  rw [show (((i + 1 : Nat)) : Int) = (i : Int) + 1 from by omega] at ih'
  rw [all_range_step hlt]
  have hra : risAt F 10 10000007 i = (decide (10 ≤ F.getD i 0) && decide (F.getD i 0 ≤ 10000007) && (decide (i = 0) || decide (F.getD (i - 1) 0 < F.getD i 0))) := rfl
  by_cases h1 : F.getD i 0 < 10
  ·
   rw [hra, decide_eq_false (show ¬ 10 ≤ F.getD i 0 by omega), Bool.false_and, Bool.false_and, Bool.false_and]
   exact (Ev.const (1 : Int)).step fun k => by
    simp only [laganref04_CheckBoard.l0]
    rw [if_pos (by omega), if_pos (by omega), rd_nat, if_pos h1]
  by_cases h2 : F.getD i 0 > 10000007
  ·
   rw [hra, decide_eq_false (show ¬ F.getD i 0 ≤ 10000007 by omega), Bool.and_false, Bool.false_and, Bool.false_and]
   exact (Ev.const (1 : Int)).step fun k => by
    simp only [laganref04_CheckBoard.l0]
    rw [if_pos (by omega), if_pos (by omega), rd_nat, if_neg h1, if_pos h2]
  rw [hra, decide_eq_true (show 10 ≤ F.getD i 0 by omega), decide_eq_true (show F.getD i 0 ≤ 10000007 by omega)]
  by_cases hz : i = 0
  ·
   subst hz
   rw [show (true && true && (decide ((0 : Nat) = 0) || decide (F.getD (0 - 1) 0 < F.getD 0 0))) = true from rfl, Bool.true_and]
   refine Ev.step (g := fun k => laganref04_CheckBoard.l0 k ((0 : Nat) + 1 : Int) F S T) (by simpa using ih') fun k => ?_
   simp only [laganref04_CheckBoard.l0]
   rw [if_pos (by omega), if_pos (by omega), rd_nat, if_neg h1, if_neg h2, if_neg (by omega), hw.1]
  by_cases h3 : F.getD i 0 ≤ F.getD (i - 1) 0
  ·
   rw [decide_eq_false hz, decide_eq_false (show ¬ F.getD (i - 1) 0 < F.getD i 0 by omega), Bool.or_false, Bool.and_false, Bool.false_and]
   exact (Ev.const (1 : Int)).step fun k => by
    simp only [laganref04_CheckBoard.l0]
    rw [if_pos (by omega), if_pos (by omega), rd_nat, if_neg h1, if_neg h2, if_pos (by omega), hw.2, if_pos (by omega), if_pos (by omega), rd_pred _ _ (by omega), if_pos h3]
  rw [decide_eq_true (show F.getD (i - 1) 0 < F.getD i 0 by omega)]
  refine Ev.step (g := fun k => laganref04_CheckBoard.l0 k ((i : Int) + 1) F S T) (by simpa using ih') fun k => ?_
  simp only [laganref04_CheckBoard.l0]
  rw [if_pos (by omega), if_pos (by omega), rd_nat, if_neg h1, if_neg h2, if_pos (by omega), hw.2, if_pos (by omega), if_pos (by omega), rd_pred _ _ (by omega), if_neg h3, hw.1]
def KeyLt (a b : S50) : Prop := a.f0 < b.f0 ∨ a.f0 = b.f0 ∧ a.f1 < b.f1
theorem KeyLt.trans {a b c : S50} (h : KeyLt a b) (k : KeyLt b c) : KeyLt a c := by
 unfold KeyLt at *
 omega
theorem up_lt {S : List S50} {n : Nat} (h : ∀ i, i ≤ n → slotUp S i = true) (j : Nat) : ∀ i, j < i → i ≤ n → KeyLt (S.getD j z50) (S.getD i z50)
 | 0, h0, _ => absurd h0 (by omega)
 | i + 1, h0, hi => by
  have hs := h (i + 1) hi
  unfold slotUp at hs
  rw [decide_eq_false (by omega), Bool.false_or, Nat.add_sub_cancel] at hs
  have hk : KeyLt (S.getD i z50) (S.getD (i + 1) z50) := by
   simp only [Bool.or_eq_true, Bool.and_eq_true, decide_eq_true_eq] at hs
   exact hs
  rcases Nat.lt_succ_iff_lt_or_eq.1 h0 with hlt | rfl
  ·
   exact (up_lt h j i hlt (by omega)).trans hk
  ·
   exact hk
theorem slots_same (S : List S50) : (List.range S.length).all (slotRef S) = slotsB S := by
 rw [Bool.eq_iff_iff]
 unfold slotsB
 simp only [List.all_eq_true, List.mem_range]
 constructor
 ·
  intro h i hi
  have hu : ∀ j, j ≤ i → slotUp S j = true := fun j hj => by
   have := h j (by omega)
   unfold slotRef at this
   exact (Bool.and_eq_true _ _ ▸ this : _ ∧ _).2
  have hin : slotIn (S.getD i z50) = true := by
   have := h i hi
   unfold slotRef at this
   exact (Bool.and_eq_true _ _ ▸ this : _ ∧ _).1
  have hnk : slotKey (S.getD i z50) ∉ (S.take i).map slotKey := by
   intro hm
   obtain ⟨x, hx, he⟩ := List.mem_map.1 hm
   obtain ⟨j, hj, hje⟩ := List.getElem_of_mem hx
   rw [List.length_take] at hj
   have hj2 : j < i := by omega
   have hl := up_lt hu j i hj2 (Nat.le_refl _)
   have hxj : S.getD j z50 = x := by
    rw [← hje, List.getElem_take]
    simp [List.getD_eq_getElem?_getD, List.getElem?_eq_getElem (show j < S.length by omega)]
   rw [hxj] at hl
   unfold slotKey at he
   injection he with e1 e2
   injection e2 with e2 _
   unfold KeyLt at hl
   omega
  have hbk : slotBack S i = false := by
   unfold slotBack
   by_cases hz : i = 0
   ·
    subst hz; rfl
   ·
    have := hu i (Nat.le_refl _)
    unfold slotUp at this
    rw [decide_eq_false hz, Bool.false_or] at this
    simp only [Bool.or_eq_true, Bool.and_eq_true, decide_eq_true_eq] at this
    simp only [Bool.and_eq_false_iff, Bool.or_eq_false_iff, decide_eq_false_iff_not]
    omega
  unfold slotAt
  rw [hin, hbk, decide_eq_false hnk]
  rfl
 intro h i hi
 have hi1 := h i hi
 unfold slotAt at hi1
 simp only [Bool.and_eq_true, Bool.not_eq_true', decide_eq_false_iff_not] at hi1
 obtain ⟨⟨hin, hnk⟩, hbk⟩ := hi1
 have hup : slotUp S i = true := by
  unfold slotUp
  by_cases hz : i = 0
  ·
   subst hz; rfl
  ·
   have hne : ¬ (slotKey (S.getD (i - 1) z50) = slotKey (S.getD i z50)) := by
    intro e
    refine hnk (List.mem_map.2 ⟨S.getD (i - 1) z50, ?_, e⟩)
    rw [List.mem_iff_getElem]
    refine ⟨i - 1, by rw [List.length_take]; omega, ?_⟩
    rw [List.getElem_take]
    simp [List.getD_eq_getElem?_getD, List.getElem?_eq_getElem (show i - 1 < S.length by omega)]
   have hne2 : ¬ ((S.getD (i - 1) z50).f0 = (S.getD i z50).f0 ∧ (S.getD (i - 1) z50).f1 = (S.getD i z50).f1) := fun ⟨e1, e2⟩ => hne (by unfold slotKey; rw [e1, e2])
   unfold slotBack at hbk
   simp only [Bool.and_eq_false_iff, Bool.or_eq_false_iff, decide_eq_false_iff_not] at hbk
   rw [decide_eq_false hz, Bool.false_or]
   simp only [Bool.or_eq_true, Bool.and_eq_true, decide_eq_true_eq]
   omega
 unfold slotRef
 rw [hin, hup]
 rfl
theorem refcheck_is (F : List Int) (S : List S50) (T : List (List Int)) (hF : F.length ≤ 9223372036854775807) (hS : S.length ≤ 9223372036854775807) (hT : T.length ≤ 9223372036854775807) (hr : ∀ l, l ∈ T → l.length ≤ 9223372036854775807) :
  Ev (fun k => laganref04_CheckBoard.f k F S T) (checkB F S T) := by
 have h0 := l0_ev F S T hF hS hT hr F.length 0 (by omega) (by omega)
 unfold checkB
 have hj : ∀ bad : Bool, Ev (fun k => laganref04_CheckBoard.j0 k bad F S T) (if bad = true then (2 : Int) else if risB F 10 10000007 then slotsRef F S T else 1) := by
  intro bad
  cases bad with
  | true => exact (Ev.const (2 : Int)).step fun k => by simp only [laganref04_CheckBoard.j0]; first | rfl | rw [if_pos trivial] | simp
  | false =>
   refine Ev.step (g := fun k => laganref04_CheckBoard.l0 k 0 F S T) (by simpa [risB] using h0) fun k => by
    simp only [laganref04_CheckBoard.j0]; first | rfl | rw [if_neg (by simp)] | simp
 by_cases h1 : F.length > 60
 ·
  rw [if_pos (Or.inl h1)]
  refine (hj true).congr fun k => ?_
  unfold laganref04_CheckBoard.f
  rw [if_pos (by omega)]
 by_cases h2 : S.length > 200
 ·
  rw [if_pos (Or.inr h2)]
  refine (hj true).congr fun k => ?_
  unfold laganref04_CheckBoard.f
  rw [if_neg (by omega), decide_eq_true (by omega)]
 rw [if_neg (by omega)]
 have hv : (if risB F 10 10000007 = false ∨ T.length ≠ F.length then (1 : Int) else if slotsB S = false then 1 else if fitsB S T = false then 1 else 0) = (if risB F 10 10000007 then slotsRef F S T else 1) := by
  unfold slotsRef behind
  rw [slots_same]
  cases risB F 10 10000007 <;> cases slotsB S <;> cases fitsB S T <;> by_cases he : T.length = F.length <;> simp [he]
 rw [hv]
 refine Ev.congr (by simpa using hj false) fun k => ?_
 unfold laganref04_CheckBoard.f
 rw [if_neg (by omega), decide_eq_false (by omega)]
end Go.Proofs.Ytkmmihadcbfkoaa
end

section
namespace Go.Proofs.Ytkmmihadcbfkoaa.PM
open Go.RowKit Go.Proofs.YtkmmihadcbfkoaaW.PrintWords Go.Proofs.YtkmmihadcbfkoaaW.PrintLast Go.Proofs.YtkmmihadcbfkoaaW.PrintMore
set_option linter.unusedVariables false
set_option linter.unusedSimpArgs false
def laganref04_meets.l0 : Nat → List Int → List Int → Int → List Int → List (S50) → List (List Int) → Option (Bool)
 | 0, _, _, _, _, _, _ => none
 | k + 1, x1, x5, x6, x407000, x407001, x407002 => if x6 < (x1.length : Int) then (if 0 ≤ x6 then (if x6 < (x407002.length : Int) then (if ((rd_L1 x407002 x6).length : Int) = 0 then (if (rd x1 x6) = (-1) then (laganref04_meets.l0 k x1 x5 (wrap64 (x6 + 1)) x407000 x407001 x407002) else (some false)) else ((laganref04_Has.f k (rd_L1 x407002 x6) (rd x1 x6)).bind fun t414 => (if t414 = true then (if 0 ≤ (rd x1 x6) then (if (rd x1 x6) < (x5.length : Int) then ((some (x5.set ((rd x1 x6) : Int).toNat (wrap64 ((rd x5 (rd x1 x6)) + 1)) : List Int)).bind fun y418 => (if (rd x1 x6) < (x407001.length : Int) then (if (rd y418 (rd x1 x6)) > ((rd_T50 x407001 (rd x1 x6)).f2) then (some false) else (laganref04_meets.l0 k x1 y418 (wrap64 (x6 + 1)) x407000 x407001 x407002)) else (none))) else (none)) else (none)) else (some false)))) else (none)) else (none)) else (some true)
def laganref04_meets.f (k : Nat) (aD : List Int) (aA : List (S50)) (aC : List (List Int)) (l1 : List Int) : Option (Bool) := if (l1.length : Int) = (aD.length : Int) then (if 0 ≤ (aA.length : Int) then (if ((aA.length : Int) : Int).toNat ≤ 35184372088832 then (laganref04_meets.l0 k l1 (List.replicate ((aA.length : Int) : Int).toNat 0) 0 aD aA aC) else (none)) else (none)) else (some false)
def laganref04_meets.T10 : Bool × List (List Nat × List Nat) := (true, [([], []), ([0], [0]), ([], []), ([1, 2], [1, 2]), ([3], [3]), ([], []), ([], []), ([5, 6], [5, 6]), ([7], [7]), ([4, 8], [4, 8]), ([9], [9])])
def laganref04_meets.B10 : List Nat := [0, 1, 0, 7, 15, 0, 0, 96, 224, 511, 1023]
theorem laganref04_meets.tab10 : rtab .any (opsOf Try.f71 10) = laganref04_meets.T10 := by kernel_rfl
theorem laganref04_meets.bits10 : waitsOk laganref04_meets.T10.2 laganref04_meets.B10 = true := by kernel_rfl
def laganref04_meets.T12 : Bool × List (List Nat × List Nat) := (true, [([], []), ([], []), ([], []), ([1, 2], [1, 2]), ([3], [3]), ([], []), ([], []), ([], []), ([6, 7], [6, 7]), ([8], [8]), ([5, 9], [5, 9]), ([10], [10]), ([11], [11]), ([0, 4, 0, 1, 2, 3, 4, 5, 6, 7, 8, 9, 10, 11, 12], [0, 4]), ([13, 12, 0, 1, 2, 3, 4, 5, 6, 7, 8, 9, 10, 11, 12], [12, 13])])
def laganref04_meets.B12 : List Nat := [0, 0, 0, 6, 14, 0, 0, 0, 192, 448, 992, 2016, 4064, 8191, 16383]
theorem laganref04_meets.tab12 : rtab .any (opsOf Try.f71 12) = laganref04_meets.T12 := by kernel_rfl
theorem laganref04_meets.bits12 : waitsOk laganref04_meets.T12.2 laganref04_meets.B12 = true := by kernel_rfl
def laganref04_meets.T13 : Bool × List (List Nat × List Nat) := (true, [([], []), ([], []), ([], []), ([1, 2], [1, 2]), ([3], [3]), ([0, 4], [0, 4]), ([5], [5]), ([], []), ([7], [7]), ([], []), ([], []), ([9, 10], [9, 10]), ([11], [11]), ([8, 12], [8, 12]), ([13], [13]), ([14], [14]), ([6, 15], [6, 15])])
def laganref04_meets.B13 : List Nat := [0, 0, 0, 6, 14, 31, 63, 0, 128, 0, 0, 1536, 3584, 8064, 16256, 32640, 65535]
theorem laganref04_meets.tab13 : rtab .any (opsOf Try.f71 13) = laganref04_meets.T13 := by kernel_rfl
theorem laganref04_meets.bits13 : waitsOk laganref04_meets.T13.2 laganref04_meets.B13 = true := by kernel_rfl
set_option maxHeartbeats 8000000 in
set_option maxRecDepth 100000 in
theorem laganref04_meets.calls (k : Nat) (aG : Option Addr) (aH : Nat) (aD : List Int) (aK : Option Addr) (aI : Nat) (aA : List (S50)) (aM : Option Addr) (aJ : Nat) (aC : List (List Int)) (A1 : Option Addr) (c1 : Nat) (l1 : List Int) (r : Bool) (w : World) (bC : Kd.C (Kd.int .i64) w aG aD.length aD) (bD : aD.length ≤ aH) (bE : Kd.C k50 w aK aA.length aA) (bF : aA.length ≤ aI) (bG : Kd.C (Kd.slice 3 (Kd.int .i64)) w aM aC.length aC) (bH : aC.length ≤ aJ) (hr1 : Kd.C (Kd.int .i64) w A1 l1.length l1) (hc1 : l1.length ≤ c1) (h : laganref04_meets.f k aD aA aC l1 = some r) :
  Calls Try.prog 71 #[.agg #[.slice aG aD.length aH, .slice aK aA.length aI, .slice aM aC.length aJ], .slice A1 l1.length c1] w fun e w' => e = .returned (.bool r) ∧ Below w.heap.size w w' := by
 have hu26 := Try.underlying26
 have bA := Aside0.mk bC
 have bK := Aside0.mk bD
 clear bC bD
 have aZ := Aside0.mk bE
 have bL := Aside0.mk bF
 clear bE bF
 have aX := Aside0.mk bG
 have bM := Aside0.mk bH
 clear bG bH
 have HR1 := Aside0.mk hr1
 have HC1 := Aside0.mk hc1
 clear hr1 hc1
 have HB := Aside0.mk (Below.refl w.heap.size w)
 have H : (if (l1.length : Int) = (aD.length : Int) then (if 0 ≤ (aA.length : Int) then (if ((aA.length : Int) : Int).toNat ≤ 35184372088832 then (laganref04_meets.l0 k l1 (List.replicate ((aA.length : Int) : Int).toNat 0) 0 aD aA aC) else (none)) else (none)) else (some false)) = some r := h
 clear h
 by_cases c3 : (l1.length : Int) = (aD.length : Int)
 rotate_left
 ·
  rw [if_neg c3] at H
  have c3b0 : ((l1.length : Int) == (aD.length : Int)) = false := beq_eq_false_iff_ne.mpr c3
  have c3b1 : ((l1.length : Int) != (aD.length : Int)) = true := bne_iff_ne.mpr c3
  have c3b2 : (l1.length == aD.length) = false := by first | simpa using c3 | (simp at c3 ⊢; omega)
  obtain rfl := Option.some.inj H
  go_enter Try.func71, Try.ntmps71
  go_wp2_with (first | ((with_reducible refine gate_dst (N := 2) rfl ?_); refine box_event ?hg (N := 2) ?hd (cs := #[.slice aG aD.length aH, .slice aK aA.length aI, .slice aM aC.length aJ]) (t := 26) ?hr ?_; (case hd => rfl); (case hg => rfl); (case hr => first | (go_simp; done) | (go_simp; rfl)); intro gb406 hg w40 hbox hb; have n0_ := Aside0.mk (below_step (by repeat (first | (with_reducible first | exact HB.out | apply below_alloc | apply pw_below_drewN | apply below_drew1) | exact HB.out)) hb); have n1_ := Aside0.mk (hbox); have n2_ := Aside0.mk ((by rw [hg]; exact (below_size (by repeat (first | (with_reducible first | exact HB.out | apply below_alloc | apply pw_below_drewN | apply below_drew1) | exact HB.out))) : w.heap.size ≤ gb406)); have n3_ := Aside0.mk ((by rw [hg]; exact (below_size (by repeat (first | (with_reducible first | exact HB.out | apply below_alloc | apply pw_below_drewN | apply below_drew1) | exact HB.out))) : w.heap.size ≤ gb406)); clear HB; have HB := n0_; have BK406 := n1_; have GW406 := n2_; have GE406 := n3_; clear n0_ n1_ n2_ n3_; clear hb hbox hg; have jD : w40.cell? ⟨gb406, 0, none⟩ = some (.slice aG aD.length aH) := (blk_cell BK406.out 0).trans rfl; have jE : w40.cell? ⟨gb406, 1, none⟩ = some (.slice aK aA.length aI) := (blk_cell BK406.out 1).trans rfl; have jF : w40.cell? ⟨gb406, 2, none⟩ = some (.slice aM aC.length aJ) := (blk_cell BK406.out 2).trans rfl; have jJ := blk_frozen BK406.out 0; have jK := blk_frozen BK406.out 1; have jL := blk_frozen BK406.out 2))
  go_ret
  exact ⟨by first | rfl | (simp [errW_none, errW_some] <;> rfl) | (simp [*, errW_none, errW_some] <;> rfl), by repeat (first | (with_reducible first | exact HB.out | apply below_alloc | apply pw_below_drewN | apply below_drew1 | refine below_set ?_ GE406.out) | exact HB.out)⟩
 rw [if_pos c3] at H
 have c3b0 : ((l1.length : Int) == (aD.length : Int)) = true := beq_iff_eq.mpr c3
 have c3b1 : ((l1.length : Int) != (aD.length : Int)) = false := bne_eq_false_iff_eq.mpr c3
 have c3b2 : (l1.length == aD.length) = true := by first | simpa using c3 | (simp at c3 ⊢; omega)
 clear c3
 by_cases c4 : 0 ≤ (aA.length : Int)
 rotate_left
 ·
  rw [if_neg c4] at H
  exact absurd H (by simp)
 rw [if_pos c4] at H
 have c4b0 := eq_true c4
 have c4b1 : decide (0 ≤ (aA.length : Int)) = true := decide_eq_true c4
 clear c4
 by_cases c5 : ((aA.length : Int) : Int).toNat ≤ 35184372088832
 rotate_left
 ·
  rw [if_neg c5] at H
  exact absurd H (by simp)
 rw [if_pos c5] at H
 have c5b0 := eq_true c5
 have c5b1 : decide (((aA.length : Int) : Int).toNat ≤ 35184372088832) = true := decide_eq_true c5
 clear c5
 obtain ⟨y407, hy407⟩ : ∃ y_ : List Int, y_ = (List.replicate ((aA.length : Int) : Int).toNat 0) := ⟨_, rfl⟩
 replace H : (laganref04_meets.l0 k l1 y407 0 aD aA aC) = some r := by first | (rw [hy407]; with_reducible exact H) | (have H2_ := (Option.bind_some _ _).symm.trans H; rw [hy407]; with_reducible exact H2_) | (have H2_ := (Option.bind_some _ _).symm.trans H; with_reducible exact H2_) | with_reducible exact H | (rw [hy407]; exact H) | exact H
 have Ny407 := Aside0.mk hy407
 clear hy407
 have H' := Aside0.mk H
 clear H
 go_enter Try.func71, Try.ntmps71
 go_wp2_with (first | ((with_reducible refine gate_dst (N := 2) rfl ?_); refine box_event ?hg (N := 2) ?hd (cs := #[.slice aG aD.length aH, .slice aK aA.length aI, .slice aM aC.length aJ]) (t := 26) ?hr ?_; (case hd => rfl); (case hg => rfl); (case hr => first | (go_simp; done) | (go_simp; rfl)); intro gb406 hg w6 hbox hb; have n0_ := Aside0.mk (below_step (by repeat (first | (with_reducible first | exact HB.out | apply below_alloc | apply pw_below_drewN | apply below_drew1) | exact HB.out)) hb); have n1_ := Aside0.mk (hbox); have n2_ := Aside0.mk ((by rw [hg]; exact (below_size (by repeat (first | (with_reducible first | exact HB.out | apply below_alloc | apply pw_below_drewN | apply below_drew1) | exact HB.out))) : w.heap.size ≤ gb406)); have n3_ := Aside0.mk ((by rw [hg]; exact (below_size (by repeat (first | (with_reducible first | exact HB.out | apply below_alloc | apply pw_below_drewN | apply below_drew1) | exact HB.out))) : w.heap.size ≤ gb406)); clear HB; have HB := n0_; have BK406 := n1_; have GW406 := n2_; have GE406 := n3_; clear n0_ n1_ n2_ n3_; clear hb hbox hg; have eL : w6.cell? ⟨gb406, 0, none⟩ = some (.slice aG aD.length aH) := (blk_cell BK406.out 0).trans rfl; have eM : w6.cell? ⟨gb406, 1, none⟩ = some (.slice aK aA.length aI) := (blk_cell BK406.out 1).trans rfl; have eN : w6.cell? ⟨gb406, 2, none⟩ = some (.slice aM aC.length aJ) := (blk_cell BK406.out 2).trans rfl; have eO := blk_frozen BK406.out 0; have eP := blk_frozen BK406.out 1; have eQ := blk_frozen BK406.out 2) | ((with_reducible refine gate_dst (N := 16) rfl ?_); refine Kd.R_make (Kd.int .i64) _ 3 rfl (N := 16) rfl 22 _ _ rfl (aA.length : Int) rfl rfl Try.underlying22 (.int .i64 0) 8 info3 rfl (by decide) (by omega) 0 (ok := fun _ => True) (okp := fun _ => True) rfl (fun _ hk => hk) trivial (of_decide_eq_true (by assumption)) (Nat.le_trans (Nat.mul_le_mul_right _ (of_decide_eq_true (by assumption) : (aA.length : Int).toNat ≤ 35184372088832)) (by omega)) (Below.refl _ _) (Nat.le_refl _) ?_; intro v408 w8 ho9 hb hg_ hnew_; clear hg_ hnew_; (first | rw [← Ny407.out] at ho9 | (simp only [Int.reduceToNat] at ho9; rw [← Ny407.out] at ho9)); have n0_ := Aside0.mk (Kd.R_lower ho9 (below_size (by repeat (first | (with_reducible first | exact HB.out | apply below_alloc | apply pw_below_drewN | apply below_drew1 | refine below_set ?_ GE406.out) | exact HB.out)))); have n1_ := Aside0.mk (blk_below (g := gb406) (o := .cells #[.slice aG aD.length aH, .slice aK aA.length aI, .slice aM aC.length aJ] 26 (0, 0)) (by (with_reducible repeat (first | refine blk_drewN ?_ _ | refine blk_drew ?_ | refine blk_alloc ?_ _)); exact BK406.out) hb); have n2_ := Aside0.mk (below_step (by repeat (first | (with_reducible first | exact HB.out | apply below_alloc | apply pw_below_drewN | apply below_drew1 | refine below_set ?_ GE406.out) | exact HB.out)) hb); clear BK406; clear HB; have HO409 := n0_; have BK406 := n1_; have HB := n2_; clear n0_ n1_ n2_; clear hb ho9))
 go_loopg [6] k (fun kq v6 w' => ∃ (aN : List Int) (aE : Int), v6 = .int .i64 aE ∧ Aside0 (laganref04_meets.l0 kq l1 aN aE aD aA aC = some r) ∧ Aside0 (kq ≤ k) ∧ Aside0 (Kd.R (Kd.int .i64) 3 w' w.heap.size (fun _ => True) v408 aN) ∧ Aside0 (w'.heap[gb406]? = some (.cells #[(.slice aG aD.length aH), (.slice aK aA.length aI), (.slice aM aC.length aJ)] 26 (0, 0))) ∧ Aside0 (Below w.heap.size w w'))
 case atStart => exact ⟨(y407), (0), (by first | rfl | (simp; done) | (simp [*]; done)), H', ⟨Nat.le_refl _⟩, ⟨by (with_reducible repeat (first | apply Kd.R_alloc | apply Kd.R_drewN | apply Kd.R_drew)); exact HO409.out⟩, ⟨by (with_reducible repeat (first | refine blk_drewN ?_ _ | refine blk_drew ?_ | refine blk_alloc ?_ _)); exact BK406.out⟩, ⟨by repeat (first | (with_reducible first | exact HB.out | apply below_alloc | apply pw_below_drewN | apply below_drew1 | refine below_set ?_ GE406.out) | exact HB.out)⟩⟩
 clear H'
 try clear eL
 try clear eM
 try clear eN
 try clear eO
 try clear eP
 try clear eQ
 obtain ⟨aN, aE, rfl, HA, HK1, HO_5, BK406, HB⟩ := hrel
 cases gk with
 | zero => exact absurd HA.out (by simp [laganref04_meets.l0])
 | succ k1 =>
  have H := HA.out
  clear HA
  simp only [laganref04_meets.l0] at H
  by_cases c10 : aE < (l1.length : Int)
  rotate_left
  ·
   rw [if_neg c10] at H
   have c10b0 : decide (aE < (l1.length : Int)) = false := decide_eq_false c10
   clear c10
   obtain rfl := Option.some.inj H
   go_wp2
   go_ret
   exact ⟨by first | rfl | (simp [errW_none, errW_some] <;> rfl) | (simp [*, errW_none, errW_some] <;> rfl), by repeat (first | (with_reducible first | exact HB.out | apply below_alloc | apply pw_below_drewN | apply below_drew1 | refine below_set ?_ GE406.out) | exact HB.out)⟩
  rw [if_pos c10] at H
  have c10b0 : decide (aE < (l1.length : Int)) = true := decide_eq_true c10
  clear c10
  by_cases c11 : 0 ≤ aE
  rotate_left
  ·
   rw [if_neg c11] at H
   exact absurd H (by simp)
  rw [if_pos c11] at H
  have c11b0 : decide (0 ≤ aE) = true := decide_eq_true c11
  clear c11
  by_cases c12 : aE < (aC.length : Int)
  rotate_left
  ·
   rw [if_neg c12] at H
   exact absurd H (by simp)
  rw [if_pos c12] at H
  have c12b0 : decide (aE < (aC.length : Int)) = true := decide_eq_true c12
  clear c12
  by_cases c13 : ((rd_L1 aC aE).length : Int) = 0
  ·
   rw [if_pos c13] at H
   have c13b0 : (((rd_L1 aC aE).length : Int) == 0) = true := beq_iff_eq.mpr c13
   have c13b1 : (((rd_L1 aC aE).length : Int) != 0) = false := bne_eq_false_iff_eq.mpr c13
   clear c13
   by_cases c14 : (rd l1 aE) = (-1)
   rotate_left
   ·
    rw [if_neg c14] at H
    have c14b0 : ((rd l1 aE) == (-1)) = false := beq_eq_false_iff_ne.mpr c14
    have c14b1 : ((rd l1 aE) != (-1)) = true := bne_iff_ne.mpr c14
    obtain rfl := Option.some.inj H
    have rN : wr.cell? ⟨gb406, 0, none⟩ = some (.slice aG aD.length aH) := (blk_cell BK406.out 0).trans rfl
    have rO : wr.cell? ⟨gb406, 1, none⟩ = some (.slice aK aA.length aI) := (blk_cell BK406.out 1).trans rfl
    have rP : wr.cell? ⟨gb406, 2, none⟩ = some (.slice aM aC.length aJ) := (blk_cell BK406.out 2).trans rfl
    have rQ := blk_frozen BK406.out 0
    have rR := blk_frozen BK406.out 1
    have rS := blk_frozen BK406.out 2
    have p410 : 0 ≤ (aE : Int) := of_decide_eq_true (by assumption)
    have q410 : aE < (aC.length : Int) := of_decide_eq_true (by assumption)
    obtain ⟨ad410, jN, jO, e410, bW, cF, cG⟩ := at_L1 aX.out aE p410 q410
    cases e410
    replace bW := (HB.out.cell (World.block_lt_of_cell? w _ bW)).trans bW
    have jP := Aside0.mk cG
    have jQ := Aside0.mk cF
    clear cG cF
    replace p410 := eq_true p410
    replace q410 := eq_true q410
    have p411 : 0 ≤ (aE : Int) := of_decide_eq_true (by assumption)
    have q411 : aE < (l1.length : Int) := of_decide_eq_true (by assumption)
    obtain ⟨ad411, e411, eR⟩ := Kd.at_int HR1.out aE p411 q411
    cases e411
    replace eR := (HB.out.cell (World.block_lt_of_cell? w _ eR)).trans eR
    replace p411 := eq_true p411
    replace q411 := eq_true q411
    go_wp2
    go_ret
    exact ⟨by first | rfl | (simp [errW_none, errW_some] <;> rfl) | (simp [*, errW_none, errW_some] <;> rfl), by repeat (first | (with_reducible first | exact HB.out | apply below_alloc | apply pw_below_drewN | apply below_drew1 | refine below_set ?_ GE406.out) | exact HB.out)⟩
   rw [if_pos c14] at H
   have c14b0 : ((rd l1 aE) == (-1)) = true := beq_iff_eq.mpr c14
   have c14b1 : ((rd l1 aE) != (-1)) = false := bne_eq_false_iff_eq.mpr c14
   clear c14
   have H' := Aside0.mk H
   clear H
   have hcz15_0 : wr.cell? ⟨gb406, 0, none⟩ = some (.slice aG aD.length aH) := (blk_cell BK406.out 0).trans rfl
   have hcz15_1 : wr.cell? ⟨gb406, 1, none⟩ = some (.slice aK aA.length aI) := (blk_cell BK406.out 1).trans rfl
   have hcz15_2 : wr.cell? ⟨gb406, 2, none⟩ = some (.slice aM aC.length aJ) := (blk_cell BK406.out 2).trans rfl
   have hfz15_0 := blk_frozen BK406.out 0
   have hfz15_1 := blk_frozen BK406.out 1
   have hfz15_2 := blk_frozen BK406.out 2
   have p410 : 0 ≤ (aE : Int) := of_decide_eq_true (by assumption)
   have q410 : aE < (aC.length : Int) := of_decide_eq_true (by assumption)
   obtain ⟨ad410, jN, jO, e410, bW, cF, cG⟩ := at_L1 aX.out aE p410 q410
   cases e410
   replace bW := (HB.out.cell (World.block_lt_of_cell? w _ bW)).trans bW
   have jP := Aside0.mk cG
   have jQ := Aside0.mk cF
   clear cG cF
   replace p410 := eq_true p410
   replace q410 := eq_true q410
   have p411 : 0 ≤ (aE : Int) := of_decide_eq_true (by assumption)
   have q411 : aE < (l1.length : Int) := of_decide_eq_true (by assumption)
   obtain ⟨ad411, e411, eR⟩ := Kd.at_int HR1.out aE p411 q411
   cases e411
   replace eR := (HB.out.cell (World.block_lt_of_cell? w _ eR)).trans eR
   replace p411 := eq_true p411
   replace q411 := eq_true q411
   go_wp2
   go_roundg k1
   case measure => have := HK1.out; omega
   case rel => exact ⟨(aN), (wrap64 (aE + 1)), (by first | rfl | (simp; done) | (simp [*]; done)), H', ⟨by have := HK1.out; omega⟩, ⟨by (with_reducible repeat (first | apply Kd.R_alloc | apply Kd.R_drewN | apply Kd.R_drew)); exact HO_5.out⟩, ⟨by (with_reducible repeat (first | refine blk_drewN ?_ _ | refine blk_drew ?_ | refine blk_alloc ?_ _)); exact BK406.out⟩, ⟨by repeat (first | (with_reducible first | exact HB.out | apply below_alloc | apply pw_below_drewN | apply below_drew1 | refine below_set ?_ GE406.out) | exact HB.out)⟩⟩
  rw [if_neg c13] at H
  have c13b0 : (((rd_L1 aC aE).length : Int) == 0) = false := beq_eq_false_iff_ne.mpr c13
  have c13b1 : (((rd_L1 aC aE).length : Int) != 0) = true := bne_iff_ne.mpr c13
  have c13b2 : ¬ ((rd_L1 aC aE) = []) := fun h_ => c13 (by rw [h_]; rfl)
  replace H := Option.bind_eq_some_iff.mp H
  obtain ⟨t414, A170, H⟩ := H
  replace H : (if t414 = true then (if 0 ≤ (rd l1 aE) then (if (rd l1 aE) < (aN.length : Int) then ((some (aN.set ((rd l1 aE) : Int).toNat (wrap64 ((rd aN (rd l1 aE)) + 1)) : List Int)).bind fun y418 => (if (rd l1 aE) < (aA.length : Int) then (if (rd y418 (rd l1 aE)) > ((rd_T50 aA (rd l1 aE)).f2) then (some false) else (laganref04_meets.l0 k1 l1 y418 (wrap64 (aE + 1)) aD aA aC)) else (none))) else (none)) else (none)) else (some false)) = some r := H
  have A17 := Aside0.mk A170
  clear A170
  by_cases c18 : t414 = true
  rotate_left
  ·
   replace c18 := Bool.eq_false_iff.mpr c18
   subst c18
   have H1 : (some false) = some r := by rw [if_neg (show ¬ (false = true) by decide)] at H; exact H
   clear H
   have H := H1
   clear H1
   obtain rfl := Option.some.inj H
   have kG : wr.cell? ⟨gb406, 0, none⟩ = some (.slice aG aD.length aH) := (blk_cell BK406.out 0).trans rfl
   have kH : wr.cell? ⟨gb406, 1, none⟩ = some (.slice aK aA.length aI) := (blk_cell BK406.out 1).trans rfl
   have kI : wr.cell? ⟨gb406, 2, none⟩ = some (.slice aM aC.length aJ) := (blk_cell BK406.out 2).trans rfl
   have kJ := blk_frozen BK406.out 0
   have kK := blk_frozen BK406.out 1
   have kL := blk_frozen BK406.out 2
   have p410 : 0 ≤ (aE : Int) := of_decide_eq_true (by assumption)
   have q410 : aE < (aC.length : Int) := of_decide_eq_true (by assumption)
   obtain ⟨ad410, jN, jO, e410, bW, cF, cG⟩ := at_L1 aX.out aE p410 q410
   cases e410
   replace bW := (HB.out.cell (World.block_lt_of_cell? w _ bW)).trans bW
   have jP := Aside0.mk cG
   have jQ := Aside0.mk cF
   clear cG cF
   replace p410 := eq_true p410
   replace q410 := eq_true q410
   try go_wp2
   have n0_ := Aside0.mk (Kd.R_drew HO_5.out)
   have n1_ := Aside0.mk (blk_drew BK406.out)
   have n2_ := Aside0.mk (below_drew1 HB.out)
   clear HO_5
   clear BK406
   clear HB
   have HO_5 := n0_
   have BK406 := n1_
   have HB := n2_
   clear n0_ n1_ n2_
   have p412 : 0 ≤ (aE : Int) := of_decide_eq_true (by assumption)
   have q412 : aE < (aC.length : Int) := of_decide_eq_true (by assumption)
   obtain ⟨ad412, dY, dZ, e412, bY, eB, eC⟩ := at_L1 aX.out aE p412 q412
   have cH := bY
   obtain rfl : ad410 = ad412 := (by injection e412)
   replace bY := (HB.out.cell (World.block_lt_of_cell? w _ bY)).trans bY
   have eD := Aside0.mk eC
   have gG := Aside0.mk eB
   clear eC eB
   replace p412 := eq_true p412
   replace q412 := eq_true q412
   have p413 : 0 ≤ (aE : Int) := of_decide_eq_true (by assumption)
   have q413 : aE < (l1.length : Int) := of_decide_eq_true (by assumption)
   obtain ⟨ad413, e413, bZ⟩ := Kd.at_int HR1.out aE p413 q413
   have cI := bZ
   cases e413
   replace bZ := (HB.out.cell (World.block_lt_of_cell? w _ bZ)).trans bZ
   replace p413 := eq_true p413
   replace q413 := eq_true q413
   refine start_ (n := 11) (S := fun w' => w'.cell? ⟨gb406, 0, none⟩ = some (.slice aG aD.length aH) ∧ w'.cell? ⟨gb406, 1, none⟩ = some (.slice aK aA.length aI) ∧ w'.cell? ⟨gb406, 2, none⟩ = some (.slice (some ad410) aC.length aJ) ∧ w'.cell? (ad410.add (aE).toNat) = some (.slice dY (rd_L1 aC aE).length dZ) ∧ w'.cell? (ad413.add (aE).toNat) = some (.int .i64 (rd l1 aE))) (ds := []) #[false, false, false, false, false, false, false, false, false, false, false] (by kernel_rfl) rfl rfl ⟨(blk_cell BK406.out 0).trans rfl, (blk_cell BK406.out 1).trans rfl, (blk_cell BK406.out 2).trans rfl, ((HB.out.cell (World.block_lt_of_cell? w _ cH)).trans cH), ((HB.out.cell (World.block_lt_of_cell? w _ cI)).trans cI)⟩ (fun hHeld => ?_); refine with_tabW laganref04_meets.tab10 laganref04_meets.bits10 (fun HT_ HW_ => ?_)
   generalize wr.drew = w39 at HO_5 BK406 HB eD bY bZ hHeld ⊢
   refine pure_ (i := 0) (N := some 35) (v := ?_) (a' := ?_) #[true, false, false, false, false, false, false, false, false, false, false] rfl rfl (any_of HT_.out (by kernel_rfl)) (fun _ _ _ h => h) (Or.inl ⟨by rfl, ?_⟩) ?_ ?_
   rotate_left
   ·
    intro w'
    go_simp
    with_reducible rfl
   rotate_left
   ·
    simp only [Act.put, List.setIfInBounds_toArray, List.set_cons_zero, List.set_cons_succ, i64_w, i32_w]
    rfl
   refine pure_ (i := 2) (N := some 37) (v := ?_) (a' := ?_) #[true, false, true, false, false, false, false, false, false, false, false] rfl rfl (any_of HT_.out (by kernel_rfl)) (fun _ _ _ h => h) (Or.inl ⟨by rfl, ?_⟩) ?_ ?_
   rotate_left
   ·
    intro w'
    go_simp
    with_reducible rfl
   rotate_left
   ·
    simp only [Act.put, List.setIfInBounds_toArray, List.set_cons_zero, List.set_cons_succ, i64_w, i32_w]
    rfl
   refine pure_ (i := 5) (N := some 40) (v := ?_) (a' := ?_) #[true, false, true, false, false, true, false, false, false, false, false] rfl rfl (any_of HT_.out (by kernel_rfl)) (fun _ _ _ h => h) (Or.inl ⟨by rfl, ?_⟩) ?_ ?_
   rotate_left
   ·
    intro w'
    go_simp
    with_reducible rfl
   rotate_left
   ·
    simp only [Act.put, List.setIfInBounds_toArray, List.set_cons_zero, List.set_cons_succ, i64_w, i32_w]
    rfl
   refine pure_ (i := 6) (N := some 41) (v := ?_) (a' := ?_) #[true, false, true, false, false, true, true, false, false, false, false] rfl rfl (any_of HT_.out (by kernel_rfl)) (fun _ _ _ h => h) (Or.inl ⟨by rfl, ?_⟩) ?_ ?_
   rotate_left
   ·
    intro w'
    go_simp
    with_reducible rfl
   rotate_left
   ·
    simp only [Act.put, List.setIfInBounds_toArray, List.set_cons_zero, List.set_cons_succ, i64_w, i32_w]
    rfl
   refine pure_ (i := 7) (N := some 42) (v := ?_) (a' := ?_) #[true, false, true, false, false, true, true, true, false, false, false] rfl rfl (any_of HT_.out (by kernel_rfl)) (fun _ _ _ h => h) (Or.inl ⟨by rfl, ?_⟩) ?_ ?_
   rotate_left
   ·
    intro w'
    go_simp
    with_reducible rfl
   rotate_left
   ·
    simp only [Act.put, List.setIfInBounds_toArray, List.set_cons_zero, List.set_cons_succ, i64_w, i32_w]
    rfl
   refine take_ (i := 1) (N := some 36) (v := ?_) (a' := ?_) #[true, true, true, false, false, true, true, true, false, false, false] rfl rfl (take_ofW HT_.out HW_.out (by kernel_rfl)) (fun _ _ _ h => h) (Or.inl ⟨by rfl, ?_⟩) hHeld ?_ ?_
   rotate_left
   ·
    rintro w' ⟨s0, s1, s2, s3, s4⟩
    go_simp
    with_reducible rfl
   rotate_left
   ·
    simp only [Act.put, List.setIfInBounds_toArray, List.set_cons_zero, List.set_cons_succ, i64_w, i32_w]
    rfl
   refine pure_ (i := 3) (N := some 38) (v := ?_) (a' := ?_) #[true, true, true, true, false, true, true, true, false, false, false] rfl rfl (any_of HT_.out (by kernel_rfl)) (fun _ _ _ h => h) (Or.inl ⟨by rfl, ?_⟩) ?_ ?_
   rotate_left
   ·
    intro w'
    go_simp
    with_reducible rfl
   rotate_left
   ·
    simp only [Act.put, List.setIfInBounds_toArray, List.set_cons_zero, List.set_cons_succ, i64_w, i32_w]
    rfl
   refine take_ (i := 4) (N := some 39) (v := ?_) (a' := ?_) #[true, true, true, true, true, true, true, true, false, false, false] rfl rfl (take_ofW HT_.out HW_.out (by kernel_rfl)) (fun _ _ _ h => h) (Or.inl ⟨by rfl, ?_⟩) hHeld ?_ ?_
   rotate_left
   ·
    rintro w' ⟨s0, s1, s2, s3, s4⟩
    go_simp
    with_reducible rfl
   rotate_left
   ·
    simp only [Act.put, List.setIfInBounds_toArray, List.set_cons_zero, List.set_cons_succ, i64_w, i32_w]
    rfl
   refine take_ (i := 8) (N := some 43) (v := ?_) (a' := ?_) #[true, true, true, true, true, true, true, true, true, false, false] rfl rfl (take_ofW HT_.out HW_.out (by kernel_rfl)) (fun _ _ _ h => h) (Or.inl ⟨by rfl, ?_⟩) hHeld ?_ ?_
   rotate_left
   ·
    rintro w' ⟨s0, s1, s2, s3, s4⟩
    go_simp
    with_reducible rfl
   rotate_left
   ·
    simp only [Act.put, List.setIfInBounds_toArray, List.set_cons_zero, List.set_cons_succ, i64_w, i32_w]
    rfl
   refine one_ (i := 9) (N := some 44) #[true, true, true, true, true, true, true, true, true, true, false] rfl rfl (one_of HT_.out (by kernel_rfl)) (by decide) (fun K hK => ?_)
   refine goes_ Try.func33 (by kernel_rfl) rfl #[.slice dY (rd_L1 aC aE).length dZ, .int .i64 (rd l1 aE)] (by rfl) rfl rfl (by (try simp only [List.map_toArray, List.map_cons, List.map_nil]); first | done | rfl | (simp only [List.length_drop, List.length_take]; rfl)) ?_
   with_reducible refine (laganref04_Has.calls k1 _ _ (rd_L1 aC aE) (rd l1 aE) false _ ?side1 ?side2 A17.out).mono ?_
   (case side1 => repeat (first | exact (Kd.C_below eD.out HB.out) | (with_reducible refine Kd.C_alloc ?_ _) | (with_reducible refine Kd.C_drewN ?_ _) | (with_reducible refine Kd.C_drew ?_)))
   (case side2 => exact gG.out)
   rintro e w' ⟨rfl, ⟨nd, rfl⟩⟩
   refine ⟨_, rfl, ?_⟩
   refine hK.out _ _ ⟨(blk_cell BK406.out 0).trans rfl, (blk_cell BK406.out 1).trans rfl, (blk_cell BK406.out 2).trans rfl, ((HB.out.cell (World.block_lt_of_cell? w _ cH)).trans cH), ((HB.out.cell (World.block_lt_of_cell? w _ cI)).trans cI)⟩ (fun hHeld => ?_)
   clear hK K
   refine norm_ (a' := ?_) ?_ ?_
   rotate_left
   ·
    show Act.put _ (some 44) _ = _
    simp only [Act.put, List.setIfInBounds_toArray, List.set_cons_zero, List.set_cons_succ, i64_w, i32_w]
    rfl
   refine pure_ (i := 10) (N := some 45) (v := ?_) (a' := ?_) #[true, true, true, true, true, true, true, true, true, true, true] rfl rfl (any_of HT_.out (by kernel_rfl)) (fun _ _ _ h => h) (Or.inl ⟨by rfl, ?_⟩) ?_ ?_
   rotate_left
   ·
    intro w'
    go_simp
    with_reducible rfl
   rotate_left
   ·
    simp only [Act.put, List.setIfInBounds_toArray, List.set_cons_zero, List.set_cons_succ, i64_w, i32_w]
    rfl
   refine done_ (done_of HT_.out (by kernel_rfl)) ?_
   try go_wp2
   go_ret
   exact ⟨by first | rfl | (simp [errW_none, errW_some] <;> rfl) | (simp [*, errW_none, errW_some] <;> rfl), by repeat (first | (with_reducible first | exact HB.out | apply below_alloc | apply pw_below_drewN | apply below_drew1 | refine below_set ?_ GE406.out) | exact HB.out)⟩
  subst c18
  have H1 : (if 0 ≤ (rd l1 aE) then (if (rd l1 aE) < (aN.length : Int) then ((some (aN.set ((rd l1 aE) : Int).toNat (wrap64 ((rd aN (rd l1 aE)) + 1)) : List Int)).bind fun y418 => (if (rd l1 aE) < (aA.length : Int) then (if (rd y418 (rd l1 aE)) > ((rd_T50 aA (rd l1 aE)).f2) then (some false) else (laganref04_meets.l0 k1 l1 y418 (wrap64 (aE + 1)) aD aA aC)) else (none))) else (none)) else (none)) = some r := by rw [if_pos rfl] at H; exact H
  clear H
  have H := H1
  clear H1
  by_cases c19 : 0 ≤ (rd l1 aE)
  rotate_left
  ·
   rw [if_neg c19] at H
   exact absurd H (by simp)
  rw [if_pos c19] at H
  have c19b0 : decide (0 ≤ (rd l1 aE)) = true := decide_eq_true c19
  clear c19
  by_cases c20 : (rd l1 aE) < (aN.length : Int)
  rotate_left
  ·
   rw [if_neg c20] at H
   exact absurd H (by simp)
  rw [if_pos c20] at H
  have c20b0 : decide ((rd l1 aE) < (aN.length : Int)) = true := decide_eq_true c20
  clear c20
  obtain ⟨y418, hy418⟩ : ∃ y_ : List Int, y_ = (aN.set ((rd l1 aE) : Int).toNat (wrap64 ((rd aN (rd l1 aE)) + 1))) := ⟨_, rfl⟩
  replace H : (if (rd l1 aE) < (aA.length : Int) then (if (rd y418 (rd l1 aE)) > ((rd_T50 aA (rd l1 aE)).f2) then (some false) else (laganref04_meets.l0 k1 l1 y418 (wrap64 (aE + 1)) aD aA aC)) else (none)) = some r := by first | (rw [hy418]; with_reducible exact H) | (have H2_ := (Option.bind_some _ _).symm.trans H; rw [hy418]; with_reducible exact H2_) | (have H2_ := (Option.bind_some _ _).symm.trans H; with_reducible exact H2_) | with_reducible exact H | (rw [hy418]; exact H) | exact H
  have Ny418 := Aside0.mk hy418
  clear hy418
  by_cases c22 : (rd l1 aE) < (aA.length : Int)
  rotate_left
  ·
   rw [if_neg c22] at H
   exact absurd H (by simp)
  rw [if_pos c22] at H
  have c22b0 : decide ((rd l1 aE) < (aA.length : Int)) = true := decide_eq_true c22
  clear c22
  by_cases c23 : (rd y418 (rd l1 aE)) > ((rd_T50 aA (rd l1 aE)).f2)
  ·
   rw [if_pos c23] at H
   have c23b0 : decide (((rd_T50 aA (rd l1 aE)).f2) < (rd y418 (rd l1 aE))) = true := decide_eq_true c23
   clear c23
   obtain rfl := Option.some.inj H
   have mV : wr.cell? ⟨gb406, 0, none⟩ = some (.slice aG aD.length aH) := (blk_cell BK406.out 0).trans rfl
   have mW : wr.cell? ⟨gb406, 1, none⟩ = some (.slice aK aA.length aI) := (blk_cell BK406.out 1).trans rfl
   have mX : wr.cell? ⟨gb406, 2, none⟩ = some (.slice aM aC.length aJ) := (blk_cell BK406.out 2).trans rfl
   have mY := blk_frozen BK406.out 0
   have mZ := blk_frozen BK406.out 1
   have nA := blk_frozen BK406.out 2
   have p410 : 0 ≤ (aE : Int) := of_decide_eq_true (by assumption)
   have q410 : aE < (aC.length : Int) := of_decide_eq_true (by assumption)
   obtain ⟨ad410, jN, jO, e410, bW, cF, cG⟩ := at_L1 aX.out aE p410 q410
   cases e410
   replace bW := (HB.out.cell (World.block_lt_of_cell? w _ bW)).trans bW
   have jP := Aside0.mk cG
   have jQ := Aside0.mk cF
   clear cG cF
   replace p410 := eq_true p410
   replace q410 := eq_true q410
   try go_wp2
   have n0_ := Aside0.mk (Kd.R_drew HO_5.out)
   have n1_ := Aside0.mk (blk_drew BK406.out)
   have n2_ := Aside0.mk (below_drew1 HB.out)
   clear HO_5
   clear BK406
   clear HB
   have HO_5 := n0_
   have BK406 := n1_
   have HB := n2_
   clear n0_ n1_ n2_
   have p412 : 0 ≤ (aE : Int) := of_decide_eq_true (by assumption)
   have q412 : aE < (aC.length : Int) := of_decide_eq_true (by assumption)
   obtain ⟨ad412, dY, dZ, e412, bY, eB, eC⟩ := at_L1 aX.out aE p412 q412
   have cH := bY
   obtain rfl : ad410 = ad412 := (by injection e412)
   replace bY := (HB.out.cell (World.block_lt_of_cell? w _ bY)).trans bY
   have eD := Aside0.mk eC
   have gG := Aside0.mk eB
   clear eC eB
   replace p412 := eq_true p412
   replace q412 := eq_true q412
   have p413 : 0 ≤ (aE : Int) := of_decide_eq_true (by assumption)
   have q413 : aE < (l1.length : Int) := of_decide_eq_true (by assumption)
   obtain ⟨ad413, e413, bZ⟩ := Kd.at_int HR1.out aE p413 q413
   have cI := bZ
   cases e413
   replace bZ := (HB.out.cell (World.block_lt_of_cell? w _ bZ)).trans bZ
   replace p413 := eq_true p413
   replace q413 := eq_true q413
   refine start_ (n := 11) (S := fun w' => w'.cell? ⟨gb406, 0, none⟩ = some (.slice aG aD.length aH) ∧ w'.cell? ⟨gb406, 1, none⟩ = some (.slice aK aA.length aI) ∧ w'.cell? ⟨gb406, 2, none⟩ = some (.slice (some ad410) aC.length aJ) ∧ w'.cell? (ad410.add (aE).toNat) = some (.slice dY (rd_L1 aC aE).length dZ) ∧ w'.cell? (ad413.add (aE).toNat) = some (.int .i64 (rd l1 aE))) (ds := []) #[false, false, false, false, false, false, false, false, false, false, false] (by kernel_rfl) rfl rfl ⟨(blk_cell BK406.out 0).trans rfl, (blk_cell BK406.out 1).trans rfl, (blk_cell BK406.out 2).trans rfl, ((HB.out.cell (World.block_lt_of_cell? w _ cH)).trans cH), ((HB.out.cell (World.block_lt_of_cell? w _ cI)).trans cI)⟩ (fun hHeld => ?_); refine with_tabW laganref04_meets.tab10 laganref04_meets.bits10 (fun HT_ HW_ => ?_)
   generalize wr.drew = w25 at HO_5 BK406 HB eD bY bZ hHeld ⊢
   refine pure_ (i := 0) (N := some 35) (v := ?_) (a' := ?_) #[true, false, false, false, false, false, false, false, false, false, false] rfl rfl (any_of HT_.out (by kernel_rfl)) (fun _ _ _ h => h) (Or.inl ⟨by rfl, ?_⟩) ?_ ?_
   rotate_left
   ·
    intro w'
    go_simp
    with_reducible rfl
   rotate_left
   ·
    simp only [Act.put, List.setIfInBounds_toArray, List.set_cons_zero, List.set_cons_succ, i64_w, i32_w]
    rfl
   refine pure_ (i := 2) (N := some 37) (v := ?_) (a' := ?_) #[true, false, true, false, false, false, false, false, false, false, false] rfl rfl (any_of HT_.out (by kernel_rfl)) (fun _ _ _ h => h) (Or.inl ⟨by rfl, ?_⟩) ?_ ?_
   rotate_left
   ·
    intro w'
    go_simp
    with_reducible rfl
   rotate_left
   ·
    simp only [Act.put, List.setIfInBounds_toArray, List.set_cons_zero, List.set_cons_succ, i64_w, i32_w]
    rfl
   refine pure_ (i := 5) (N := some 40) (v := ?_) (a' := ?_) #[true, false, true, false, false, true, false, false, false, false, false] rfl rfl (any_of HT_.out (by kernel_rfl)) (fun _ _ _ h => h) (Or.inl ⟨by rfl, ?_⟩) ?_ ?_
   rotate_left
   ·
    intro w'
    go_simp
    with_reducible rfl
   rotate_left
   ·
    simp only [Act.put, List.setIfInBounds_toArray, List.set_cons_zero, List.set_cons_succ, i64_w, i32_w]
    rfl
   refine pure_ (i := 6) (N := some 41) (v := ?_) (a' := ?_) #[true, false, true, false, false, true, true, false, false, false, false] rfl rfl (any_of HT_.out (by kernel_rfl)) (fun _ _ _ h => h) (Or.inl ⟨by rfl, ?_⟩) ?_ ?_
   rotate_left
   ·
    intro w'
    go_simp
    with_reducible rfl
   rotate_left
   ·
    simp only [Act.put, List.setIfInBounds_toArray, List.set_cons_zero, List.set_cons_succ, i64_w, i32_w]
    rfl
   refine pure_ (i := 7) (N := some 42) (v := ?_) (a' := ?_) #[true, false, true, false, false, true, true, true, false, false, false] rfl rfl (any_of HT_.out (by kernel_rfl)) (fun _ _ _ h => h) (Or.inl ⟨by rfl, ?_⟩) ?_ ?_
   rotate_left
   ·
    intro w'
    go_simp
    with_reducible rfl
   rotate_left
   ·
    simp only [Act.put, List.setIfInBounds_toArray, List.set_cons_zero, List.set_cons_succ, i64_w, i32_w]
    rfl
   refine take_ (i := 1) (N := some 36) (v := ?_) (a' := ?_) #[true, true, true, false, false, true, true, true, false, false, false] rfl rfl (take_ofW HT_.out HW_.out (by kernel_rfl)) (fun _ _ _ h => h) (Or.inl ⟨by rfl, ?_⟩) hHeld ?_ ?_
   rotate_left
   ·
    rintro w' ⟨s0, s1, s2, s3, s4⟩
    go_simp
    with_reducible rfl
   rotate_left
   ·
    simp only [Act.put, List.setIfInBounds_toArray, List.set_cons_zero, List.set_cons_succ, i64_w, i32_w]
    rfl
   refine pure_ (i := 3) (N := some 38) (v := ?_) (a' := ?_) #[true, true, true, true, false, true, true, true, false, false, false] rfl rfl (any_of HT_.out (by kernel_rfl)) (fun _ _ _ h => h) (Or.inl ⟨by rfl, ?_⟩) ?_ ?_
   rotate_left
   ·
    intro w'
    go_simp
    with_reducible rfl
   rotate_left
   ·
    simp only [Act.put, List.setIfInBounds_toArray, List.set_cons_zero, List.set_cons_succ, i64_w, i32_w]
    rfl
   refine take_ (i := 4) (N := some 39) (v := ?_) (a' := ?_) #[true, true, true, true, true, true, true, true, false, false, false] rfl rfl (take_ofW HT_.out HW_.out (by kernel_rfl)) (fun _ _ _ h => h) (Or.inl ⟨by rfl, ?_⟩) hHeld ?_ ?_
   rotate_left
   ·
    rintro w' ⟨s0, s1, s2, s3, s4⟩
    go_simp
    with_reducible rfl
   rotate_left
   ·
    simp only [Act.put, List.setIfInBounds_toArray, List.set_cons_zero, List.set_cons_succ, i64_w, i32_w]
    rfl
   refine take_ (i := 8) (N := some 43) (v := ?_) (a' := ?_) #[true, true, true, true, true, true, true, true, true, false, false] rfl rfl (take_ofW HT_.out HW_.out (by kernel_rfl)) (fun _ _ _ h => h) (Or.inl ⟨by rfl, ?_⟩) hHeld ?_ ?_
   rotate_left
   ·
    rintro w' ⟨s0, s1, s2, s3, s4⟩
    go_simp
    with_reducible rfl
   rotate_left
   ·
    simp only [Act.put, List.setIfInBounds_toArray, List.set_cons_zero, List.set_cons_succ, i64_w, i32_w]
    rfl
   refine one_ (i := 9) (N := some 44) #[true, true, true, true, true, true, true, true, true, true, false] rfl rfl (one_of HT_.out (by kernel_rfl)) (by decide) (fun K hK => ?_)
   refine goes_ Try.func33 (by kernel_rfl) rfl #[.slice dY (rd_L1 aC aE).length dZ, .int .i64 (rd l1 aE)] (by rfl) rfl rfl (by (try simp only [List.map_toArray, List.map_cons, List.map_nil]); first | done | rfl | (simp only [List.length_drop, List.length_take]; rfl)) ?_
   with_reducible refine (laganref04_Has.calls k1 _ _ (rd_L1 aC aE) (rd l1 aE) true _ ?side1 ?side2 A17.out).mono ?_
   (case side1 => repeat (first | exact (Kd.C_below eD.out HB.out) | (with_reducible refine Kd.C_alloc ?_ _) | (with_reducible refine Kd.C_drewN ?_ _) | (with_reducible refine Kd.C_drew ?_)))
   (case side2 => exact gG.out)
   rintro e w' ⟨rfl, ⟨nd, rfl⟩⟩
   refine ⟨_, rfl, ?_⟩
   refine hK.out _ _ ⟨(blk_cell BK406.out 0).trans rfl, (blk_cell BK406.out 1).trans rfl, (blk_cell BK406.out 2).trans rfl, ((HB.out.cell (World.block_lt_of_cell? w _ cH)).trans cH), ((HB.out.cell (World.block_lt_of_cell? w _ cI)).trans cI)⟩ (fun hHeld => ?_)
   clear hK K
   refine norm_ (a' := ?_) ?_ ?_
   rotate_left
   ·
    show Act.put _ (some 44) _ = _
    simp only [Act.put, List.setIfInBounds_toArray, List.set_cons_zero, List.set_cons_succ, i64_w, i32_w]
    rfl
   refine pure_ (i := 10) (N := some 45) (v := ?_) (a' := ?_) #[true, true, true, true, true, true, true, true, true, true, true] rfl rfl (any_of HT_.out (by kernel_rfl)) (fun _ _ _ h => h) (Or.inl ⟨by rfl, ?_⟩) ?_ ?_
   rotate_left
   ·
    intro w'
    go_simp
    with_reducible rfl
   rotate_left
   ·
    simp only [Act.put, List.setIfInBounds_toArray, List.set_cons_zero, List.set_cons_succ, i64_w, i32_w]
    rfl
   refine done_ (done_of HT_.out (by kernel_rfl)) ?_
   try go_wp2
   (try (rw [drewN_self w25]; generalize hq_ : World.drewN w25 _ = w25; have n0_ : Aside0 (Kd.R (Kd.int .i64) 3 w25 w.heap.size (fun _ => True) v408 aN) := ⟨by rw [← hq_]; exact (by (with_reducible repeat (first | apply Kd.R_alloc | apply Kd.R_drewN | apply Kd.R_drew)); exact HO_5.out)⟩; have n1_ : Aside0 (w25.heap[gb406]? = some (.cells #[.slice aG aD.length aH, .slice aK aA.length aI, .slice (some ad410) aC.length aJ] 26 (0, 0))) := ⟨by rw [← hq_]; exact (by (with_reducible repeat (first | refine blk_drewN ?_ _ | refine blk_drew ?_ | refine blk_alloc ?_ _)); exact BK406.out)⟩; have n2_ : Aside0 (Below w.heap.size w w25) := ⟨by rw [← hq_]; exact (by repeat (first | (with_reducible first | exact HB.out | apply below_alloc | apply pw_below_drewN | apply below_drew1 | refine below_set ?_ GE406.out) | exact HB.out))⟩; clear HO_5 BK406 HB hq_; have HO_5 := n0_; have BK406 := n1_; have HB := n2_; clear n0_ n1_ n2_))
   have n0_ := Aside0.mk (Kd.R_drew HO_5.out)
   have n1_ := Aside0.mk (blk_drew BK406.out)
   have n2_ := Aside0.mk (below_drew1 HB.out)
   clear HO_5
   clear BK406
   clear HB
   have HO_5 := n0_
   have BK406 := n1_
   have HB := n2_
   clear n0_ n1_ n2_
   have p415 : 0 ≤ (aE : Int) := of_decide_eq_true (by assumption)
   have q415 : aE < (l1.length : Int) := of_decide_eq_true (by assumption)
   obtain ⟨ad415, e415, cV⟩ := Kd.at_int HR1.out aE p415 q415
   have gH := cV
   obtain rfl : ad413 = ad415 := (by injection e415)
   replace cV := (HB.out.cell (World.block_lt_of_cell? w _ cV)).trans cV
   replace p415 := eq_true p415
   replace q415 := eq_true q415
   have p416 : 0 ≤ (aE : Int) := of_decide_eq_true (by assumption)
   have q416 : aE < (l1.length : Int) := of_decide_eq_true (by assumption)
   obtain ⟨ad416, e416, cW⟩ := Kd.at_int HR1.out aE p416 q416
   have gI := cW
   obtain rfl : ad413 = ad416 := (by injection e416)
   replace cW := (HB.out.cell (World.block_lt_of_cell? w _ cW)).trans cW
   replace p416 := eq_true p416
   replace q416 := eq_true q416
   obtain ⟨Ao27, co27, eo27⟩ := Kd.R_slice HO_5.out
   (first | subst eo27 | (injection eo27 with f1_ f2_ f3_; have f4_ := f1_.symm; have f5_ := f3_.symm; clear f1_ f2_ f3_; subst f4_; subst f5_))
   have p417 : 0 ≤ ((rd l1 aE) : Int) := of_decide_eq_true (by assumption)
   have q417 : (rd l1 aE) < (aN.length : Int) := of_decide_eq_true (by assumption)
   obtain ⟨ad417, e417, eS⟩ := Kd.at_int (Kd.R_reads' HO_5.out).2.2 (rd l1 aE) p417 q417
   cases e417
   replace p417 := eq_true p417
   replace q417 := eq_true q417
   have p21 : 0 ≤ ((rd l1 aE) : Int) := of_decide_eq_true (by assumption)
   have q21 : ((rd l1 aE) : Int) < ((aN.length : Int) : Int) := of_decide_eq_true (by assumption)
   obtain ⟨go21, co21, eo21, gb21, gl21, cl21, HG21⟩ := Kd.R_form HO_5.out (by omega)
   (first | cases eo21 | (injection eo21 with ea_ en_ ec_; (first | subst ea_ | (injection ea_ with ea_; subst ea_)); subst ec_; clear en_))
   have GB21 := Aside0.mk gb21
   have GG21 := Aside0.mk HG21
   clear gb21 gl21 HG21
   (first | simp only [add_plain] at eS | skip)
   obtain ⟨kY, kZ⟩ := Kd.R_celln 0 HO_5.out ((rd l1 aE) : Int) p21 q21
   replace p21 := eq_true p21
   replace q21 := eq_true q21
   have HP28 := Kd.R_putn HO_5.out ((rd l1 aE) : Int) (wrap64 ((rd aN (rd l1 aE)) + 1))
   rw [← Ny418.out] at HP28
   have HQ28 := Aside0.mk HP28
   clear HP28
   refine start_ (n := 15) (S := fun w' => w'.cell? (ad413.add (aE).toNat) = some (.int .i64 (rd l1 aE)) ∧ w'.cell? (ad413.add (aE).toNat) = some (.int .i64 (rd l1 aE)) ∧ w'.cell? ⟨go21, ((rd l1 aE)).toNat, none⟩ = some (.int .i64 (rd aN (rd l1 aE)))) (ds := [14]) #[false, false, false, false, false, false, false, false, false, false, false, false, false, false, false] (by kernel_rfl) rfl rfl ⟨((HB.out.cell (World.block_lt_of_cell? w _ gH)).trans gH), ((HB.out.cell (World.block_lt_of_cell? w _ gI)).trans gI), eS⟩ (fun hHeld => ?_); refine with_tabW laganref04_meets.tab12 laganref04_meets.bits12 (fun HT_ HW_ => ?_)
   generalize w25.drew = w26 at HO_5 BK406 HB GG21 HQ28 kZ kY cV cW eS hHeld ⊢
   refine pure_ (i := 0) (N := some 46) (v := ?_) (a' := ?_) #[true, false, false, false, false, false, false, false, false, false, false, false, false, false, false] rfl rfl (any_of HT_.out (by kernel_rfl)) (fun _ _ _ h => h) (Or.inl ⟨by rfl, ?_⟩) ?_ ?_
   rotate_left
   ·
    intro w'
    go_simp
    with_reducible rfl
   rotate_left
   ·
    simp only [Act.put, List.setIfInBounds_toArray, List.set_cons_zero, List.set_cons_succ, i64_w, i32_w]
    rfl
   refine pure_ (i := 1) (N := some 47) (v := ?_) (a' := ?_) #[true, true, false, false, false, false, false, false, false, false, false, false, false, false, false] rfl rfl (any_of HT_.out (by kernel_rfl)) (fun _ _ _ h => h) (Or.inl ⟨by rfl, ?_⟩) ?_ ?_
   rotate_left
   ·
    intro w'
    go_simp
    with_reducible rfl
   rotate_left
   ·
    simp only [Act.put, List.setIfInBounds_toArray, List.set_cons_zero, List.set_cons_succ, i64_w, i32_w]
    rfl
   refine pure_ (i := 2) (N := some 48) (v := ?_) (a' := ?_) #[true, true, true, false, false, false, false, false, false, false, false, false, false, false, false] rfl rfl (any_of HT_.out (by kernel_rfl)) (fun _ _ _ h => h) (Or.inl ⟨by rfl, ?_⟩) ?_ ?_
   rotate_left
   ·
    intro w'
    go_simp
    with_reducible rfl
   rotate_left
   ·
    simp only [Act.put, List.setIfInBounds_toArray, List.set_cons_zero, List.set_cons_succ, i64_w, i32_w]
    rfl
   refine pure_ (i := 3) (N := some 49) (v := ?_) (a' := ?_) #[true, true, true, true, false, false, false, false, false, false, false, false, false, false, false] rfl rfl (any_of HT_.out (by kernel_rfl)) (fun _ _ _ h => h) (Or.inl ⟨by rfl, ?_⟩) ?_ ?_
   rotate_left
   ·
    intro w'
    go_simp
    with_reducible rfl
   rotate_left
   ·
    simp only [Act.put, List.setIfInBounds_toArray, List.set_cons_zero, List.set_cons_succ, i64_w, i32_w]
    rfl
   refine pure_ (i := 5) (N := some 51) (v := ?_) (a' := ?_) #[true, true, true, true, false, true, false, false, false, false, false, false, false, false, false] rfl rfl (any_of HT_.out (by kernel_rfl)) (fun _ _ _ h => h) (Or.inl ⟨by rfl, ?_⟩) ?_ ?_
   rotate_left
   ·
    intro w'
    go_simp
    with_reducible rfl
   rotate_left
   ·
    simp only [Act.put, List.setIfInBounds_toArray, List.set_cons_zero, List.set_cons_succ, i64_w, i32_w]
    rfl
   refine pure_ (i := 6) (N := some 52) (v := ?_) (a' := ?_) #[true, true, true, true, false, true, true, false, false, false, false, false, false, false, false] rfl rfl (any_of HT_.out (by kernel_rfl)) (fun _ _ _ h => h) (Or.inl ⟨by rfl, ?_⟩) ?_ ?_
   rotate_left
   ·
    intro w'
    go_simp
    with_reducible rfl
   rotate_left
   ·
    simp only [Act.put, List.setIfInBounds_toArray, List.set_cons_zero, List.set_cons_succ, i64_w, i32_w]
    rfl
   refine pure_ (i := 7) (N := some 53) (v := ?_) (a' := ?_) #[true, true, true, true, false, true, true, true, false, false, false, false, false, false, false] rfl rfl (any_of HT_.out (by kernel_rfl)) (fun _ _ _ h => h) (Or.inl ⟨by rfl, ?_⟩) ?_ ?_
   rotate_left
   ·
    intro w'
    go_simp
    with_reducible rfl
   rotate_left
   ·
    simp only [Act.put, List.setIfInBounds_toArray, List.set_cons_zero, List.set_cons_succ, i64_w, i32_w]
    rfl
   refine pure_ (i := 8) (N := some 54) (v := ?_) (a' := ?_) #[true, true, true, true, false, true, true, true, true, false, false, false, false, false, false] rfl rfl (any_of HT_.out (by kernel_rfl)) (fun _ _ _ h => h) (Or.inl ⟨by rfl, ?_⟩) ?_ ?_
   rotate_left
   ·
    intro w'
    go_simp
    with_reducible rfl
   rotate_left
   ·
    simp only [Act.put, List.setIfInBounds_toArray, List.set_cons_zero, List.set_cons_succ, i64_w, i32_w]
    rfl
   refine take_ (i := 4) (N := some 50) (v := ?_) (a' := ?_) #[true, true, true, true, true, true, true, true, true, false, false, false, false, false, false] rfl rfl (take_ofW HT_.out HW_.out (by kernel_rfl)) (fun _ _ _ h => h) (Or.inl ⟨by rfl, ?_⟩) hHeld ?_ ?_
   rotate_left
   ·
    rintro w' ⟨s0, s1, s2⟩
    go_simp
    with_reducible rfl
   rotate_left
   ·
    simp only [Act.put, List.setIfInBounds_toArray, List.set_cons_zero, List.set_cons_succ, i64_w, i32_w]
    rfl
   refine take_ (i := 9) (N := some 55) (v := ?_) (a' := ?_) #[true, true, true, true, true, true, true, true, true, true, false, false, false, false, false] rfl rfl (take_ofW HT_.out HW_.out (by kernel_rfl)) (fun _ _ _ h => h) (Or.inl ⟨by rfl, ?_⟩) hHeld ?_ ?_
   rotate_left
   ·
    rintro w' ⟨s0, s1, s2⟩
    go_simp
    with_reducible rfl
   rotate_left
   ·
    simp only [Act.put, List.setIfInBounds_toArray, List.set_cons_zero, List.set_cons_succ, i64_w, i32_w]
    rfl
   refine pure_ (i := 10) (N := some 56) (v := ?_) (a' := ?_) #[true, true, true, true, true, true, true, true, true, true, true, false, false, false, false] rfl rfl (any_of HT_.out (by kernel_rfl)) (fun _ _ _ h => h) (Or.inl ⟨by rfl, ?_⟩) ?_ ?_
   rotate_left
   ·
    intro w'
    go_simp
    with_reducible rfl
   rotate_left
   ·
    simp only [Act.put, List.setIfInBounds_toArray, List.set_cons_zero, List.set_cons_succ, i64_w, i32_w]
    rfl
   refine take_ (i := 11) (N := some 57) (v := ?_) (a' := ?_) #[true, true, true, true, true, true, true, true, true, true, true, true, false, false, false] rfl rfl (take_ofW HT_.out HW_.out (by kernel_rfl)) (fun _ _ _ h => h) (Or.inl ⟨by rfl, ?_⟩) hHeld ?_ ?_
   rotate_left
   ·
    rintro w' ⟨s0, s1, s2⟩
    go_simp
    with_reducible rfl
   rotate_left
   ·
    simp only [Act.put, List.setIfInBounds_toArray, List.set_cons_zero, List.set_cons_succ, i64_w, i32_w]
    rfl
   refine pure_ (i := 12) (N := some 58) (v := ?_) (a' := ?_) #[true, true, true, true, true, true, true, true, true, true, true, true, true, false, false] rfl rfl (any_of HT_.out (by kernel_rfl)) (fun _ _ _ h => h) (Or.inl ⟨by rfl, ?_⟩) ?_ ?_
   rotate_left
   ·
    intro w'
    go_simp
    with_reducible rfl
   rotate_left
   ·
    simp only [Act.put, List.setIfInBounds_toArray, List.set_cons_zero, List.set_cons_succ, i64_w, i32_w]
    rfl
   refine pure_ (i := 13) (N := some 59) (v := ?_) (a' := ?_) #[true, true, true, true, true, true, true, true, true, true, true, true, true, true, false] rfl rfl (any_of HT_.out (by kernel_rfl)) (fun _ _ _ h => h) (Or.inl ⟨by rfl, ?_⟩) ?_ ?_
   rotate_left
   ·
    intro w'
    go_simp
    with_reducible rfl
   rotate_left
   ·
    simp only [Act.put, List.setIfInBounds_toArray, List.set_cons_zero, List.set_cons_succ, i64_w, i32_w]
    rfl
   refine last_ (i := 14) (N := none) #[true, true, true, true, true, true, true, true, true, true, true, true, true, true, true] rfl rfl (one_of HT_.out (by kernel_rfl)) (by decide) (fun K hK => ?_)
   refine skip_ (w1 := ?_) (by rfl) rfl ?_ ?_
   rotate_left
   ·
    go_simp
    rfl
   refine hK.out _ _ ?_
   clear hK K
   refine done_ (done_of HT_.out (by kernel_rfl)) ?_
   try go_wp2
   have n0_ : Aside0 (Kd.R (Kd.int .i64) 3 (w26.setCell ⟨go21, ((rd l1 aE) : Int).toNat, none⟩ (.int .i64 (wrap64 ((rd aN (rd l1 aE)) + 1)))) w.heap.size (fun _ => True) (.slice (some ⟨go21, 0, none⟩) aN.length co27) y418) := ⟨by (with_reducible repeat (first | apply Kd.R_alloc | apply Kd.R_drewN | apply Kd.R_drew)); exact HQ28.out⟩
   have n1_ : Aside0 ((w26.setCell ⟨go21, ((rd l1 aE) : Int).toNat, none⟩ (.int .i64 (wrap64 ((rd aN (rd l1 aE)) + 1)))).heap[gb406]? = some (.cells #[.slice aG aD.length aH, .slice aK aA.length aI, .slice (some ad410) aC.length aJ] 26 (0, 0))) := ⟨by (with_reducible repeat (first | refine blk_drewN ?_ _ | refine blk_drew ?_ | refine blk_alloc ?_ _)); refine blk_far ?_ (by have h_ := Kd.R_ne HO_5.out BK406.out (by decide); intro e_; exact h_ (by rw [e_]; rfl)) _; (with_reducible repeat (first | refine blk_drewN ?_ _ | refine blk_drew ?_ | refine blk_alloc ?_ _)); exact BK406.out⟩
   have n2_ : Aside0 (Below w.heap.size w (w26.setCell ⟨go21, ((rd l1 aE) : Int).toNat, none⟩ (.int .i64 (wrap64 ((rd aN (rd l1 aE)) + 1))))) := ⟨by repeat (first | (with_reducible first | exact HB.out | apply below_alloc | apply pw_below_drewN | apply below_drew1 | refine below_set ?_ GB21.out | refine below_set ?_ GE406.out) | exact HB.out)⟩
   (try clear HO_5)
   (try clear BK406)
   (try clear HB)
   generalize (w26.setCell ⟨go21, ((rd l1 aE) : Int).toNat, none⟩ (.int .i64 (wrap64 ((rd aN (rd l1 aE)) + 1)))) = w29 at n0_ n1_ n2_ ⊢
   have HO_5 := n0_
   have BK406 := n1_
   have HB := n2_
   clear n0_ n1_ n2_
   have n0_ := Aside0.mk (Kd.R_drew HO_5.out)
   have n1_ := Aside0.mk (blk_drew BK406.out)
   have n2_ := Aside0.mk (below_drew1 HB.out)
   clear HO_5
   clear BK406
   clear HB
   have HO_5 := n0_
   have BK406 := n1_
   have HB := n2_
   clear n0_ n1_ n2_
   have p419 : 0 ≤ (aE : Int) := of_decide_eq_true (by assumption)
   have q419 : aE < (l1.length : Int) := of_decide_eq_true (by assumption)
   obtain ⟨ad419, e419, cX⟩ := Kd.at_int HR1.out aE p419 q419
   have gJ := cX
   obtain rfl : ad413 = ad419 := (by injection e419)
   replace cX := (HB.out.cell (World.block_lt_of_cell? w _ cX)).trans cX
   replace p419 := eq_true p419
   replace q419 := eq_true q419
   have p420 : 0 ≤ ((rd l1 aE) : Int) := of_decide_eq_true (by assumption)
   have q420 : (rd l1 aE) < (y418.length : Int) := (by have h_ : ((rd l1 aE) : Int) < ((aN.length : Int) : Int) := of_decide_eq_true (by assumption); first | (have e_ := (Kd.R_reads' HO_5.out).1; omega) | simpa only [Ny418.out, List.length_set] using h_)
   have ql420 : (((rd l1 aE) : Int) < ((aN.length : Int) : Int)) = True := eq_true (of_decide_eq_true (by assumption))
   obtain ⟨ad420, e420, cY⟩ := Kd.at_int (Kd.R_reads' HO_5.out).2.2 (rd l1 aE) p420 q420
   obtain rfl : (⟨go21, 0, none⟩ : Addr) = ad420 := (by injection e420)
   (first | simp only [add_plain] at cY | simp only [add_at] at cY | simp only [Addr.add, Nat.zero_add] at cY | skip)
   replace p420 := eq_true p420
   replace q420 := eq_true q420
   have p421 : 0 ≤ (aE : Int) := of_decide_eq_true (by assumption)
   have q421 : aE < (l1.length : Int) := of_decide_eq_true (by assumption)
   obtain ⟨ad421, e421, cZ⟩ := Kd.at_int HR1.out aE p421 q421
   have gK := cZ
   obtain rfl : ad413 = ad421 := (by injection e421)
   replace cZ := (HB.out.cell (World.block_lt_of_cell? w _ cZ)).trans cZ
   replace p421 := eq_true p421
   replace q421 := eq_true q421
   have p422 : 0 ≤ ((rd l1 aE) : Int) := of_decide_eq_true (by assumption)
   have q422 : (rd l1 aE) < (aA.length : Int) := of_decide_eq_true (by assumption)
   obtain ⟨ad422, e422, dA, dB, dC⟩ := at_T50 aZ.out (rd l1 aE) p422 q422
   have gL := dC
   have gM := dB
   have gN := dA
   cases e422
   replace dA := (HB.out.cell (World.block_lt_of_cell? w _ dA)).trans dA
   replace dB := (HB.out.cell (World.block_lt_of_cell? w _ dB)).trans dB
   replace dC := (HB.out.cell (World.block_lt_of_cell? w _ dC)).trans dC
   replace p422 := eq_true p422
   replace q422 := eq_true q422
   refine start_ (n := 17) (S := fun w' => w'.cell? ⟨gb406, 0, none⟩ = some (.slice aG aD.length aH) ∧ w'.cell? ⟨gb406, 1, none⟩ = some (.slice (some ad422) aA.length aI) ∧ w'.cell? ⟨gb406, 2, none⟩ = some (.slice (some ad410) aC.length aJ) ∧ w'.cell? (ad413.add (aE).toNat) = some (.int .i64 (rd l1 aE)) ∧ w'.cell? ⟨go21, ((rd l1 aE)).toNat, none⟩ = some (.int .i64 (rd y418 (rd l1 aE))) ∧ w'.cell? (ad413.add (aE).toNat) = some (.int .i64 (rd l1 aE)) ∧ w'.cell? (ad422.add (((rd l1 aE)).toNat * 3)) = some (.int .i64 ((rd_T50 aA (rd l1 aE)).f0)) ∧ w'.cell? ⟨(ad422.add (((rd l1 aE)).toNat * 3)).block, (ad422.add (((rd l1 aE)).toNat * 3)).off + 1, none⟩ = some (.int .i64 ((rd_T50 aA (rd l1 aE)).f1)) ∧ w'.cell? ⟨(ad422.add (((rd l1 aE)).toNat * 3)).block, (ad422.add (((rd l1 aE)).toNat * 3)).off + 2, none⟩ = some (.int .i64 ((rd_T50 aA (rd l1 aE)).f2))) (ds := []) #[false, false, false, false, false, false, false, false, false, false, false, false, false, false, false, false, false] (by kernel_rfl) rfl rfl ⟨(blk_cell BK406.out 0).trans rfl, (blk_cell BK406.out 1).trans rfl, (blk_cell BK406.out 2).trans rfl, ((HB.out.cell (World.block_lt_of_cell? w _ gJ)).trans gJ), cY, ((HB.out.cell (World.block_lt_of_cell? w _ gK)).trans gK), ((HB.out.cell (World.block_lt_of_cell? w _ gN)).trans gN), ((HB.out.cell (World.block_lt_of_cell? w _ gM)).trans gM), ((HB.out.cell (World.block_lt_of_cell? w _ gL)).trans gL)⟩ (fun hHeld => ?_); refine with_tabW laganref04_meets.tab13 laganref04_meets.bits13 (fun HT_ HW_ => ?_)
   generalize w29.drew = w30 at HO_5 BK406 HB HQ28 cX cY cZ dA dB dC hHeld ⊢
   refine pure_ (i := 0) (N := some 60) (v := ?_) (a' := ?_) #[true, false, false, false, false, false, false, false, false, false, false, false, false, false, false, false, false] rfl rfl (any_of HT_.out (by kernel_rfl)) (fun _ _ _ h => h) (Or.inl ⟨by rfl, ?_⟩) ?_ ?_
   rotate_left
   ·
    intro w'
    go_simp
    with_reducible rfl
   rotate_left
   ·
    simp only [Act.put, List.setIfInBounds_toArray, List.set_cons_zero, List.set_cons_succ, i64_w, i32_w]
    rfl
   refine pure_ (i := 1) (N := some 61) (v := ?_) (a' := ?_) #[true, true, false, false, false, false, false, false, false, false, false, false, false, false, false, false, false] rfl rfl (any_of HT_.out (by kernel_rfl)) (fun _ _ _ h => h) (Or.inl ⟨by rfl, ?_⟩) ?_ ?_
   rotate_left
   ·
    intro w'
    go_simp
    with_reducible rfl
   rotate_left
   ·
    simp only [Act.put, List.setIfInBounds_toArray, List.set_cons_zero, List.set_cons_succ, i64_w, i32_w]
    rfl
   refine pure_ (i := 2) (N := some 62) (v := ?_) (a' := ?_) #[true, true, true, false, false, false, false, false, false, false, false, false, false, false, false, false, false] rfl rfl (any_of HT_.out (by kernel_rfl)) (fun _ _ _ h => h) (Or.inl ⟨by rfl, ?_⟩) ?_ ?_
   rotate_left
   ·
    intro w'
    go_simp
    with_reducible rfl
   rotate_left
   ·
    simp only [Act.put, List.setIfInBounds_toArray, List.set_cons_zero, List.set_cons_succ, i64_w, i32_w]
    rfl
   refine pure_ (i := 3) (N := some 63) (v := ?_) (a' := ?_) #[true, true, true, true, false, false, false, false, false, false, false, false, false, false, false, false, false] rfl rfl (any_of HT_.out (by kernel_rfl)) (fun _ _ _ h => h) (Or.inl ⟨by rfl, ?_⟩) ?_ ?_
   rotate_left
   ·
    intro w'
    go_simp
    with_reducible rfl
   rotate_left
   ·
    simp only [Act.put, List.setIfInBounds_toArray, List.set_cons_zero, List.set_cons_succ, i64_w, i32_w]
    rfl
   refine pure_ (i := 7) (N := some 67) (v := ?_) (a' := ?_) #[true, true, true, true, false, false, false, true, false, false, false, false, false, false, false, false, false] rfl rfl (any_of HT_.out (by kernel_rfl)) (fun _ _ _ h => h) (Or.inl ⟨by rfl, ?_⟩) ?_ ?_
   rotate_left
   ·
    intro w'
    go_simp
    with_reducible rfl
   rotate_left
   ·
    simp only [Act.put, List.setIfInBounds_toArray, List.set_cons_zero, List.set_cons_succ, i64_w, i32_w]
    rfl
   refine pure_ (i := 9) (N := some 69) (v := ?_) (a' := ?_) #[true, true, true, true, false, false, false, true, false, true, false, false, false, false, false, false, false] rfl rfl (any_of HT_.out (by kernel_rfl)) (fun _ _ _ h => h) (Or.inl ⟨by rfl, ?_⟩) ?_ ?_
   rotate_left
   ·
    intro w'
    go_simp
    with_reducible rfl
   rotate_left
   ·
    simp only [Act.put, List.setIfInBounds_toArray, List.set_cons_zero, List.set_cons_succ, i64_w, i32_w]
    rfl
   refine pure_ (i := 10) (N := some 70) (v := ?_) (a' := ?_) #[true, true, true, true, false, false, false, true, false, true, true, false, false, false, false, false, false] rfl rfl (any_of HT_.out (by kernel_rfl)) (fun _ _ _ h => h) (Or.inl ⟨by rfl, ?_⟩) ?_ ?_
   rotate_left
   ·
    intro w'
    go_simp
    with_reducible rfl
   rotate_left
   ·
    simp only [Act.put, List.setIfInBounds_toArray, List.set_cons_zero, List.set_cons_succ, i64_w, i32_w]
    rfl
   refine pure_ (i := 11) (N := some 71) (v := ?_) (a' := ?_) #[true, true, true, true, false, false, false, true, false, true, true, true, false, false, false, false, false] rfl rfl (any_of HT_.out (by kernel_rfl)) (fun _ _ _ h => h) (Or.inl ⟨by rfl, ?_⟩) ?_ ?_
   rotate_left
   ·
    intro w'
    go_simp
    with_reducible rfl
   rotate_left
   ·
    simp only [Act.put, List.setIfInBounds_toArray, List.set_cons_zero, List.set_cons_succ, i64_w, i32_w]
    rfl
   refine take_ (i := 4) (N := some 64) (v := ?_) (a' := ?_) #[true, true, true, true, true, false, false, true, false, true, true, true, false, false, false, false, false] rfl rfl (take_ofW HT_.out HW_.out (by kernel_rfl)) (fun _ _ _ h => h) (Or.inl ⟨by rfl, ?_⟩) hHeld ?_ ?_
   rotate_left
   ·
    rintro w' ⟨s0, s1, s2, s3, s4, s5, s6, s7, s8⟩
    go_simp
    with_reducible rfl
   rotate_left
   ·
    simp only [Act.put, List.setIfInBounds_toArray, List.set_cons_zero, List.set_cons_succ, i64_w, i32_w]
    rfl
   refine pure_ (i := 5) (N := some 65) (v := ?_) (a' := ?_) #[true, true, true, true, true, true, false, true, false, true, true, true, false, false, false, false, false] rfl rfl (any_of HT_.out (by kernel_rfl)) (fun _ _ _ h => h) (Or.inl ⟨by rfl, ?_⟩) ?_ ?_
   rotate_left
   ·
    intro w'
    go_simp
    with_reducible rfl
   rotate_left
   ·
    simp only [Act.put, List.setIfInBounds_toArray, List.set_cons_zero, List.set_cons_succ, i64_w, i32_w]
    rfl
   refine take_ (i := 6) (N := some 66) (v := ?_) (a' := ?_) #[true, true, true, true, true, true, true, true, false, true, true, true, false, false, false, false, false] rfl rfl (take_ofW HT_.out HW_.out (by kernel_rfl)) (fun _ _ _ h => h) (Or.inl ⟨by rfl, ?_⟩) hHeld ?_ ?_
   rotate_left
   ·
    rintro w' ⟨s0, s1, s2, s3, s4, s5, s6, s7, s8⟩
    go_simp
    with_reducible rfl
   rotate_left
   ·
    simp only [Act.put, List.setIfInBounds_toArray, List.set_cons_zero, List.set_cons_succ, i64_w, i32_w]
    rfl
   refine take_ (i := 8) (N := some 68) (v := ?_) (a' := ?_) #[true, true, true, true, true, true, true, true, true, true, true, true, false, false, false, false, false] rfl rfl (take_ofW HT_.out HW_.out (by kernel_rfl)) (fun _ _ _ h => h) (Or.inl ⟨by rfl, ?_⟩) hHeld ?_ ?_
   rotate_left
   ·
    rintro w' ⟨s0, s1, s2, s3, s4, s5, s6, s7, s8⟩
    go_simp
    with_reducible rfl
   rotate_left
   ·
    simp only [Act.put, List.setIfInBounds_toArray, List.set_cons_zero, List.set_cons_succ, i64_w, i32_w]
    rfl
   refine take_ (i := 12) (N := some 72) (v := ?_) (a' := ?_) #[true, true, true, true, true, true, true, true, true, true, true, true, true, false, false, false, false] rfl rfl (take_ofW HT_.out HW_.out (by kernel_rfl)) (fun _ _ _ h => h) (Or.inl ⟨by rfl, ?_⟩) hHeld ?_ ?_
   rotate_left
   ·
    rintro w' ⟨s0, s1, s2, s3, s4, s5, s6, s7, s8⟩
    go_simp
    with_reducible rfl
   rotate_left
   ·
    simp only [Act.put, List.setIfInBounds_toArray, List.set_cons_zero, List.set_cons_succ, i64_w, i32_w]
    rfl
   refine pure_ (i := 13) (N := some 73) (v := ?_) (a' := ?_) #[true, true, true, true, true, true, true, true, true, true, true, true, true, true, false, false, false] rfl rfl (any_of HT_.out (by kernel_rfl)) (fun _ _ _ h => h) (Or.inl ⟨by rfl, ?_⟩) ?_ ?_
   rotate_left
   ·
    intro w'
    go_simp
    with_reducible rfl
   rotate_left
   ·
    simp only [Act.put, List.setIfInBounds_toArray, List.set_cons_zero, List.set_cons_succ, i64_w, i32_w]
    rfl
   refine pure_ (i := 14) (N := some 74) (v := ?_) (a' := ?_) #[true, true, true, true, true, true, true, true, true, true, true, true, true, true, true, false, false] rfl rfl (any_of HT_.out (by kernel_rfl)) (fun _ _ _ h => h) (Or.inl ⟨by rfl, ?_⟩) ?_ ?_
   rotate_left
   ·
    intro w'
    go_simp
    with_reducible rfl
   rotate_left
   ·
    simp only [Act.put, List.setIfInBounds_toArray, List.set_cons_zero, List.set_cons_succ, i64_w, i32_w]
    rfl
   refine take_ (i := 15) (N := some 75) (v := ?_) (a' := ?_) #[true, true, true, true, true, true, true, true, true, true, true, true, true, true, true, true, false] rfl rfl (take_ofW HT_.out HW_.out (by kernel_rfl)) (fun _ _ _ h => h) (Or.inl ⟨by rfl, ?_⟩) hHeld ?_ ?_
   rotate_left
   ·
    rintro w' ⟨s0, s1, s2, s3, s4, s5, s6, s7, s8⟩
    go_simp
    with_reducible rfl
   rotate_left
   ·
    simp only [Act.put, List.setIfInBounds_toArray, List.set_cons_zero, List.set_cons_succ, i64_w, i32_w]
    rfl
   refine pure_ (i := 16) (N := some 76) (v := ?_) (a' := ?_) #[true, true, true, true, true, true, true, true, true, true, true, true, true, true, true, true, true] rfl rfl (any_of HT_.out (by kernel_rfl)) (fun _ _ _ h => h) (Or.inl ⟨by rfl, ?_⟩) ?_ ?_
   rotate_left
   ·
    intro w'
    go_simp
    with_reducible rfl
   rotate_left
   ·
    simp only [Act.put, List.setIfInBounds_toArray, List.set_cons_zero, List.set_cons_succ, i64_w, i32_w]
    rfl
   refine done_ (done_of HT_.out (by kernel_rfl)) ?_
   try go_wp2
   go_ret
   exact ⟨by first | rfl | (simp [errW_none, errW_some] <;> rfl) | (simp [*, errW_none, errW_some] <;> rfl), by repeat (first | (with_reducible first | exact HB.out | apply below_alloc | apply pw_below_drewN | apply below_drew1 | refine below_set ?_ GE406.out) | exact HB.out)⟩
  rw [if_neg c23] at H
  have c23b0 : decide (((rd_T50 aA (rd l1 aE)).f2) < (rd y418 (rd l1 aE))) = false := decide_eq_false c23
  clear c23
  have H' := Aside0.mk H
  clear H
  have hcz31_0 : wr.cell? ⟨gb406, 0, none⟩ = some (.slice aG aD.length aH) := (blk_cell BK406.out 0).trans rfl
  have hcz31_1 : wr.cell? ⟨gb406, 1, none⟩ = some (.slice aK aA.length aI) := (blk_cell BK406.out 1).trans rfl
  have hcz31_2 : wr.cell? ⟨gb406, 2, none⟩ = some (.slice aM aC.length aJ) := (blk_cell BK406.out 2).trans rfl
  have hfz31_0 := blk_frozen BK406.out 0
  have hfz31_1 := blk_frozen BK406.out 1
  have hfz31_2 := blk_frozen BK406.out 2
  have p410 : 0 ≤ (aE : Int) := of_decide_eq_true (by assumption)
  have q410 : aE < (aC.length : Int) := of_decide_eq_true (by assumption)
  obtain ⟨ad410, jN, jO, e410, bW, cF, cG⟩ := at_L1 aX.out aE p410 q410
  cases e410
  replace bW := (HB.out.cell (World.block_lt_of_cell? w _ bW)).trans bW
  have jP := Aside0.mk cG
  have jQ := Aside0.mk cF
  clear cG cF
  replace p410 := eq_true p410
  replace q410 := eq_true q410
  try go_wp2
  have n0_ := Aside0.mk (Kd.R_drew HO_5.out)
  have n1_ := Aside0.mk (blk_drew BK406.out)
  have n2_ := Aside0.mk (below_drew1 HB.out)
  clear HO_5
  clear BK406
  clear HB
  have HO_5 := n0_
  have BK406 := n1_
  have HB := n2_
  clear n0_ n1_ n2_
  have p412 : 0 ≤ (aE : Int) := of_decide_eq_true (by assumption)
  have q412 : aE < (aC.length : Int) := of_decide_eq_true (by assumption)
  obtain ⟨ad412, dY, dZ, e412, bY, eB, eC⟩ := at_L1 aX.out aE p412 q412
  have cH := bY
  obtain rfl : ad410 = ad412 := (by injection e412)
  replace bY := (HB.out.cell (World.block_lt_of_cell? w _ bY)).trans bY
  have eD := Aside0.mk eC
  have gG := Aside0.mk eB
  clear eC eB
  replace p412 := eq_true p412
  replace q412 := eq_true q412
  have p413 : 0 ≤ (aE : Int) := of_decide_eq_true (by assumption)
  have q413 : aE < (l1.length : Int) := of_decide_eq_true (by assumption)
  obtain ⟨ad413, e413, bZ⟩ := Kd.at_int HR1.out aE p413 q413
  have cI := bZ
  cases e413
  replace bZ := (HB.out.cell (World.block_lt_of_cell? w _ bZ)).trans bZ
  replace p413 := eq_true p413
  replace q413 := eq_true q413
  refine start_ (n := 11) (S := fun w' => w'.cell? ⟨gb406, 0, none⟩ = some (.slice aG aD.length aH) ∧ w'.cell? ⟨gb406, 1, none⟩ = some (.slice aK aA.length aI) ∧ w'.cell? ⟨gb406, 2, none⟩ = some (.slice (some ad410) aC.length aJ) ∧ w'.cell? (ad410.add (aE).toNat) = some (.slice dY (rd_L1 aC aE).length dZ) ∧ w'.cell? (ad413.add (aE).toNat) = some (.int .i64 (rd l1 aE))) (ds := []) #[false, false, false, false, false, false, false, false, false, false, false] (by kernel_rfl) rfl rfl ⟨(blk_cell BK406.out 0).trans rfl, (blk_cell BK406.out 1).trans rfl, (blk_cell BK406.out 2).trans rfl, ((HB.out.cell (World.block_lt_of_cell? w _ cH)).trans cH), ((HB.out.cell (World.block_lt_of_cell? w _ cI)).trans cI)⟩ (fun hHeld => ?_); refine with_tabW laganref04_meets.tab10 laganref04_meets.bits10 (fun HT_ HW_ => ?_)
  generalize wr.drew = w32 at HO_5 BK406 HB eD bY bZ hHeld ⊢
  refine pure_ (i := 0) (N := some 35) (v := ?_) (a' := ?_) #[true, false, false, false, false, false, false, false, false, false, false] rfl rfl (any_of HT_.out (by kernel_rfl)) (fun _ _ _ h => h) (Or.inl ⟨by rfl, ?_⟩) ?_ ?_
  rotate_left
  ·
   intro w'
   go_simp
   with_reducible rfl
  rotate_left
  ·
   simp only [Act.put, List.setIfInBounds_toArray, List.set_cons_zero, List.set_cons_succ, i64_w, i32_w]
   rfl
  refine pure_ (i := 2) (N := some 37) (v := ?_) (a' := ?_) #[true, false, true, false, false, false, false, false, false, false, false] rfl rfl (any_of HT_.out (by kernel_rfl)) (fun _ _ _ h => h) (Or.inl ⟨by rfl, ?_⟩) ?_ ?_
  rotate_left
  ·
   intro w'
   go_simp
   with_reducible rfl
  rotate_left
  ·
   simp only [Act.put, List.setIfInBounds_toArray, List.set_cons_zero, List.set_cons_succ, i64_w, i32_w]
   rfl
  refine pure_ (i := 5) (N := some 40) (v := ?_) (a' := ?_) #[true, false, true, false, false, true, false, false, false, false, false] rfl rfl (any_of HT_.out (by kernel_rfl)) (fun _ _ _ h => h) (Or.inl ⟨by rfl, ?_⟩) ?_ ?_
  rotate_left
  ·
   intro w'
   go_simp
   with_reducible rfl
  rotate_left
  ·
   simp only [Act.put, List.setIfInBounds_toArray, List.set_cons_zero, List.set_cons_succ, i64_w, i32_w]
   rfl
  refine pure_ (i := 6) (N := some 41) (v := ?_) (a' := ?_) #[true, false, true, false, false, true, true, false, false, false, false] rfl rfl (any_of HT_.out (by kernel_rfl)) (fun _ _ _ h => h) (Or.inl ⟨by rfl, ?_⟩) ?_ ?_
  rotate_left
  ·
   intro w'
   go_simp
   with_reducible rfl
  rotate_left
  ·
   simp only [Act.put, List.setIfInBounds_toArray, List.set_cons_zero, List.set_cons_succ, i64_w, i32_w]
   rfl
  refine pure_ (i := 7) (N := some 42) (v := ?_) (a' := ?_) #[true, false, true, false, false, true, true, true, false, false, false] rfl rfl (any_of HT_.out (by kernel_rfl)) (fun _ _ _ h => h) (Or.inl ⟨by rfl, ?_⟩) ?_ ?_
  rotate_left
  ·
   intro w'
   go_simp
   with_reducible rfl
  rotate_left
  ·
   simp only [Act.put, List.setIfInBounds_toArray, List.set_cons_zero, List.set_cons_succ, i64_w, i32_w]
   rfl
  refine take_ (i := 1) (N := some 36) (v := ?_) (a' := ?_) #[true, true, true, false, false, true, true, true, false, false, false] rfl rfl (take_ofW HT_.out HW_.out (by kernel_rfl)) (fun _ _ _ h => h) (Or.inl ⟨by rfl, ?_⟩) hHeld ?_ ?_
  rotate_left
  ·
   rintro w' ⟨s0, s1, s2, s3, s4⟩
   go_simp
   with_reducible rfl
  rotate_left
  ·
   simp only [Act.put, List.setIfInBounds_toArray, List.set_cons_zero, List.set_cons_succ, i64_w, i32_w]
   rfl
  refine pure_ (i := 3) (N := some 38) (v := ?_) (a' := ?_) #[true, true, true, true, false, true, true, true, false, false, false] rfl rfl (any_of HT_.out (by kernel_rfl)) (fun _ _ _ h => h) (Or.inl ⟨by rfl, ?_⟩) ?_ ?_
  rotate_left
  ·
   intro w'
   go_simp
   with_reducible rfl
  rotate_left
  ·
   simp only [Act.put, List.setIfInBounds_toArray, List.set_cons_zero, List.set_cons_succ, i64_w, i32_w]
   rfl
  refine take_ (i := 4) (N := some 39) (v := ?_) (a' := ?_) #[true, true, true, true, true, true, true, true, false, false, false] rfl rfl (take_ofW HT_.out HW_.out (by kernel_rfl)) (fun _ _ _ h => h) (Or.inl ⟨by rfl, ?_⟩) hHeld ?_ ?_
  rotate_left
  ·
   rintro w' ⟨s0, s1, s2, s3, s4⟩
   go_simp
   with_reducible rfl
  rotate_left
  ·
   simp only [Act.put, List.setIfInBounds_toArray, List.set_cons_zero, List.set_cons_succ, i64_w, i32_w]
   rfl
  refine take_ (i := 8) (N := some 43) (v := ?_) (a' := ?_) #[true, true, true, true, true, true, true, true, true, false, false] rfl rfl (take_ofW HT_.out HW_.out (by kernel_rfl)) (fun _ _ _ h => h) (Or.inl ⟨by rfl, ?_⟩) hHeld ?_ ?_
  rotate_left
  ·
   rintro w' ⟨s0, s1, s2, s3, s4⟩
   go_simp
   with_reducible rfl
  rotate_left
  ·
   simp only [Act.put, List.setIfInBounds_toArray, List.set_cons_zero, List.set_cons_succ, i64_w, i32_w]
   rfl
  refine one_ (i := 9) (N := some 44) #[true, true, true, true, true, true, true, true, true, true, false] rfl rfl (one_of HT_.out (by kernel_rfl)) (by decide) (fun K hK => ?_)
  refine goes_ Try.func33 (by kernel_rfl) rfl #[.slice dY (rd_L1 aC aE).length dZ, .int .i64 (rd l1 aE)] (by rfl) rfl rfl (by (try simp only [List.map_toArray, List.map_cons, List.map_nil]); first | done | rfl | (simp only [List.length_drop, List.length_take]; rfl)) ?_
  with_reducible refine (laganref04_Has.calls k1 _ _ (rd_L1 aC aE) (rd l1 aE) true _ ?side1 ?side2 A17.out).mono ?_
  (case side1 => repeat (first | exact (Kd.C_below eD.out HB.out) | (with_reducible refine Kd.C_alloc ?_ _) | (with_reducible refine Kd.C_drewN ?_ _) | (with_reducible refine Kd.C_drew ?_)))
  (case side2 => exact gG.out)
  rintro e w' ⟨rfl, ⟨nd, rfl⟩⟩
  refine ⟨_, rfl, ?_⟩
  refine hK.out _ _ ⟨(blk_cell BK406.out 0).trans rfl, (blk_cell BK406.out 1).trans rfl, (blk_cell BK406.out 2).trans rfl, ((HB.out.cell (World.block_lt_of_cell? w _ cH)).trans cH), ((HB.out.cell (World.block_lt_of_cell? w _ cI)).trans cI)⟩ (fun hHeld => ?_)
  clear hK K
  refine norm_ (a' := ?_) ?_ ?_
  rotate_left
  ·
   show Act.put _ (some 44) _ = _
   simp only [Act.put, List.setIfInBounds_toArray, List.set_cons_zero, List.set_cons_succ, i64_w, i32_w]
   rfl
  refine pure_ (i := 10) (N := some 45) (v := ?_) (a' := ?_) #[true, true, true, true, true, true, true, true, true, true, true] rfl rfl (any_of HT_.out (by kernel_rfl)) (fun _ _ _ h => h) (Or.inl ⟨by rfl, ?_⟩) ?_ ?_
  rotate_left
  ·
   intro w'
   go_simp
   with_reducible rfl
  rotate_left
  ·
   simp only [Act.put, List.setIfInBounds_toArray, List.set_cons_zero, List.set_cons_succ, i64_w, i32_w]
   rfl
  refine done_ (done_of HT_.out (by kernel_rfl)) ?_
  try go_wp2
  (try (rw [drewN_self w32]; generalize hq_ : World.drewN w32 _ = w32; have n0_ : Aside0 (Kd.R (Kd.int .i64) 3 w32 w.heap.size (fun _ => True) v408 aN) := ⟨by rw [← hq_]; exact (by (with_reducible repeat (first | apply Kd.R_alloc | apply Kd.R_drewN | apply Kd.R_drew)); exact HO_5.out)⟩; have n1_ : Aside0 (w32.heap[gb406]? = some (.cells #[.slice aG aD.length aH, .slice aK aA.length aI, .slice (some ad410) aC.length aJ] 26 (0, 0))) := ⟨by rw [← hq_]; exact (by (with_reducible repeat (first | refine blk_drewN ?_ _ | refine blk_drew ?_ | refine blk_alloc ?_ _)); exact BK406.out)⟩; have n2_ : Aside0 (Below w.heap.size w w32) := ⟨by rw [← hq_]; exact (by repeat (first | (with_reducible first | exact HB.out | apply below_alloc | apply pw_below_drewN | apply below_drew1 | refine below_set ?_ GE406.out) | exact HB.out))⟩; clear HO_5 BK406 HB hq_; have HO_5 := n0_; have BK406 := n1_; have HB := n2_; clear n0_ n1_ n2_))
  have n0_ := Aside0.mk (Kd.R_drew HO_5.out)
  have n1_ := Aside0.mk (blk_drew BK406.out)
  have n2_ := Aside0.mk (below_drew1 HB.out)
  clear HO_5
  clear BK406
  clear HB
  have HO_5 := n0_
  have BK406 := n1_
  have HB := n2_
  clear n0_ n1_ n2_
  have p415 : 0 ≤ (aE : Int) := of_decide_eq_true (by assumption)
  have q415 : aE < (l1.length : Int) := of_decide_eq_true (by assumption)
  obtain ⟨ad415, e415, cV⟩ := Kd.at_int HR1.out aE p415 q415
  have gH := cV
  obtain rfl : ad413 = ad415 := (by injection e415)
  replace cV := (HB.out.cell (World.block_lt_of_cell? w _ cV)).trans cV
  replace p415 := eq_true p415
  replace q415 := eq_true q415
  have p416 : 0 ≤ (aE : Int) := of_decide_eq_true (by assumption)
  have q416 : aE < (l1.length : Int) := of_decide_eq_true (by assumption)
  obtain ⟨ad416, e416, cW⟩ := Kd.at_int HR1.out aE p416 q416
  have gI := cW
  obtain rfl : ad413 = ad416 := (by injection e416)
  replace cW := (HB.out.cell (World.block_lt_of_cell? w _ cW)).trans cW
  replace p416 := eq_true p416
  replace q416 := eq_true q416
  obtain ⟨Ao34, co34, eo34⟩ := Kd.R_slice HO_5.out
  (first | subst eo34 | (injection eo34 with f1_ f2_ f3_; have f4_ := f1_.symm; have f5_ := f3_.symm; clear f1_ f2_ f3_; subst f4_; subst f5_))
  have p417 : 0 ≤ ((rd l1 aE) : Int) := of_decide_eq_true (by assumption)
  have q417 : (rd l1 aE) < (aN.length : Int) := of_decide_eq_true (by assumption)
  obtain ⟨ad417, e417, eS⟩ := Kd.at_int (Kd.R_reads' HO_5.out).2.2 (rd l1 aE) p417 q417
  cases e417
  replace p417 := eq_true p417
  replace q417 := eq_true q417
  have p21 : 0 ≤ ((rd l1 aE) : Int) := of_decide_eq_true (by assumption)
  have q21 : ((rd l1 aE) : Int) < ((aN.length : Int) : Int) := of_decide_eq_true (by assumption)
  obtain ⟨go21, co21, eo21, gb21, gl21, cl21, HG21⟩ := Kd.R_form HO_5.out (by omega)
  (first | cases eo21 | (injection eo21 with ea_ en_ ec_; (first | subst ea_ | (injection ea_ with ea_; subst ea_)); subst ec_; clear en_))
  have GB21 := Aside0.mk gb21
  have GG21 := Aside0.mk HG21
  clear gb21 gl21 HG21
  (first | simp only [add_plain] at eS | skip)
  obtain ⟨kY, kZ⟩ := Kd.R_celln 0 HO_5.out ((rd l1 aE) : Int) p21 q21
  replace p21 := eq_true p21
  replace q21 := eq_true q21
  have HP35 := Kd.R_putn HO_5.out ((rd l1 aE) : Int) (wrap64 ((rd aN (rd l1 aE)) + 1))
  rw [← Ny418.out] at HP35
  have HQ35 := Aside0.mk HP35
  clear HP35
  refine start_ (n := 15) (S := fun w' => w'.cell? (ad413.add (aE).toNat) = some (.int .i64 (rd l1 aE)) ∧ w'.cell? (ad413.add (aE).toNat) = some (.int .i64 (rd l1 aE)) ∧ w'.cell? ⟨go21, ((rd l1 aE)).toNat, none⟩ = some (.int .i64 (rd aN (rd l1 aE)))) (ds := [14]) #[false, false, false, false, false, false, false, false, false, false, false, false, false, false, false] (by kernel_rfl) rfl rfl ⟨((HB.out.cell (World.block_lt_of_cell? w _ gH)).trans gH), ((HB.out.cell (World.block_lt_of_cell? w _ gI)).trans gI), eS⟩ (fun hHeld => ?_); refine with_tabW laganref04_meets.tab12 laganref04_meets.bits12 (fun HT_ HW_ => ?_)
  generalize w32.drew = w33 at HO_5 BK406 HB GG21 HQ35 kZ kY cV cW eS hHeld ⊢
  refine pure_ (i := 0) (N := some 46) (v := ?_) (a' := ?_) #[true, false, false, false, false, false, false, false, false, false, false, false, false, false, false] rfl rfl (any_of HT_.out (by kernel_rfl)) (fun _ _ _ h => h) (Or.inl ⟨by rfl, ?_⟩) ?_ ?_
  rotate_left
  ·
   intro w'
   go_simp
   with_reducible rfl
  rotate_left
  ·
   simp only [Act.put, List.setIfInBounds_toArray, List.set_cons_zero, List.set_cons_succ, i64_w, i32_w]
   rfl
  refine pure_ (i := 1) (N := some 47) (v := ?_) (a' := ?_) #[true, true, false, false, false, false, false, false, false, false, false, false, false, false, false] rfl rfl (any_of HT_.out (by kernel_rfl)) (fun _ _ _ h => h) (Or.inl ⟨by rfl, ?_⟩) ?_ ?_
  rotate_left
  ·
   intro w'
   go_simp
   with_reducible rfl
  rotate_left
  ·
   simp only [Act.put, List.setIfInBounds_toArray, List.set_cons_zero, List.set_cons_succ, i64_w, i32_w]
   rfl
  refine pure_ (i := 2) (N := some 48) (v := ?_) (a' := ?_) #[true, true, true, false, false, false, false, false, false, false, false, false, false, false, false] rfl rfl (any_of HT_.out (by kernel_rfl)) (fun _ _ _ h => h) (Or.inl ⟨by rfl, ?_⟩) ?_ ?_
  rotate_left
  ·
   intro w'
   go_simp
   with_reducible rfl
  rotate_left
  ·
   simp only [Act.put, List.setIfInBounds_toArray, List.set_cons_zero, List.set_cons_succ, i64_w, i32_w]
   rfl
  refine pure_ (i := 3) (N := some 49) (v := ?_) (a' := ?_) #[true, true, true, true, false, false, false, false, false, false, false, false, false, false, false] rfl rfl (any_of HT_.out (by kernel_rfl)) (fun _ _ _ h => h) (Or.inl ⟨by rfl, ?_⟩) ?_ ?_
  rotate_left
  ·
   intro w'
   go_simp
   with_reducible rfl
  rotate_left
  ·
   simp only [Act.put, List.setIfInBounds_toArray, List.set_cons_zero, List.set_cons_succ, i64_w, i32_w]
   rfl
  refine pure_ (i := 5) (N := some 51) (v := ?_) (a' := ?_) #[true, true, true, true, false, true, false, false, false, false, false, false, false, false, false] rfl rfl (any_of HT_.out (by kernel_rfl)) (fun _ _ _ h => h) (Or.inl ⟨by rfl, ?_⟩) ?_ ?_
  rotate_left
  ·
   intro w'
   go_simp
   with_reducible rfl
  rotate_left
  ·
   simp only [Act.put, List.setIfInBounds_toArray, List.set_cons_zero, List.set_cons_succ, i64_w, i32_w]
   rfl
  refine pure_ (i := 6) (N := some 52) (v := ?_) (a' := ?_) #[true, true, true, true, false, true, true, false, false, false, false, false, false, false, false] rfl rfl (any_of HT_.out (by kernel_rfl)) (fun _ _ _ h => h) (Or.inl ⟨by rfl, ?_⟩) ?_ ?_
  rotate_left
  ·
   intro w'
   go_simp
   with_reducible rfl
  rotate_left
  ·
   simp only [Act.put, List.setIfInBounds_toArray, List.set_cons_zero, List.set_cons_succ, i64_w, i32_w]
   rfl
  refine pure_ (i := 7) (N := some 53) (v := ?_) (a' := ?_) #[true, true, true, true, false, true, true, true, false, false, false, false, false, false, false] rfl rfl (any_of HT_.out (by kernel_rfl)) (fun _ _ _ h => h) (Or.inl ⟨by rfl, ?_⟩) ?_ ?_
  rotate_left
  ·
   intro w'
   go_simp
   with_reducible rfl
  rotate_left
  ·
   simp only [Act.put, List.setIfInBounds_toArray, List.set_cons_zero, List.set_cons_succ, i64_w, i32_w]
   rfl
  refine pure_ (i := 8) (N := some 54) (v := ?_) (a' := ?_) #[true, true, true, true, false, true, true, true, true, false, false, false, false, false, false] rfl rfl (any_of HT_.out (by kernel_rfl)) (fun _ _ _ h => h) (Or.inl ⟨by rfl, ?_⟩) ?_ ?_
  rotate_left
  ·
   intro w'
   go_simp
   with_reducible rfl
  rotate_left
  ·
   simp only [Act.put, List.setIfInBounds_toArray, List.set_cons_zero, List.set_cons_succ, i64_w, i32_w]
   rfl
  refine take_ (i := 4) (N := some 50) (v := ?_) (a' := ?_) #[true, true, true, true, true, true, true, true, true, false, false, false, false, false, false] rfl rfl (take_ofW HT_.out HW_.out (by kernel_rfl)) (fun _ _ _ h => h) (Or.inl ⟨by rfl, ?_⟩) hHeld ?_ ?_
  rotate_left
  ·
   rintro w' ⟨s0, s1, s2⟩
   go_simp
   with_reducible rfl
  rotate_left
  ·
   simp only [Act.put, List.setIfInBounds_toArray, List.set_cons_zero, List.set_cons_succ, i64_w, i32_w]
   rfl
  refine take_ (i := 9) (N := some 55) (v := ?_) (a' := ?_) #[true, true, true, true, true, true, true, true, true, true, false, false, false, false, false] rfl rfl (take_ofW HT_.out HW_.out (by kernel_rfl)) (fun _ _ _ h => h) (Or.inl ⟨by rfl, ?_⟩) hHeld ?_ ?_
  rotate_left
  ·
   rintro w' ⟨s0, s1, s2⟩
   go_simp
   with_reducible rfl
  rotate_left
  ·
   simp only [Act.put, List.setIfInBounds_toArray, List.set_cons_zero, List.set_cons_succ, i64_w, i32_w]
   rfl
  refine pure_ (i := 10) (N := some 56) (v := ?_) (a' := ?_) #[true, true, true, true, true, true, true, true, true, true, true, false, false, false, false] rfl rfl (any_of HT_.out (by kernel_rfl)) (fun _ _ _ h => h) (Or.inl ⟨by rfl, ?_⟩) ?_ ?_
  rotate_left
  ·
   intro w'
   go_simp
   with_reducible rfl
  rotate_left
  ·
   simp only [Act.put, List.setIfInBounds_toArray, List.set_cons_zero, List.set_cons_succ, i64_w, i32_w]
   rfl
  refine take_ (i := 11) (N := some 57) (v := ?_) (a' := ?_) #[true, true, true, true, true, true, true, true, true, true, true, true, false, false, false] rfl rfl (take_ofW HT_.out HW_.out (by kernel_rfl)) (fun _ _ _ h => h) (Or.inl ⟨by rfl, ?_⟩) hHeld ?_ ?_
  rotate_left
  ·
   rintro w' ⟨s0, s1, s2⟩
   go_simp
   with_reducible rfl
  rotate_left
  ·
   simp only [Act.put, List.setIfInBounds_toArray, List.set_cons_zero, List.set_cons_succ, i64_w, i32_w]
   rfl
  refine pure_ (i := 12) (N := some 58) (v := ?_) (a' := ?_) #[true, true, true, true, true, true, true, true, true, true, true, true, true, false, false] rfl rfl (any_of HT_.out (by kernel_rfl)) (fun _ _ _ h => h) (Or.inl ⟨by rfl, ?_⟩) ?_ ?_
  rotate_left
  ·
   intro w'
   go_simp
   with_reducible rfl
  rotate_left
  ·
   simp only [Act.put, List.setIfInBounds_toArray, List.set_cons_zero, List.set_cons_succ, i64_w, i32_w]
   rfl
  refine pure_ (i := 13) (N := some 59) (v := ?_) (a' := ?_) #[true, true, true, true, true, true, true, true, true, true, true, true, true, true, false] rfl rfl (any_of HT_.out (by kernel_rfl)) (fun _ _ _ h => h) (Or.inl ⟨by rfl, ?_⟩) ?_ ?_
  rotate_left
  ·
   intro w'
   go_simp
   with_reducible rfl
  rotate_left
  ·
   simp only [Act.put, List.setIfInBounds_toArray, List.set_cons_zero, List.set_cons_succ, i64_w, i32_w]
   rfl
  refine last_ (i := 14) (N := none) #[true, true, true, true, true, true, true, true, true, true, true, true, true, true, true] rfl rfl (one_of HT_.out (by kernel_rfl)) (by decide) (fun K hK => ?_)
  refine skip_ (w1 := ?_) (by rfl) rfl ?_ ?_
  rotate_left
  ·
   go_simp
   rfl
  refine hK.out _ _ ?_
  clear hK K
  refine done_ (done_of HT_.out (by kernel_rfl)) ?_
  try go_wp2
  have n0_ : Aside0 (Kd.R (Kd.int .i64) 3 (w33.setCell ⟨go21, ((rd l1 aE) : Int).toNat, none⟩ (.int .i64 (wrap64 ((rd aN (rd l1 aE)) + 1)))) w.heap.size (fun _ => True) (.slice (some ⟨go21, 0, none⟩) aN.length co34) y418) := ⟨by (with_reducible repeat (first | apply Kd.R_alloc | apply Kd.R_drewN | apply Kd.R_drew)); exact HQ35.out⟩
  have n1_ : Aside0 ((w33.setCell ⟨go21, ((rd l1 aE) : Int).toNat, none⟩ (.int .i64 (wrap64 ((rd aN (rd l1 aE)) + 1)))).heap[gb406]? = some (.cells #[.slice aG aD.length aH, .slice aK aA.length aI, .slice (some ad410) aC.length aJ] 26 (0, 0))) := ⟨by (with_reducible repeat (first | refine blk_drewN ?_ _ | refine blk_drew ?_ | refine blk_alloc ?_ _)); refine blk_far ?_ (by have h_ := Kd.R_ne HO_5.out BK406.out (by decide); intro e_; exact h_ (by rw [e_]; rfl)) _; (with_reducible repeat (first | refine blk_drewN ?_ _ | refine blk_drew ?_ | refine blk_alloc ?_ _)); exact BK406.out⟩
  have n2_ : Aside0 (Below w.heap.size w (w33.setCell ⟨go21, ((rd l1 aE) : Int).toNat, none⟩ (.int .i64 (wrap64 ((rd aN (rd l1 aE)) + 1))))) := ⟨by repeat (first | (with_reducible first | exact HB.out | apply below_alloc | apply pw_below_drewN | apply below_drew1 | refine below_set ?_ GB21.out | refine below_set ?_ GE406.out) | exact HB.out)⟩
  (try clear HO_5)
  (try clear BK406)
  (try clear HB)
  generalize (w33.setCell ⟨go21, ((rd l1 aE) : Int).toNat, none⟩ (.int .i64 (wrap64 ((rd aN (rd l1 aE)) + 1)))) = w36 at n0_ n1_ n2_ ⊢
  have HO_5 := n0_
  have BK406 := n1_
  have HB := n2_
  clear n0_ n1_ n2_
  have n0_ := Aside0.mk (Kd.R_drew HO_5.out)
  have n1_ := Aside0.mk (blk_drew BK406.out)
  have n2_ := Aside0.mk (below_drew1 HB.out)
  clear HO_5
  clear BK406
  clear HB
  have HO_5 := n0_
  have BK406 := n1_
  have HB := n2_
  clear n0_ n1_ n2_
  have p419 : 0 ≤ (aE : Int) := of_decide_eq_true (by assumption)
  have q419 : aE < (l1.length : Int) := of_decide_eq_true (by assumption)
  obtain ⟨ad419, e419, cX⟩ := Kd.at_int HR1.out aE p419 q419
  have gJ := cX
  obtain rfl : ad413 = ad419 := (by injection e419)
  replace cX := (HB.out.cell (World.block_lt_of_cell? w _ cX)).trans cX
  replace p419 := eq_true p419
  replace q419 := eq_true q419
  have p420 : 0 ≤ ((rd l1 aE) : Int) := of_decide_eq_true (by assumption)
  have q420 : (rd l1 aE) < (y418.length : Int) := (by have h_ : ((rd l1 aE) : Int) < ((aN.length : Int) : Int) := of_decide_eq_true (by assumption); first | (have e_ := (Kd.R_reads' HO_5.out).1; omega) | simpa only [Ny418.out, List.length_set] using h_)
  have ql420 : (((rd l1 aE) : Int) < ((aN.length : Int) : Int)) = True := eq_true (of_decide_eq_true (by assumption))
  obtain ⟨ad420, e420, cY⟩ := Kd.at_int (Kd.R_reads' HO_5.out).2.2 (rd l1 aE) p420 q420
  obtain rfl : (⟨go21, 0, none⟩ : Addr) = ad420 := (by injection e420)
  (first | simp only [add_plain] at cY | simp only [add_at] at cY | simp only [Addr.add, Nat.zero_add] at cY | skip)
  replace p420 := eq_true p420
  replace q420 := eq_true q420
  have p421 : 0 ≤ (aE : Int) := of_decide_eq_true (by assumption)
  have q421 : aE < (l1.length : Int) := of_decide_eq_true (by assumption)
  obtain ⟨ad421, e421, cZ⟩ := Kd.at_int HR1.out aE p421 q421
  have gK := cZ
  obtain rfl : ad413 = ad421 := (by injection e421)
  replace cZ := (HB.out.cell (World.block_lt_of_cell? w _ cZ)).trans cZ
  replace p421 := eq_true p421
  replace q421 := eq_true q421
  have p422 : 0 ≤ ((rd l1 aE) : Int) := of_decide_eq_true (by assumption)
  have q422 : (rd l1 aE) < (aA.length : Int) := of_decide_eq_true (by assumption)
  obtain ⟨ad422, e422, dA, dB, dC⟩ := at_T50 aZ.out (rd l1 aE) p422 q422
  have gL := dC
  have gM := dB
  have gN := dA
  cases e422
  replace dA := (HB.out.cell (World.block_lt_of_cell? w _ dA)).trans dA
  replace dB := (HB.out.cell (World.block_lt_of_cell? w _ dB)).trans dB
  replace dC := (HB.out.cell (World.block_lt_of_cell? w _ dC)).trans dC
  replace p422 := eq_true p422
  replace q422 := eq_true q422
  refine start_ (n := 17) (S := fun w' => w'.cell? ⟨gb406, 0, none⟩ = some (.slice aG aD.length aH) ∧ w'.cell? ⟨gb406, 1, none⟩ = some (.slice (some ad422) aA.length aI) ∧ w'.cell? ⟨gb406, 2, none⟩ = some (.slice (some ad410) aC.length aJ) ∧ w'.cell? (ad413.add (aE).toNat) = some (.int .i64 (rd l1 aE)) ∧ w'.cell? ⟨go21, ((rd l1 aE)).toNat, none⟩ = some (.int .i64 (rd y418 (rd l1 aE))) ∧ w'.cell? (ad413.add (aE).toNat) = some (.int .i64 (rd l1 aE)) ∧ w'.cell? (ad422.add (((rd l1 aE)).toNat * 3)) = some (.int .i64 ((rd_T50 aA (rd l1 aE)).f0)) ∧ w'.cell? ⟨(ad422.add (((rd l1 aE)).toNat * 3)).block, (ad422.add (((rd l1 aE)).toNat * 3)).off + 1, none⟩ = some (.int .i64 ((rd_T50 aA (rd l1 aE)).f1)) ∧ w'.cell? ⟨(ad422.add (((rd l1 aE)).toNat * 3)).block, (ad422.add (((rd l1 aE)).toNat * 3)).off + 2, none⟩ = some (.int .i64 ((rd_T50 aA (rd l1 aE)).f2))) (ds := []) #[false, false, false, false, false, false, false, false, false, false, false, false, false, false, false, false, false] (by kernel_rfl) rfl rfl ⟨(blk_cell BK406.out 0).trans rfl, (blk_cell BK406.out 1).trans rfl, (blk_cell BK406.out 2).trans rfl, ((HB.out.cell (World.block_lt_of_cell? w _ gJ)).trans gJ), cY, ((HB.out.cell (World.block_lt_of_cell? w _ gK)).trans gK), ((HB.out.cell (World.block_lt_of_cell? w _ gN)).trans gN), ((HB.out.cell (World.block_lt_of_cell? w _ gM)).trans gM), ((HB.out.cell (World.block_lt_of_cell? w _ gL)).trans gL)⟩ (fun hHeld => ?_); refine with_tabW laganref04_meets.tab13 laganref04_meets.bits13 (fun HT_ HW_ => ?_)
  generalize w36.drew = w37 at HO_5 BK406 HB HQ35 cX cY cZ dA dB dC hHeld ⊢
  refine pure_ (i := 0) (N := some 60) (v := ?_) (a' := ?_) #[true, false, false, false, false, false, false, false, false, false, false, false, false, false, false, false, false] rfl rfl (any_of HT_.out (by kernel_rfl)) (fun _ _ _ h => h) (Or.inl ⟨by rfl, ?_⟩) ?_ ?_
  rotate_left
  ·
   intro w'
   go_simp
   with_reducible rfl
  rotate_left
  ·
   simp only [Act.put, List.setIfInBounds_toArray, List.set_cons_zero, List.set_cons_succ, i64_w, i32_w]
   rfl
  refine pure_ (i := 1) (N := some 61) (v := ?_) (a' := ?_) #[true, true, false, false, false, false, false, false, false, false, false, false, false, false, false, false, false] rfl rfl (any_of HT_.out (by kernel_rfl)) (fun _ _ _ h => h) (Or.inl ⟨by rfl, ?_⟩) ?_ ?_
  rotate_left
  ·
   intro w'
   go_simp
   with_reducible rfl
  rotate_left
  ·
   simp only [Act.put, List.setIfInBounds_toArray, List.set_cons_zero, List.set_cons_succ, i64_w, i32_w]
   rfl
  refine pure_ (i := 2) (N := some 62) (v := ?_) (a' := ?_) #[true, true, true, false, false, false, false, false, false, false, false, false, false, false, false, false, false] rfl rfl (any_of HT_.out (by kernel_rfl)) (fun _ _ _ h => h) (Or.inl ⟨by rfl, ?_⟩) ?_ ?_
  rotate_left
  ·
   intro w'
   go_simp
   with_reducible rfl
  rotate_left
  ·
   simp only [Act.put, List.setIfInBounds_toArray, List.set_cons_zero, List.set_cons_succ, i64_w, i32_w]
   rfl
  refine pure_ (i := 3) (N := some 63) (v := ?_) (a' := ?_) #[true, true, true, true, false, false, false, false, false, false, false, false, false, false, false, false, false] rfl rfl (any_of HT_.out (by kernel_rfl)) (fun _ _ _ h => h) (Or.inl ⟨by rfl, ?_⟩) ?_ ?_
  rotate_left
  ·
   intro w'
   go_simp
   with_reducible rfl
  rotate_left
  ·
   simp only [Act.put, List.setIfInBounds_toArray, List.set_cons_zero, List.set_cons_succ, i64_w, i32_w]
   rfl
  refine pure_ (i := 7) (N := some 67) (v := ?_) (a' := ?_) #[true, true, true, true, false, false, false, true, false, false, false, false, false, false, false, false, false] rfl rfl (any_of HT_.out (by kernel_rfl)) (fun _ _ _ h => h) (Or.inl ⟨by rfl, ?_⟩) ?_ ?_
  rotate_left
  ·
   intro w'
   go_simp
   with_reducible rfl
  rotate_left
  ·
   simp only [Act.put, List.setIfInBounds_toArray, List.set_cons_zero, List.set_cons_succ, i64_w, i32_w]
   rfl
  refine pure_ (i := 9) (N := some 69) (v := ?_) (a' := ?_) #[true, true, true, true, false, false, false, true, false, true, false, false, false, false, false, false, false] rfl rfl (any_of HT_.out (by kernel_rfl)) (fun _ _ _ h => h) (Or.inl ⟨by rfl, ?_⟩) ?_ ?_
  rotate_left
  ·
   intro w'
   go_simp
   with_reducible rfl
  rotate_left
  ·
   simp only [Act.put, List.setIfInBounds_toArray, List.set_cons_zero, List.set_cons_succ, i64_w, i32_w]
   rfl
  refine pure_ (i := 10) (N := some 70) (v := ?_) (a' := ?_) #[true, true, true, true, false, false, false, true, false, true, true, false, false, false, false, false, false] rfl rfl (any_of HT_.out (by kernel_rfl)) (fun _ _ _ h => h) (Or.inl ⟨by rfl, ?_⟩) ?_ ?_
  rotate_left
  ·
   intro w'
   go_simp
   with_reducible rfl
  rotate_left
  ·
   simp only [Act.put, List.setIfInBounds_toArray, List.set_cons_zero, List.set_cons_succ, i64_w, i32_w]
   rfl
  refine pure_ (i := 11) (N := some 71) (v := ?_) (a' := ?_) #[true, true, true, true, false, false, false, true, false, true, true, true, false, false, false, false, false] rfl rfl (any_of HT_.out (by kernel_rfl)) (fun _ _ _ h => h) (Or.inl ⟨by rfl, ?_⟩) ?_ ?_
  rotate_left
  ·
   intro w'
   go_simp
   with_reducible rfl
  rotate_left
  ·
   simp only [Act.put, List.setIfInBounds_toArray, List.set_cons_zero, List.set_cons_succ, i64_w, i32_w]
   rfl
  refine take_ (i := 4) (N := some 64) (v := ?_) (a' := ?_) #[true, true, true, true, true, false, false, true, false, true, true, true, false, false, false, false, false] rfl rfl (take_ofW HT_.out HW_.out (by kernel_rfl)) (fun _ _ _ h => h) (Or.inl ⟨by rfl, ?_⟩) hHeld ?_ ?_
  rotate_left
  ·
   rintro w' ⟨s0, s1, s2, s3, s4, s5, s6, s7, s8⟩
   go_simp
   with_reducible rfl
  rotate_left
  ·
   simp only [Act.put, List.setIfInBounds_toArray, List.set_cons_zero, List.set_cons_succ, i64_w, i32_w]
   rfl
  refine pure_ (i := 5) (N := some 65) (v := ?_) (a' := ?_) #[true, true, true, true, true, true, false, true, false, true, true, true, false, false, false, false, false] rfl rfl (any_of HT_.out (by kernel_rfl)) (fun _ _ _ h => h) (Or.inl ⟨by rfl, ?_⟩) ?_ ?_
  rotate_left
  ·
   intro w'
   go_simp
   with_reducible rfl
  rotate_left
  ·
   simp only [Act.put, List.setIfInBounds_toArray, List.set_cons_zero, List.set_cons_succ, i64_w, i32_w]
   rfl
  refine take_ (i := 6) (N := some 66) (v := ?_) (a' := ?_) #[true, true, true, true, true, true, true, true, false, true, true, true, false, false, false, false, false] rfl rfl (take_ofW HT_.out HW_.out (by kernel_rfl)) (fun _ _ _ h => h) (Or.inl ⟨by rfl, ?_⟩) hHeld ?_ ?_
  rotate_left
  ·
   rintro w' ⟨s0, s1, s2, s3, s4, s5, s6, s7, s8⟩
   go_simp
   with_reducible rfl
  rotate_left
  ·
   simp only [Act.put, List.setIfInBounds_toArray, List.set_cons_zero, List.set_cons_succ, i64_w, i32_w]
   rfl
  refine take_ (i := 8) (N := some 68) (v := ?_) (a' := ?_) #[true, true, true, true, true, true, true, true, true, true, true, true, false, false, false, false, false] rfl rfl (take_ofW HT_.out HW_.out (by kernel_rfl)) (fun _ _ _ h => h) (Or.inl ⟨by rfl, ?_⟩) hHeld ?_ ?_
  rotate_left
  ·
   rintro w' ⟨s0, s1, s2, s3, s4, s5, s6, s7, s8⟩
   go_simp
   with_reducible rfl
  rotate_left
  ·
   simp only [Act.put, List.setIfInBounds_toArray, List.set_cons_zero, List.set_cons_succ, i64_w, i32_w]
   rfl
  refine take_ (i := 12) (N := some 72) (v := ?_) (a' := ?_) #[true, true, true, true, true, true, true, true, true, true, true, true, true, false, false, false, false] rfl rfl (take_ofW HT_.out HW_.out (by kernel_rfl)) (fun _ _ _ h => h) (Or.inl ⟨by rfl, ?_⟩) hHeld ?_ ?_
  rotate_left
  ·
   rintro w' ⟨s0, s1, s2, s3, s4, s5, s6, s7, s8⟩
   go_simp
   with_reducible rfl
  rotate_left
  ·
   simp only [Act.put, List.setIfInBounds_toArray, List.set_cons_zero, List.set_cons_succ, i64_w, i32_w]
   rfl
  refine pure_ (i := 13) (N := some 73) (v := ?_) (a' := ?_) #[true, true, true, true, true, true, true, true, true, true, true, true, true, true, false, false, false] rfl rfl (any_of HT_.out (by kernel_rfl)) (fun _ _ _ h => h) (Or.inl ⟨by rfl, ?_⟩) ?_ ?_
  rotate_left
  ·
   intro w'
   go_simp
   with_reducible rfl
  rotate_left
  ·
   simp only [Act.put, List.setIfInBounds_toArray, List.set_cons_zero, List.set_cons_succ, i64_w, i32_w]
   rfl
  refine pure_ (i := 14) (N := some 74) (v := ?_) (a' := ?_) #[true, true, true, true, true, true, true, true, true, true, true, true, true, true, true, false, false] rfl rfl (any_of HT_.out (by kernel_rfl)) (fun _ _ _ h => h) (Or.inl ⟨by rfl, ?_⟩) ?_ ?_
  rotate_left
  ·
   intro w'
   go_simp
   with_reducible rfl
  rotate_left
  ·
   simp only [Act.put, List.setIfInBounds_toArray, List.set_cons_zero, List.set_cons_succ, i64_w, i32_w]
   rfl
  refine take_ (i := 15) (N := some 75) (v := ?_) (a' := ?_) #[true, true, true, true, true, true, true, true, true, true, true, true, true, true, true, true, false] rfl rfl (take_ofW HT_.out HW_.out (by kernel_rfl)) (fun _ _ _ h => h) (Or.inl ⟨by rfl, ?_⟩) hHeld ?_ ?_
  rotate_left
  ·
   rintro w' ⟨s0, s1, s2, s3, s4, s5, s6, s7, s8⟩
   go_simp
   with_reducible rfl
  rotate_left
  ·
   simp only [Act.put, List.setIfInBounds_toArray, List.set_cons_zero, List.set_cons_succ, i64_w, i32_w]
   rfl
  refine pure_ (i := 16) (N := some 76) (v := ?_) (a' := ?_) #[true, true, true, true, true, true, true, true, true, true, true, true, true, true, true, true, true] rfl rfl (any_of HT_.out (by kernel_rfl)) (fun _ _ _ h => h) (Or.inl ⟨by rfl, ?_⟩) ?_ ?_
  rotate_left
  ·
   intro w'
   go_simp
   with_reducible rfl
  rotate_left
  ·
   simp only [Act.put, List.setIfInBounds_toArray, List.set_cons_zero, List.set_cons_succ, i64_w, i32_w]
   rfl
  refine done_ (done_of HT_.out (by kernel_rfl)) ?_
  try go_wp2
  go_roundg k1
  case measure => have := HK1.out; omega
  case rel => exact ⟨(y418), (wrap64 (aE + 1)), (by first | rfl | (simp; done) | (simp [*]; done)), H', ⟨by have := HK1.out; omega⟩, ⟨by (with_reducible repeat (first | apply Kd.R_alloc | apply Kd.R_drewN | apply Kd.R_drew)); exact HO_5.out⟩, ⟨by (with_reducible repeat (first | refine blk_drewN ?_ _ | refine blk_drew ?_ | refine blk_alloc ?_ _)); exact BK406.out⟩, ⟨by repeat (first | (with_reducible first | exact HB.out | apply below_alloc | apply pw_below_drewN | apply below_drew1 | refine below_set ?_ GE406.out) | exact HB.out)⟩⟩
def laganref04_Meets.f (k : Nat) (aD : List Int) (aA : List (S50)) (aC : List (List Int)) (l1 : List Int) : Option (Bool × Int) := (laganref04_CheckBoard.f k aD aA aC).bind fun t424 => (if t424 = 0 then ((laganref04_meets.f k aD aA aC l1).bind fun t425 => (some (t425, t424))) else (some (false, t424)))
set_option maxHeartbeats 8000000 in
set_option maxRecDepth 100000 in
theorem laganref04_Meets.calls (k : Nat) (aG : Option Addr) (aH : Nat) (aD : List Int) (aK : Option Addr) (aI : Nat) (aA : List (S50)) (aM : Option Addr) (aJ : Nat) (aC : List (List Int)) (A1 : Option Addr) (c1 : Nat) (l1 : List Int) (r1 : Bool) (r2 : Int) (w : World) (bC : Kd.C (Kd.int .i64) w aG aD.length aD) (bD : aD.length ≤ aH) (bE : Kd.C k50 w aK aA.length aA) (bF : aA.length ≤ aI) (bG : Kd.C (Kd.slice 3 (Kd.int .i64)) w aM aC.length aC) (bH : aC.length ≤ aJ) (hr1 : Kd.C (Kd.int .i64) w A1 l1.length l1) (hc1 : l1.length ≤ c1) (h : laganref04_Meets.f k aD aA aC l1 = some (r1, r2)) :
  Calls Try.prog 34 #[.agg #[.slice aG aD.length aH, .slice aK aA.length aI, .slice aM aC.length aJ], .slice A1 l1.length c1] w fun e w' => e = .returned (.tuple #[.bool r1, .int .i64 r2]) ∧ Below w.heap.size w w' := by
 have hu26 := Try.underlying26
 have bA := Aside0.mk bC
 have bK := Aside0.mk bD
 clear bC bD
 have aZ := Aside0.mk bE
 have bL := Aside0.mk bF
 clear bE bF
 have aX := Aside0.mk bG
 have bM := Aside0.mk bH
 clear bG bH
 have HR1 := Aside0.mk hr1
 have HC1 := Aside0.mk hc1
 clear hr1 hc1
 have HB := Aside0.mk (Below.refl w.heap.size w)
 have H : ((laganref04_CheckBoard.f k aD aA aC).bind fun t424 => (if t424 = 0 then ((laganref04_meets.f k aD aA aC l1).bind fun t425 => (some (t425, t424))) else (some (false, t424)))) = some (r1, r2) := h
 clear h
 replace H := Option.bind_eq_some_iff.mp H
 obtain ⟨t424, A30, H⟩ := H
 replace H : (if t424 = 0 then ((laganref04_meets.f k aD aA aC l1).bind fun t425 => (some (t425, t424))) else (some (false, t424))) = some (r1, r2) := H
 have A3 := Aside0.mk A30
 clear A30
 by_cases c4 : t424 = 0
 rotate_left
 ·
  rw [if_neg c4] at H
  have c4b0 : (t424 == 0) = false := beq_eq_false_iff_ne.mpr c4
  have c4b1 : (t424 != 0) = true := bne_iff_ne.mpr c4
  simp only [Option.some.injEq, Prod.mk.injEq] at H
  obtain ⟨rfl, rfl⟩ := H
  go_enter Try.func34, Try.ntmps34
  go_wp2_with (first | ((with_reducible refine gate_dst (N := 2) rfl ?_); refine box_event ?hg (N := 2) ?hd (cs := #[.slice aG aD.length aH, .slice aK aA.length aI, .slice aM aC.length aJ]) (t := 26) ?hr ?_; (case hd => rfl); (case hg => rfl); (case hr => first | (go_simp; done) | (go_simp; rfl)); intro gb423 hg w11 hbox hb; have n0_ := Aside0.mk (below_step (by repeat (first | (with_reducible first | exact HB.out | apply below_alloc | apply pw_below_drewN | apply below_drew1) | exact HB.out)) hb); have n1_ := Aside0.mk (hbox); have n2_ := Aside0.mk ((by rw [hg]; exact (below_size (by repeat (first | (with_reducible first | exact HB.out | apply below_alloc | apply pw_below_drewN | apply below_drew1) | exact HB.out))) : w.heap.size ≤ gb423)); have n3_ := Aside0.mk ((by rw [hg]; exact (below_size (by repeat (first | (with_reducible first | exact HB.out | apply below_alloc | apply pw_below_drewN | apply below_drew1) | exact HB.out))) : w.heap.size ≤ gb423)); clear HB; have HB := n0_; have BK423 := n1_; have GW423 := n2_; have GE423 := n3_; clear n0_ n1_ n2_ n3_; clear hb hbox hg; have kS : w11.cell? ⟨gb423, 0, none⟩ = some (.slice aG aD.length aH) := (blk_cell BK423.out 0).trans rfl; have kT : w11.cell? ⟨gb423, 1, none⟩ = some (.slice aK aA.length aI) := (blk_cell BK423.out 1).trans rfl; have kU : w11.cell? ⟨gb423, 2, none⟩ = some (.slice aM aC.length aJ) := (blk_cell BK423.out 2).trans rfl; have kV := blk_frozen BK423.out 0; have kW := blk_frozen BK423.out 1; have kX := blk_frozen BK423.out 2) | ((with_reducible refine gate_callee (f := 19) rfl ?_); refine goesL_ (some 8) rfl rfl Try.func19 (by kernel_rfl) rfl #[.agg #[.slice aG aD.length aH, .slice aK aA.length aI, .slice aM aC.length aJ]] rfl (by (try simp only [List.map_toArray, List.map_cons, List.map_nil]); first | done | rfl | (simp only [List.length_drop, List.length_take]; rfl)) ?_; (with_reducible refine (laganref04_CheckBoard.calls k _ _ aD _ _ aA _ _ aC t424 _ ?side1 ?side2 ?side3 ?side4 ?side5 ?side6 A3.out).mono ?_); (case side1 => repeat (first | exact (Kd.C_below bA.out HB.out) | (with_reducible refine Kd.C_alloc ?_ _) | (with_reducible refine Kd.C_drewN ?_ _) | (with_reducible refine Kd.C_drew ?_))); (case side2 => exact bK.out); (case side3 => repeat (first | exact (Kd.C_below aZ.out HB.out) | (with_reducible refine Kd.C_alloc ?_ _) | (with_reducible refine Kd.C_drewN ?_ _) | (with_reducible refine Kd.C_drew ?_))); (case side4 => exact bL.out); (case side5 => repeat (first | exact (Kd.C_below aX.out HB.out) | (with_reducible refine Kd.C_alloc ?_ _) | (with_reducible refine Kd.C_drewN ?_ _) | (with_reducible refine Kd.C_drew ?_))); (case side6 => exact bM.out); rintro e w13 ⟨rfl, hb⟩; refine ⟨_, rfl, ?_⟩; have n0_ := Aside0.mk (blk_below (g := gb423) (o := .cells #[.slice aG aD.length aH, .slice aK aA.length aI, .slice aM aC.length aJ] 26 (0, 0)) (by (with_reducible repeat (first | refine blk_drewN ?_ _ | refine blk_drew ?_ | refine blk_alloc ?_ _)); exact BK423.out) hb); have n1_ := Aside0.mk (below_step (by repeat (first | (with_reducible first | exact HB.out | apply below_alloc | apply pw_below_drewN | apply below_drew1 | refine below_set ?_ GE423.out) | exact HB.out)) hb); clear BK423; clear HB; have BK423 := n0_; have HB := n1_; clear n0_ n1_; (try clear hb); (try clear hb2); (try clear hk); (try clear hi)))
  go_ret2
  exact ⟨by first | rfl | (simp [errW_none, errW_some] <;> rfl) | (simp [*, errW_none, errW_some] <;> rfl), by repeat (first | (with_reducible first | exact HB.out | apply below_alloc | apply pw_below_drewN | apply below_drew1 | refine below_set ?_ GE423.out) | exact HB.out)⟩
 rw [if_pos c4] at H
 have c4b0 : (t424 == 0) = true := beq_iff_eq.mpr c4
 have c4b1 : (t424 != 0) = false := bne_eq_false_iff_eq.mpr c4
 clear c4
 replace H := Option.bind_eq_some_iff.mp H
 obtain ⟨t425, A50, H⟩ := H
 replace H : (some (t425, t424)) = some (r1, r2) := H
 have A5 := Aside0.mk A50
 clear A50
 simp only [Option.some.injEq, Prod.mk.injEq] at H
 obtain ⟨rfl, rfl⟩ := H
 go_enter Try.func34, Try.ntmps34
 go_wp2_with (first | ((with_reducible refine gate_dst (N := 2) rfl ?_); refine box_event ?hg (N := 2) ?hd (cs := #[.slice aG aD.length aH, .slice aK aA.length aI, .slice aM aC.length aJ]) (t := 26) ?hr ?_; (case hd => rfl); (case hg => rfl); (case hr => first | (go_simp; done) | (go_simp; rfl)); intro gb423 hg w6 hbox hb; have n0_ := Aside0.mk (below_step (by repeat (first | (with_reducible first | exact HB.out | apply below_alloc | apply pw_below_drewN | apply below_drew1) | exact HB.out)) hb); have n1_ := Aside0.mk (hbox); have n2_ := Aside0.mk ((by rw [hg]; exact (below_size (by repeat (first | (with_reducible first | exact HB.out | apply below_alloc | apply pw_below_drewN | apply below_drew1) | exact HB.out))) : w.heap.size ≤ gb423)); have n3_ := Aside0.mk ((by rw [hg]; exact (below_size (by repeat (first | (with_reducible first | exact HB.out | apply below_alloc | apply pw_below_drewN | apply below_drew1) | exact HB.out))) : w.heap.size ≤ gb423)); clear HB; have HB := n0_; have BK423 := n1_; have GW423 := n2_; have GE423 := n3_; clear n0_ n1_ n2_ n3_; clear hb hbox hg; have eL : w6.cell? ⟨gb423, 0, none⟩ = some (.slice aG aD.length aH) := (blk_cell BK423.out 0).trans rfl; have eM : w6.cell? ⟨gb423, 1, none⟩ = some (.slice aK aA.length aI) := (blk_cell BK423.out 1).trans rfl; have eN : w6.cell? ⟨gb423, 2, none⟩ = some (.slice aM aC.length aJ) := (blk_cell BK423.out 2).trans rfl; have eO := blk_frozen BK423.out 0; have eP := blk_frozen BK423.out 1; have eQ := blk_frozen BK423.out 2) | ((with_reducible refine gate_callee (f := 19) rfl ?_); refine goesL_ (some 8) rfl rfl Try.func19 (by kernel_rfl) rfl #[.agg #[.slice aG aD.length aH, .slice aK aA.length aI, .slice aM aC.length aJ]] rfl (by (try simp only [List.map_toArray, List.map_cons, List.map_nil]); first | done | rfl | (simp only [List.length_drop, List.length_take]; rfl)) ?_; (with_reducible refine (laganref04_CheckBoard.calls k _ _ aD _ _ aA _ _ aC t424 _ ?side1 ?side2 ?side3 ?side4 ?side5 ?side6 A3.out).mono ?_); (case side1 => repeat (first | exact (Kd.C_below bA.out HB.out) | (with_reducible refine Kd.C_alloc ?_ _) | (with_reducible refine Kd.C_drewN ?_ _) | (with_reducible refine Kd.C_drew ?_))); (case side2 => exact bK.out); (case side3 => repeat (first | exact (Kd.C_below aZ.out HB.out) | (with_reducible refine Kd.C_alloc ?_ _) | (with_reducible refine Kd.C_drewN ?_ _) | (with_reducible refine Kd.C_drew ?_))); (case side4 => exact bL.out); (case side5 => repeat (first | exact (Kd.C_below aX.out HB.out) | (with_reducible refine Kd.C_alloc ?_ _) | (with_reducible refine Kd.C_drewN ?_ _) | (with_reducible refine Kd.C_drew ?_))); (case side6 => exact bM.out); rintro e w8 ⟨rfl, hb⟩; refine ⟨_, rfl, ?_⟩; have n0_ := Aside0.mk (blk_below (g := gb423) (o := .cells #[.slice aG aD.length aH, .slice aK aA.length aI, .slice aM aC.length aJ] 26 (0, 0)) (by (with_reducible repeat (first | refine blk_drewN ?_ _ | refine blk_drew ?_ | refine blk_alloc ?_ _)); exact BK423.out) hb); have n1_ := Aside0.mk (below_step (by repeat (first | (with_reducible first | exact HB.out | apply below_alloc | apply pw_below_drewN | apply below_drew1 | refine below_set ?_ GE423.out) | exact HB.out)) hb); clear BK423; clear HB; have BK423 := n0_; have HB := n1_; clear n0_ n1_; (try clear hb); (try clear hb2); (try clear hk); (try clear hi); have jR : w8.cell? ⟨gb423, 0, none⟩ = some (.slice aG aD.length aH) := (blk_cell BK423.out 0).trans rfl; have jS : w8.cell? ⟨gb423, 1, none⟩ = some (.slice aK aA.length aI) := (blk_cell BK423.out 1).trans rfl; have jT : w8.cell? ⟨gb423, 2, none⟩ = some (.slice aM aC.length aJ) := (blk_cell BK423.out 2).trans rfl; have jU := blk_frozen BK423.out 0; have jV := blk_frozen BK423.out 1; have jW := blk_frozen BK423.out 2) | (go_at_call 71; (with_reducible refine (laganref04_meets.calls k _ _ aD _ _ aA _ _ aC _ _ l1 t425 _ ?side1 ?side2 ?side3 ?side4 ?side5 ?side6 ?side7 ?side8 A5.out).mono ?_); (case side1 => repeat (first | exact (Kd.C_below bA.out HB.out) | (with_reducible refine Kd.C_alloc ?_ _) | (with_reducible refine Kd.C_drewN ?_ _) | (with_reducible refine Kd.C_drew ?_))); (case side2 => exact bK.out); (case side3 => repeat (first | exact (Kd.C_below aZ.out HB.out) | (with_reducible refine Kd.C_alloc ?_ _) | (with_reducible refine Kd.C_drewN ?_ _) | (with_reducible refine Kd.C_drew ?_))); (case side4 => exact bL.out); (case side5 => repeat (first | exact (Kd.C_below aX.out HB.out) | (with_reducible refine Kd.C_alloc ?_ _) | (with_reducible refine Kd.C_drewN ?_ _) | (with_reducible refine Kd.C_drew ?_))); (case side6 => exact bM.out); (case side7 => repeat (first | exact (Kd.C_below HR1.out HB.out) | (with_reducible refine Kd.C_alloc ?_ _) | (with_reducible refine Kd.C_drewN ?_ _) | (with_reducible refine Kd.C_drew ?_))); (case side8 => exact HC1.out); rintro e w10 ⟨rfl, hb⟩; have n0_ := Aside0.mk (blk_below (g := gb423) (o := .cells #[.slice aG aD.length aH, .slice aK aA.length aI, .slice aM aC.length aJ] 26 (0, 0)) (by (with_reducible repeat (first | refine blk_drewN ?_ _ | refine blk_drew ?_ | refine blk_alloc ?_ _)); exact BK423.out) hb); have n1_ := Aside0.mk (below_step (by repeat (first | (with_reducible first | exact HB.out | apply below_alloc | apply pw_below_drewN | apply below_drew1 | refine below_set ?_ GE423.out) | exact HB.out)) hb); clear BK423; clear HB; have BK423 := n0_; have HB := n1_; clear n0_ n1_; (try clear hb); (try clear hb2); (try clear hk); (try clear hi)))
 go_ret2
 exact ⟨by first | rfl | (simp [errW_none, errW_some] <;> rfl) | (simp [*, errW_none, errW_some] <;> rfl), by repeat (first | (with_reducible first | exact HB.out | apply below_alloc | apply pw_below_drewN | apply below_drew1 | refine below_set ?_ GE423.out) | exact HB.out)⟩
end Go.Proofs.Ytkmmihadcbfkoaa.PM
end

section
namespace Go.Proofs.Ytkmmihadcbfkoaa
open Go.RowKit Go.Proofs.YtkmmihadcbfkoaaW.PrintWords PM
set_option linter.unusedVariables false
set_option linter.unusedSimpArgs false
abbrev Key := Int × Int × Int
def keyV (k : Key) : Value := .agg #[.int .i64 k.1, .int .i64 k.2.1, .int .i64 k.2.2]
theorem run_checkKey (empty : Bool) (k : Key) (w : World) : (Instr.checkKey empty 10000 50 (keyV k)).run Try.prog w = .ok () w := by kernel_rfl
theorem run_equal_key (k q : Key) (w : World) : (Op.equal 50 (keyV k) (keyV q)).run Try.prog w = .ok (decide (k = q)) w := by
 have h := eqA50 9998 w k.1 q.1 k.2.1 q.2.1 k.2.2 q.2.2
 have e : (k.1 == q.1 && (k.2.1 == q.2.1 && k.2.2 == q.2.2)) = decide (k = q) := by
  obtain ⟨a, b, c⟩ := k
  obtain ⟨a', b', c'⟩ := q
  rw [Bool.eq_iff_iff]
  simp
 rw [← e]
 exact h
def SetMap (w : World) (m : Nat) (ks : List Key) : Prop := ∃ es clock, w.heap[m]? = some (.map es clock) ∧ es.toList.map (fun e => (e.key, e.val)) = ks.map fun k => (keyV k, Value.bool true)
theorem run_findAsking (k : Key) : ∀ (es : List MapEntry) (ks : List Key) (i : Nat) (w : World), es.map (fun e => (e.key, e.val)) = ks.map (fun k => (keyV k, Value.bool true)) →
  (k ∈ ks → ∃ j, (Instr.findAsking 50 (keyV k) es i).run Try.prog w = .ok (some (j, .bool true)) w) ∧ (k ∉ ks → (Instr.findAsking 50 (keyV k) es i).run Try.prog w = .ok none w)
 | [], ks, i, w, h => by
  have : ks = [] := by cases ks with | nil => rfl | cons _ _ => simp at h
  subst this
  exact ⟨fun h => absurd h (by simp), fun _ => rfl⟩
 | e :: es, [], i, w, h => by simp at h
 | e :: es, q :: ks, i, w, h => by
  simp only [List.map_cons, List.cons.injEq, Prod.mk.injEq] at h
  obtain ⟨⟨h1, h2⟩, h3⟩ := h
  have ih := run_findAsking k es ks (i + 1) w h3
  have hq := run_equal_key k q w
  by_cases e0 : k = q
  ·
   refine ⟨fun _ => ⟨i, ?_⟩, fun hn => absurd (by simp [e0]) hn⟩
   subst e0
   simp only [Instr.findAsking, h1, h2]
   simp [hq, go_sem]
  ·
   refine ⟨fun hm => ?_, fun hn => ?_⟩
   ·
    obtain ⟨j, hj⟩ := ih.1 (by simpa [e0] using hm)
    refine ⟨j, ?_⟩
    simp only [Instr.findAsking, h1, h2]
    simp [hq, e0, hj, go_sem]
   ·
    have hj := ih.2 (by simpa [e0] using hn)
    simp only [Instr.findAsking, h1, h2]
    simp [hq, e0, hj, go_sem]
theorem run_findKey (k : Key) (es : List MapEntry) (ks : List Key) (w : World) (h : es.map (fun e => (e.key, e.val)) = ks.map (fun k => (keyV k, Value.bool true))) :
  (k ∈ ks → ∃ j, (Instr.findKey 50 (keyV k) es).run Try.prog w = .ok (some (j, .bool true)) w) ∧ (k ∉ ks → (Instr.findKey 50 (keyV k) es).run Try.prog w = .ok none w) := by
 cases es with
 | nil =>
  have : ks = [] := by cases ks with | nil => rfl | cons _ _ => simp at h
  subst this
  refine ⟨fun h => absurd h (by simp), fun _ => ?_⟩
  simp [Instr.findKey, Instr.findNow, run_underlying Try.underlying50]
 | cons e es =>
  have hf := run_findAsking k (e :: es) ks 0 w h
  have key : (Instr.findKey 50 (keyV k) (e :: es)).run Try.prog w = (Instr.findAsking 50 (keyV k) (e :: es)).run Try.prog w := by
   simp [Instr.findKey, Instr.findNow, Instr.sameNow, run_underlying Try.underlying50]
  rw [key]
  exact hf
theorem run_getMap {w : World} {m : Nat} {es : Array MapEntry} {clock : Nat} (h : w.heap[m]? = some (.map es clock)) : (getObj m).run Try.prog w = .ok (.map es clock) w := by
 simp [getObj, Sem.run, h]
theorem run_setMap {w : World} {m : Nat} {es : Array MapEntry} {clock : Nat} (h : w.heap[m]? = some (.map es clock)) (o : Obj) : (setObj m o).run Try.prog w = .ok () (w.putObj m o) := by
 simp [setObj, Sem.run, h, World.putObj]
theorem run_lookup_set (m : Nat) (ks : List Key) (k : Key) (w : World) (h : SetMap w m ks) : (Instr.lookup 97 (.map (some m)) (keyV k) false).run Try.prog w = .ok (.bool (decide (k ∈ ks))) w := by
 obtain ⟨es, clock, hm, he⟩ := h
 have hf := run_findKey k es.toList ks w he
 have hc := run_checkKey es.isEmpty k w
 by_cases hk : k ∈ ks
 rotate_left
 ·
  have hj := hf.2 hk
  simp [Instr.lookup, run_underlying Try.underlying97, run_getMap hm, hc, hj, hk, go_sem]
 obtain ⟨j, hj⟩ := hf.1 hk
 simp [Instr.lookup, run_underlying Try.underlying97, run_getMap hm, hc, hj, hk, go_sem]
theorem run_update_set (m : Nat) (ks : List Key) (k : Key) (w : World) (h : SetMap w m ks) (hk : k ∉ ks) : ∃ w', (Instr.mapUpdate 97 (.map (some m)) (keyV k) (.bool true)).run Try.prog w = .ok () w' ∧ SetMap w' m (ks ++ [k]) ∧ w.grownBy w' (some m) ∧ w'.heap.size = w.heap.size := by
 obtain ⟨es, clock, hm, he⟩ := h
 have hf := run_findKey k es.toList ks w he
 have hc := run_checkKey false k w
 have hj := hf.2 hk
 have hml := (Array.getElem?_eq_some_iff.1 hm).1
 refine ⟨w.putObj m (.map (es.push { key := keyV k, val := .bool true, born := clock }) (clock + 1)), ?_, ⟨_, _, World.putObj_heap_same hml, ?_⟩, grownBy_putObj' _ _ _, ?_⟩
 ·
  simp [Instr.mapUpdate, run_underlying Try.underlying97, run_getMap hm, hc, hj, run_setMap hm, go_sem]
 ·
  simp [he]
 simp [World.putObj]
theorem run_make_set (w : World) : (Instr.makeMap 97 none).run Try.prog w = .ok (.map (some w.heap.size)) (w.alloc (.map #[] 0)) := by
 simp [Instr.makeMap, run_underlying Try.underlying97, go_sem]
end Go.Proofs.Ytkmmihadcbfkoaa
end

section
namespace Go.Proofs.Ytkmmihadcbfkoaa
open Go.RowKit Go.Proofs.YtkmmihadcbfkoaaW.PrintWords PM
set_option linter.unusedVariables false
set_option linter.unusedSimpArgs false
def CbPost (r : Int) (w : World) (e : Ending) (w' : World) : Prop := e = .returned (.int .i64 r) ∧ Below w.heap.size w w'
structure CbRel (S : List S50) (s0 s1 s2 : Value) (m : Nat) (w : World) (k : Nat) (wr : World) : Prop where
 ok : ∀ j, j < k → slotAt S j = true
 box : wr.heap[w.heap.size]? = some (.cells #[s0, s1, s2] 26 (0, 0))
 set : SetMap wr m ((S.take k).map slotKey)
 bl : Below w.heap.size w wr
set_option maxRecDepth 100000 in
set_option maxHeartbeats 8000000 in
theorem checkboard_calls (A0 : Option Addr) (c0 : Nat) (F : List Int) (A1 : Option Addr) (c1 : Nat) (S : List S50) (A2 : Option Addr) (c2 : Nat) (T : List (List Int)) (w : World)
  (hr0 : Kd.C (Kd.int .i64) w A0 F.length F) (hc0 : F.length ≤ c0) (hr1 : Kd.C k50 w A1 S.length S) (hr2 : Kd.C (Kd.slice 3 (Kd.int .i64)) w A2 T.length T) :
  Calls Try.prog 47 #[.agg #[.slice A0 F.length c0, .slice A1 S.length c1, .slice A2 T.length c2]] w (CbPost (checkB F S T) w) := by
 have hB0 := (Below.refl w.heap.size w).alloc (Nat.le_refl _) (.cells #[.slice A0 F.length c0, .slice A1 S.length c1, .slice A2 T.length c2] 26)
 have b0 := World.alloc_heap_new w (.cells #[.slice A0 F.length c0, .slice A1 S.length c1, .slice A2 T.length c2] 26)
 have lF : F.length ≤ 9223372036854775807 := hr0.2.1
 have lS : S.length ≤ 9223372036854775807 := hr1.2.1
 have lT : T.length ≤ 9223372036854775807 := hr2.2.1
 obtain ⟨q, hq⟩ : ∃ q, checkB F S T = q := ⟨_, rfl⟩
 rw [hq]
 unfold checkB at hq
 by_cases h1 : 60 < F.length ∨ 200 < S.length
 ·
  rw [if_pos h1] at hq
  subst hq
  by_cases h2 : 60 < F.length
  ·
   have g1 : decide ((60 : Int) < (F.length : Int)) = true := by simp; omega
   go_enter Try.func47, Try.ntmps47
   go_wp2_with fail
   go_ret
   exact ⟨rfl, hB0⟩
  have h3 : 200 < S.length := by omega
  have g1 : decide ((60 : Int) < (F.length : Int)) = false := by simp; omega
  have g2 : decide ((200 : Int) < (S.length : Int)) = true := by simp; omega
  go_enter Try.func47, Try.ntmps47
  go_wp2_with fail
  go_ret
  exact ⟨rfl, hB0⟩
 rw [if_neg h1] at hq
 have g1 : decide ((60 : Int) < (F.length : Int)) = false := by simp; omega
 have g2 : decide ((200 : Int) < (S.length : Int)) = false := by simp; omega
 have HQ := Go.Lib.hid hq
 have HR0 := Go.Lib.hid hr0
 have HR1 := Go.Lib.hid hr1
 have HR2 := Go.Lib.hid hr2
 have HB0 := Go.Lib.hid hB0
 have hl1 : F.length ≤ 60 := by omega
 have hl2 : S.length ≤ 200 := by omega
 have RC := rising_calls A0 c0 F 10 10000007 _ (Kd.C_below hr0 hB0) hc0 lF
 clear hq hr0 hr1 hr2 hB0 h1
 clear b0
 go_enter Try.func47, Try.ntmps47
 go_wp2_with fail
 refine RC.mono ?_
 clear RC
 rintro e w1 ⟨rfl, hd1⟩
 have b1 : w1.heap[w.heap.size]? = some (.cells #[.slice A0 F.length c0, .slice A1 S.length c1, .slice A2 T.length c2] 26 (0, 0)) := by
  rw [hd1.below.block w.heap.size (by simp)]
  exact World.alloc_heap_new w _
 have k0 := cell_of_heap b1 (j := 0) rfl
 have k1 := cell_of_heap b1 (j := 1) rfl
 have k2 := cell_of_heap b1 (j := 2) rfl
 have hB1 : Below w.heap.size w w1 := HB0.out.trans (hd1.below.mono HB0.out.size)
 have HB1 := Go.Lib.hid hB1
 have BX1 := Go.Lib.hid b1
 clear hB1 b1 hd1
 cases hrs : risB F 10 10000007 with
 | false =>
  have HQ1 : q = 1 := by have := HQ.out; rw [if_pos (Or.inl hrs)] at this; exact this.symm
  subst HQ1
  clear hrs
  go_wp2_with fail
  go_ret
  exact ⟨rfl, HB1.out⟩
 | true =>
  have HRS := Go.Lib.hid hrs
  clear hrs
  by_cases hn : T.length = F.length
  rotate_left
  ·
   have g3 : decide ((T.length : Int) = (F.length : Int)) = false := by simp; omega
   have HQ1 : q = 1 := by have := HQ.out; rw [if_pos (Or.inr hn)] at this; exact this.symm
   subst HQ1
   go_wp2_with fail
   go_ret
   exact ⟨rfl, HB1.out⟩
  obtain ⟨m, W2, hm, hset, hB2, hml, b2⟩ : ∃ m W2, (Instr.makeMap 97 none).run Try.prog w1 = .ok (.map (some m)) W2 ∧ SetMap W2 m [] ∧ Below w.heap.size w W2 ∧ w.heap.size < m ∧ W2.heap[w.heap.size]? = w1.heap[w.heap.size]? :=
   ⟨_, _, run_make_set w1, ⟨#[], 0, World.alloc_heap_new _ _, rfl⟩, HB1.out.alloc HB1.out.size _, (Array.getElem?_eq_some_iff.1 BX1.out).1, ((Below.refl w1.heap.size w1).alloc (Nat.le_refl _) _).block _ (Array.getElem?_eq_some_iff.1 BX1.out).1⟩
  rw [BX1.out] at b2
  have j1 := cell_of_heap b2 (j := 1) rfl
  have g3 : decide ((T.length : Int) = (F.length : Int)) = true := by simp; omega
  have REL0 : CbRel S (.slice A0 F.length c0) (.slice A1 S.length c1) (.slice A2 T.length c2) m w 0 W2 := ⟨fun j hj => absurd hj (by omega), b2, hset, hB2⟩
  have REL := Go.Lib.hid REL0
  clear hset hB2 b2 REL0
  go_wp2_with fail
  go_loopw [34] (fun i wr => ∃ k : Nat, k ≤ S.length ∧ i = .int .i64 k ∧ Hid (CbRel S (.slice A0 F.length c0) (.slice A1 S.length c1) (.slice A2 T.length c2) m w k wr)) (fun i _ => S.length - (intOf i).toNat)
  case atStart => exact ⟨0, Nat.zero_le _, rfl, REL⟩
  obtain ⟨k, hk, rfl, HID⟩ := hrel
  by_cases hlt : k < S.length
  rotate_left
  ·
   obtain rfl : k = S.length := by omega
   obtain ⟨hok, hbx, hset, hbl⟩ := HID.out
   have hsB : slotsB S = true := by
    unfold slotsB
    rw [List.all_eq_true]
    exact fun j hj => hok j (List.mem_range.1 hj)
   have j2 := cell_of_heap hbx (j := 2) rfl
   have j1 := cell_of_heap hbx (j := 1) rfl
   have CC := contfunc_calls A2 c2 T w.heap.size A1 S.length c1 wr j1 hl2 (Kd.C_below HR2.out hbl) (by omega)
   have hq := HQ.out
   rw [if_neg (by rw [HRS.out, hn]; simp), if_neg (by rw [hsB]; simp)] at hq
   obtain ⟨f, hf⟩ : ∃ f, fitsB S T = f := ⟨_, rfl⟩
   rw [hf] at hq
   unfold fitsB at hf
   rw [hf] at CC
   have HBL := Go.Lib.hid hbl
   clear hok hbx hset hbl hsB hf HID
   rw [hn] at CC j2
   cases f with
   | true =>
    obtain rfl : q = 0 := by simpa using hq.symm
    rw [Bool.not_true] at CC
    clear hq
    go_wp2_with fail
    refine CC.mono ?_
    clear CC
    rintro e w9 ⟨rfl, hd⟩
    have hB9 := HBL.out.trans (hd.below.mono HBL.out.size)
    have HB9 := Go.Lib.hid hB9
    clear hB9 hd
    go_wp2_with fail
    go_ret
    exact ⟨rfl, HB9.out⟩
   | false =>
    obtain rfl : q = 1 := by simpa using hq.symm
    rw [Bool.not_false] at CC
    clear hq
    go_wp2_with fail
    refine CC.mono ?_
    clear CC
    rintro e w9 ⟨rfl, hd⟩
    have hB9 := HBL.out.trans (hd.below.mono HBL.out.size)
    have HB9 := Go.Lib.hid hB9
    clear hB9 hd
    go_wp2_with fail
    go_ret
    exact ⟨rfl, HB9.out⟩
  obtain ⟨hok, hbx, hset, hbl⟩ := HID.out
  obtain ⟨a9, e9, x0, x1, x2⟩ := at_T50 (Kd.C_below HR1.out hbl) (k : Int) (by omega) (by omega)
  rw [Int.toNat_natCast] at x0 x1 x2
  obtain ⟨s9, hs9⟩ : ∃ s9, rd_T50 S (k : Int) = s9 := ⟨_, rfl⟩
  rw [hs9] at x0 x1 x2
  have hs9' : S.getD k z50 = s9 := by rw [← hs9]; simp [rd_T50]
  have b4 := World.alloc_heap_new wr (.cells #[.int .i64 s9.f0, .int .i64 s9.f1, .int .i64 s9.f2] 50)
  have y0 := cell_of_heap b4 (j := 0) rfl
  have y1 := cell_of_heap b4 (j := 1) rfl
  have y2 := cell_of_heap b4 (j := 2) rfl
  have IC0 := in_calls s9.f0 1 20 (wr.alloc (.cells #[.int .i64 s9.f0, .int .i64 s9.f1, .int .i64 s9.f2] 50))
  have HS9 := Go.Lib.hid hs9'
  have HOK := Go.Lib.hid hok
  have HBX := Go.Lib.hid hbx
  have HSET := Go.Lib.hid hset
  have HBL := Go.Lib.hid hbl
  have hbad : slotAt S k = false → slotsB S = false := fun e => by
   unfold slotsB
   rw [List.all_eq_false]
   exact ⟨k, List.mem_range.2 hlt, by rw [e]; decide⟩
  have hq1 : slotAt S k = false → q = 1 := fun e => by
   have := HQ.out
   rw [if_neg (by rw [HRS.out, hn]; simp), if_pos (hbad e)] at this
   exact this.symm
  have HQ1 := Go.Lib.hid hq1
  clear hs9 hs9' hok hbx hset hbl HID hbad hq1
  subst e9
  go_wp2_with fail
  refine IC0.mono ?_
  clear IC0
  rintro e w5 ⟨rfl, hd5⟩
  have hB5 : Below w.heap.size w w5 ∧ Below wr.heap.size wr w5 ∧ w5.heap[wr.heap.size]? = some (.cells #[.int .i64 s9.f0, .int .i64 s9.f1, .int .i64 s9.f2] 50 (0, 0)) := by
   have h1 := ((Below.refl wr.heap.size wr).alloc (Nat.le_refl _) (.cells #[.int .i64 s9.f0, .int .i64 s9.f1, .int .i64 s9.f2] 50)).trans (hd5.below.mono (by simp))
   exact ⟨HBL.out.trans (h1.mono HBL.out.size), h1, (hd5.below.block _ (by simp)).trans (World.alloc_heap_new _ _)⟩
  have y1 := cell_of_heap hB5.2.2 (j := 1) rfl
  have IC1 := in_calls s9.f1 1 200 w5
  have HB5 := Go.Lib.hid hB5
  clear hB5 hd5 y0
  cases hi0 : inB s9.f0 1 20 with
  | false =>
   have hq : q = 1 := HQ1.out (by unfold slotAt slotIn; rw [HS9.out, hi0]; simp)
   subst hq
   clear hi0
   go_wp2_with fail
   go_ret
   exact ⟨rfl, HB5.out.1⟩
  | true =>
   have HI0 := Go.Lib.hid hi0
   clear hi0
   go_wp2_with fail
   refine IC1.mono ?_
   clear IC1
   rintro e w6 ⟨rfl, hd6⟩
   have hB6 : Below w.heap.size w w6 ∧ Below wr.heap.size wr w6 ∧ w6.heap[wr.heap.size]? = some (.cells #[.int .i64 s9.f0, .int .i64 s9.f1, .int .i64 s9.f2] 50 (0, 0)) :=
    ⟨HB5.out.1.trans (hd6.below.mono HB5.out.1.size), HB5.out.2.1.trans (hd6.below.mono HB5.out.2.1.size), (hd6.below.block _ (Array.getElem?_eq_some_iff.1 HB5.out.2.2).1).trans HB5.out.2.2⟩
   have y2 := cell_of_heap hB6.2.2 (j := 2) rfl
   have IC2 := in_calls s9.f2 1 20 w6
   have HB6 := Go.Lib.hid hB6
   clear hB6 hd6 y1
   cases hi1 : inB s9.f1 1 200 with
   | false =>
    have hq : q = 1 := HQ1.out (by unfold slotAt slotIn; rw [HS9.out, hi1]; simp)
    subst hq
    clear hi1
    go_wp2_with fail
    go_ret
    exact ⟨rfl, HB6.out.1⟩
   | true =>
    have HI1 := Go.Lib.hid hi1
    clear hi1
    go_wp2_with fail
    refine IC2.mono ?_
    clear IC2
    rintro e w7 ⟨rfl, hd7⟩
    have hB7 : Below w.heap.size w w7 ∧ Below wr.heap.size wr w7 ∧ w7.heap[wr.heap.size]? = some (.cells #[.int .i64 s9.f0, .int .i64 s9.f1, .int .i64 s9.f2] 50 (0, 0)) :=
     ⟨HB6.out.1.trans (hd7.below.mono HB6.out.1.size), HB6.out.2.1.trans (hd7.below.mono HB6.out.2.1.size), (hd7.below.block _ (Array.getElem?_eq_some_iff.1 HB6.out.2.2).1).trans HB6.out.2.2⟩
    have y0 := cell_of_heap hB7.2.2 (j := 0) rfl
    have y1 := cell_of_heap hB7.2.2 (j := 1) rfl
    have HB7 := Go.Lib.hid hB7
    clear hB7 hd7 y2
    cases hi2 : inB s9.f2 1 20 with
    | false =>
     have hq : q = 1 := HQ1.out (by unfold slotAt slotIn; rw [HS9.out, hi2]; simp)
     subst hq
     clear hi2
     go_wp2_with fail
     go_ret
     exact ⟨rfl, HB7.out.1⟩
    | true =>
     have HI2 := Go.Lib.hid hi2
     clear hi2
     go_wp2_with fail
     obtain ⟨W8, hW8⟩ : ∃ W8, w7.alloc (.cells #[.int .i64 s9.f0, .int .i64 s9.f1, .int .i64 0] 50) = W8 := ⟨_, rfl⟩
     have hB8 : Below w.heap.size w W8 ∧ Below wr.heap.size wr W8 ∧ W8.heap[wr.heap.size]? = some (.cells #[.int .i64 s9.f0, .int .i64 s9.f1, .int .i64 s9.f2] 50 (0, 0)) ∧ W8.heap[w7.heap.size]? = some (.cells #[.int .i64 s9.f0, .int .i64 s9.f1, .int .i64 0] 50 (0, 0)) := by
      rw [← hW8]
      exact ⟨HB7.out.1.alloc HB7.out.1.size _, HB7.out.2.1.alloc HB7.out.2.1.size _, (Below.heap_alloc _ _ _ (Array.getElem?_eq_some_iff.1 HB7.out.2.2).1).trans HB7.out.2.2, World.alloc_heap_new _ _⟩
     have hbx8 := (hB8.2.1.block w.heap.size (Array.getElem?_eq_some_iff.1 HBX.out).1).trans HBX.out
     obtain ⟨d, hd⟩ : ∃ d, decide (slotKey s9 ∈ (S.take k).map slotKey) = d := ⟨_, rfl⟩
     have hset8 : ∀ n, SetMap (W8.drewN n) m ((S.take k).map slotKey) := by
      intro n
      obtain ⟨es, ck, h1, h2⟩ := HSET.out
      exact ⟨es, ck, (hB8.2.1.block m (Array.getElem?_eq_some_iff.1 h1).1).trans h1, h2⟩
     have hL : ∀ n, (Instr.lookup 97 (.map (some m)) (.agg #[.int .i64 s9.f0, .int .i64 s9.f1, .int .i64 0]) false).run Try.prog (W8.drewN n) = .ok (.bool d) (W8.drewN n) := by
      intro n
      rw [← hd]
      exact run_lookup_set m _ (slotKey s9) _ (hset8 n)
     have y0 := cell_of_heap hB8.2.2.1 (j := 0) rfl
     have y1 := cell_of_heap hB8.2.2.1 (j := 1) rfl
     have z0 := cell_of_heap hB8.2.2.2 (j := 0) rfl
     have z1 := cell_of_heap hB8.2.2.2 (j := 1) rfl
     have z2 := cell_of_heap hB8.2.2.2 (j := 2) rfl
     have j1 := cell_of_heap hbx8 (j := 1) rfl
     have HC8 := Go.Lib.hid (Kd.C_below HR1.out hB8.1)
     have HB8 := Go.Lib.hid hB8
     have HBX8 := Go.Lib.hid hbx8
     have HSET8 := Go.Lib.hid hset8
     have HD := Go.Lib.hid hd
     obtain ⟨b7, hb7⟩ : ∃ b7, w7.heap.size = b7 := ⟨_, rfl⟩
     rw [hW8, hb7]
     rw [hb7] at z0 z1 z2
     clear hb7 hW8 hB8 hbx8 hset8 hd
     cases d with
     | true =>
      have hq : q = 1 := HQ1.out (by unfold slotAt; rw [HS9.out, HD.out]; simp)
      subst hq
      go_quiet (fail)
      go_wp2_with fail
      go_ret
      exact ⟨rfl, (pw_below_drewN HB8.out.1 _)⟩
     | false =>
      have hnk : slotKey s9 ∉ (S.take k).map slotKey := by simpa using HD.out
      obtain ⟨U, hUU⟩ := Classical.axiomOfChoice (fun n => run_update_set m _ (slotKey s9) _ (HSET8.out n) hnk)
      have hU := fun n => (hUU n).1
      have hUs := fun n => (hUU n).2.1
      have hUg := fun n => (hUU n).2.2.1
      have htk : (S.take (k + 1)).map slotKey = (S.take k).map slotKey ++ [slotKey s9] := by
       rw [List.take_succ_eq_append_getElem hlt, List.map_append, ← HS9.out]
       simp [List.getD_eq_getElem?_getD, List.getElem?_eq_getElem hlt]
      have hnext : ∀ n, slotAt S k = true → CbRel S (.slice A0 F.length c0) (.slice (some a9) S.length c1) (.slice A2 T.length c2) m w (k + 1) (U n) := by
       intro n hs
       have hBn := pw_below_drewN HB8.out.1 n
       refine ⟨fun j hj => ?_, ?_, ?_, hBn.grown (hUg n) hBn.size (fun j hj => by cases hj; omega)⟩
       ·
        rcases Nat.lt_succ_iff_lt_or_eq.1 hj with h | h
        ·
         exact HOK.out j h
        ·
         rw [h]; exact hs
       ·
        rw [(hUg n).block w.heap.size (Array.getElem?_eq_some_iff.1 HBX8.out).1 (by simp; omega)]
        exact HBX8.out
       ·
        rw [htk]; exact hUs n
      have hU' : ∀ n, (Instr.mapUpdate 97 (.map (some m)) (.agg #[.int .i64 s9.f0, .int .i64 s9.f1, .int .i64 0]) (.bool true)).run Try.prog (W8.drewN n) = .ok () (U n) := hU
      have NEXT := Go.Lib.hid hnext
      have hsl : slotIn s9 = true := by unfold slotIn; rw [HI0.out, HI1.out, HI2.out]; rfl
      have HSL := Go.Lib.hid hsl
      clear hnk hUU hU hUs hUg htk hnext hsl
      by_cases hk0 : k = 0
      ·
       have g5 : decide ((0 : Int) < (k : Int)) = false := by simp; omega
       go_quiet (fail)
       go_wp2_with fail
       go_roundw
       case rel => exact ⟨k + 1, by omega, by subst hk0; rfl, NEXT.out _ (by unfold slotAt slotBack; rw [HS9.out, HD.out, HSL.out, decide_eq_false (by omega)]; rfl)⟩
       case measure => simp [intOf]; omega
      have g5 : decide ((0 : Int) < (k : Int)) = true := by simp; omega
      have hkp : 0 < k := by omega
      have g6 : IntKind.i64.wrap ((k : Int) - 1) = ((k - 1 : Nat) : Int) := by
       rw [IntKind.wrap_i64]; omega
      have hlt7 : k - 1 < S.length := by omega
      obtain ⟨a7, e7, v0, v1, v2⟩ := at_T50 HC8.out ((k - 1 : Nat) : Int) (by omega) (by omega)
      injection e7 with e7
      subst e7
      rw [Int.toNat_natCast] at v0 v1 v2
      obtain ⟨s7, hs7⟩ : ∃ s7, rd_T50 S ((k - 1 : Nat) : Int) = s7 := ⟨_, rfl⟩
      rw [hs7] at v0 v1 v2
      have hs7' : S.getD (k - 1) z50 = s7 := by rw [← hs7]; simp [rd_T50]
      have HS7 := Go.Lib.hid hs7'
      clear hs7 hs7'
      by_cases hlt0 : s9.f0 < s7.f0
      ·
       have g7 : decide (s9.f0 < s7.f0) = true := by simpa using hlt0
       have hq : q = 1 := HQ1.out (by unfold slotAt slotBack; rw [HS9.out, HS7.out, HD.out, HSL.out, g7, decide_eq_true (show 0 < k from by omega)]; rfl)
       subst hq
       go_quiet (fail)
       go_wp2_with fail
       go_ret
       exact ⟨rfl, (pw_below_drewN HB8.out.1 _)⟩
      have g7 : decide (s9.f0 < s7.f0) = false := by simpa using hlt0
      by_cases heq0 : s9.f0 = s7.f0
      rotate_left
      ·
       have g8 : decide (s9.f0 = s7.f0) = false := by simpa using heq0
       go_quiet (fail)
       go_wp2_with fail
       go_roundw
       case rel => exact ⟨k + 1, by omega, by simp, NEXT.out _ (by unfold slotAt slotBack; rw [HS9.out, HS7.out, HD.out, HSL.out, g7, g8]; simp)⟩
       case measure => simp [intOf]; omega
      have g8 : decide (s9.f0 = s7.f0) = true := by simpa using heq0
      rw [← heq0] at v0
      clear heq0
      by_cases hlt1 : s9.f1 < s7.f1
      rotate_left
      ·
       have g9 : decide (s9.f1 < s7.f1) = false := by simpa using hlt1
       go_quiet (fail)
       go_wp2_with fail
       go_roundw
       case rel => exact ⟨k + 1, by omega, by simp, NEXT.out _ (by unfold slotAt slotBack; rw [HS9.out, HS7.out, HD.out, HSL.out, g7, g8, g9]; simp)⟩
       case measure => simp [intOf]; omega
      have g9 : decide (s9.f1 < s7.f1) = true := by simpa using hlt1
      have hq : q = 1 := HQ1.out (by unfold slotAt slotBack; rw [HS9.out, HS7.out, HD.out, HSL.out, g7, g8, g9, decide_eq_true (show 0 < k from by omega)]; rfl)
      subst hq
      go_quiet (fail)
      go_wp2_with fail
      go_ret
      exact ⟨rfl, (pw_below_drewN HB8.out.1 _)⟩
end Go.Proofs.Ytkmmihadcbfkoaa
end

section
namespace Go.Proofs.Ytkmmihadcbfkoaa
open Go.RowKit Go.Proofs.YtkmmihadcbfkoaaW.PrintWords PM
set_option linter.unusedVariables false
set_option linter.unusedSimpArgs false
def meetAt (T : List (List Int)) (room l : List Int) (f : Nat) : Bool :=
 if T.getD f [] = [] then decide (l.getD f 0 = -1) else decide (l.getD f 0 ∈ T.getD f []) && decide (ld l (l.getD f 0) ≤ room.getD (l.getD f 0).toNat 0)
def meetsB (F : List Int) (S : List S50) (T : List (List Int)) (l : List Int) : Bool := decide (l.length = F.length) && (List.range l.length).all (meetAt T (rooms S) l)
end Go.Proofs.Ytkmmihadcbfkoaa
end

section
namespace Go.Proofs.Ytkmmihadcbfkoaa
open Go.RowKit Go.Proofs.YtkmmihadcbfkoaaW.PrintWords PM
set_option linter.unusedVariables false
set_option linter.unusedSimpArgs false
theorem has_ev (l : List Int) (x : Int) (hl : l.length ≤ 9223372036854775807) (d : Nat) : ∀ i : Nat, l.length - i = d → i ≤ l.length → Ev (fun k => laganref04_Has.l0 k l x (i : Int)) (decide (x ∈ l.drop i)) := by
 induction d with
 | zero =>
  intro i hd hi
  rw [List.drop_of_length_le (by omega)]
  exact (Ev.const false).step fun k => by simp only [laganref04_Has.l0]; rw [if_neg (by omega)]
 | succ d ih =>
  intro i hd hi
  have hlt : i < l.length := by omega
  have hw := wrap_pm (i := (i : Int)) (by omega) (by omega)
  have ih' := ih (i + 1) (by omega) (by omega)
  rw [show (((i + 1 : Nat)) : Int) = (i : Int) + 1 from by omega] at ih'
  have e1 : rd l (i : Int) = l[i] := by simp [rd, List.getD_eq_getElem?_getD, List.getElem?_eq_getElem hlt]
  by_cases h : l[i] = x
  ·
   rw [decide_eq_true (by rw [List.drop_eq_getElem_cons hlt]; exact List.mem_cons.2 (Or.inl h.symm))]
   exact (Ev.const true).step fun k => by
    simp only [laganref04_Has.l0]
    rw [if_pos (by omega), if_pos (by omega), e1, if_pos h]
  have hd : decide (x ∈ l.drop i) = decide (x ∈ l.drop (i + 1)) := by
   rw [List.drop_eq_getElem_cons hlt]
   exact decide_eq_decide.2 ⟨fun hm => (List.mem_cons.1 hm).resolve_left (fun e => h e.symm), fun hm => List.mem_cons.2 (Or.inr hm)⟩
  rw [hd]
  exact Ev.step ih' fun k => by
   simp only [laganref04_Has.l0]
   rw [if_pos (by omega), if_pos (by omega), e1, if_neg h, hw.1]
theorem has_is (l : List Int) (x : Int) (hl : l.length ≤ 9223372036854775807) : Ev (fun k => laganref04_Has.f k l x) (decide (x ∈ l)) :=
 has_ev l x hl l.length 0 (by omega) (by omega)
def refAt (S : List S50) (T : List (List Int)) (l : List Int) (i : Nat) : Bool :=
 if T.getD i [] = [] then decide (l.getD i 0 = -1) else decide (l.getD i 0 ∈ T.getD i []) && decide (((l.take (i + 1)).count (l.getD i 0) : Int) ≤ (S.getD (l.getD i 0).toNat z50).f2)
theorem meets_ev {F : List Int} {S : List S50} {T : List (List Int)} (hk : BOK F S T) (l : List Int) (hl : l.length = F.length) (d : Nat) : ∀ (i : Nat) (L : List Int), l.length - i = d → i ≤ l.length → L.length = S.length → (∀ s : Nat, s < S.length → L.getD s 0 = ((l.take i).count (s : Int) : Nat)) →
  Ev (fun k => laganref04_meets.l0 k l L (i : Int) F S T) (((List.range l.length).drop i).all (refAt S T l)) := by
 have hF := hk.nf
 induction d with
 | zero =>
  intro i L hd hi hL hc
  rw [List.drop_of_length_le (by simp; omega)]
  exact (Ev.const true).step fun k => by simp only [laganref04_meets.l0]; rw [if_neg (by omega)]
 | succ d ih =>
  intro i L hd hi hL hc
  have hlt : i < l.length := by omega
  have hiT : i < T.length := by rw [hk.nt]; omega
  have hw := wrap_pm (i := (i : Int)) (by omega) (by omega)
  rw [all_range_step hlt]
  have hrd : rd_L1 T (i : Int) = T.getD i [] := by simp [rd_L1]
  have hslot := hk.slot i hiT
  have hrl := hk.row i hiT
  obtain ⟨row, hrw⟩ : ∃ row, T.getD i [] = row := ⟨_, rfl⟩
  obtain ⟨s, hs⟩ : ∃ s, l.getD i 0 = s := ⟨_, rfl⟩
  have htk : l.take (i + 1) = l.take i ++ [s] := by
   rw [List.take_succ_eq_append_getElem hlt, ← hs]
   simp [List.getD_eq_getElem?_getD, List.getElem?_eq_getElem hlt]
  have hcnt : ∀ t : Int, (l.take (i + 1)).count t = (l.take i).count t + if s = t then 1 else 0 := fun t => by
   rw [htk, List.count_append, List.count_singleton]
   congr 1
   by_cases e : s = t <;> simp [e]
  have hra : refAt S T l i = if row = [] then decide (s = -1) else decide (s ∈ row) && decide (((l.take (i + 1)).count s : Int) ≤ (S.getD s.toNat z50).f2) := by
   unfold refAt; rw [hrw, hs]
  rw [hra]
  rw [hrw] at hrd hslot hrl
  by_cases hem : row = []
  ·
   rw [if_pos hem]
   by_cases h1 : s = -1
   rotate_left
   ·
    rw [decide_eq_false h1, Bool.false_and]
    exact (Ev.const false).step fun k => by
     simp only [laganref04_meets.l0]
     rw [if_pos (by omega), if_pos (by omega), if_pos (by omega), hrd, if_pos (by rw [hem]; rfl), rd_nat, hs, if_neg h1]
   rw [decide_eq_true h1, Bool.true_and]
   have ih' := ih (i + 1) L (by omega) (by omega) hL (fun t ht => by rw [hcnt, hc t ht, if_neg (by omega), Nat.add_zero])
   rw [show (((i + 1 : Nat)) : Int) = (i : Int) + 1 from by omega] at ih'
   exact Ev.step ih' fun k => by
    simp only [laganref04_meets.l0]
    rw [if_pos (by omega), if_pos (by omega), if_pos (by omega), hrd, if_pos (by rw [hem]; rfl), rd_nat, hs, if_pos h1, hw.1]
  rw [if_neg hem]
  have hlen : ¬ (row.length : Int) = 0 := by
   intro e
   exact hem (List.length_eq_zero_iff.1 (by omega))
  have hh := has_is row s (by omega)
  by_cases hin : s ∈ row
  rotate_left
  ·
   rw [decide_eq_false hin, Bool.false_and, Bool.false_and]
   have hb := Ev.bind (g := fun k t414 => (if t414 = true then (if 0 ≤ s then (if s < (L.length : Int) then ((some (L.set s.toNat (wrap64 (rd L s + 1)))).bind fun y418 => (if s < (S.length : Int) then (if (rd y418 s) > ((rd_T50 S s).f2) then (some false) else (laganref04_meets.l0 k l y418 ((i : Int) + 1) F S T)) else (none))) else (none)) else (none)) else (some false))) (s := false) hh (by
    rw [decide_eq_false hin]
    exact (Ev.const false).congr fun k => by rw [if_neg (by simp)])
   refine Ev.step hb fun k => ?_
   simp only [laganref04_meets.l0]
   rw [if_pos (by omega), if_pos (by omega), if_pos (by omega), hrd, if_neg hlen, rd_nat, hs, hw.1]
  rw [decide_eq_true hin, Bool.true_and]
  obtain ⟨jj, hjj, hje⟩ := List.getElem_of_mem hin
  have hsb := hslot jj hjj
  rw [show row.getD jj 0 = s from by rw [List.getD_eq_getElem?_getD, List.getElem?_eq_getElem hjj]; exact hje] at hsb
  obtain ⟨hs0, hs1⟩ := hsb
  have hsn : s.toNat < S.length := by omega
  have hcs := hc s.toNat hsn
  rw [show ((s.toNat : Nat) : Int) = s from by omega] at hcs
  have hcl : (l.take i).count s ≤ 60 := Nat.le_trans List.count_le_length (by simp; omega)
  have hrds : rd L s = ((l.take i).count s : Nat) := hcs
  have hwr : wrap64 (rd L s + 1) = ((l.take (i + 1)).count s : Nat) := by
   rw [hrds, hcnt, if_pos rfl]
   have := wrap_pm (i := (((l.take i).count s : Nat) : Int)) (by omega) (by omega)
   rw [this.1]
   omega
  obtain ⟨L', hL'⟩ : ∃ L', L.set s.toNat (wrap64 (rd L s + 1)) = L' := ⟨_, rfl⟩
  have hLl : L'.length = S.length := by rw [← hL', List.length_set]; exact hL
  have hcL : ∀ t : Nat, t < S.length → L'.getD t 0 = ((l.take (i + 1)).count (t : Int) : Nat) := fun t ht => by
   rw [← hL', List.getD_eq_getElem?_getD, List.getElem?_set]
   by_cases e : s.toNat = t
   ·
    rw [if_pos e, if_pos (by omega), hwr]
    have : s = (t : Int) := by omega
    rw [this]
    rfl
   ·
    rw [if_neg e, hcnt, if_neg (by omega), Nat.add_zero, ← hc t ht, List.getD_eq_getElem?_getD]
  have hrdL : rd L' s = ((l.take (i + 1)).count s : Nat) := by
   have := hcL s.toNat hsn
   rw [show ((s.toNat : Nat) : Int) = s from by omega] at this
   exact this
  have hst : ∀ k, laganref04_meets.l0 (k + 1) l L (i : Int) F S T = (laganref04_Has.f k row s).bind fun t414 => (if t414 = true then (if 0 ≤ s then (if s < (L.length : Int) then ((some L').bind fun y418 => (if s < (S.length : Int) then (if (rd y418 s) > ((rd_T50 S s).f2) then (some false) else (laganref04_meets.l0 k l y418 ((i : Int) + 1) F S T)) else (none))) else (none)) else (none)) else (some false)) := fun k => by
   simp only [laganref04_meets.l0]
   rw [if_pos (by omega), if_pos (by omega), if_pos (by omega), hrd, if_neg hlen, rd_nat, hs, hw.1]
   rw [hL']
  refine Ev.step (g := fun k => (laganref04_Has.f k row s).bind fun t414 => (if t414 = true then (if 0 ≤ s then (if s < (L.length : Int) then ((some L').bind fun y418 => (if s < (S.length : Int) then (if (rd y418 s) > ((rd_T50 S s).f2) then (some false) else (laganref04_meets.l0 k l y418 ((i : Int) + 1) F S T)) else (none))) else (none)) else (none)) else (some false))) (Ev.bind hh ?_) hst
  rw [decide_eq_true hin]
  have hrT : (rd_T50 S s).f2 = (S.getD s.toNat z50).f2 := rfl
  by_cases hgt : ((l.take (i + 1)).count s : Int) ≤ (S.getD s.toNat z50).f2
  rotate_left
  ·
   rw [decide_eq_false hgt, Bool.false_and]
   refine (Ev.const false).congr fun k => ?_
   rw [if_pos rfl, if_pos hs0, if_pos (by omega), Option.bind_some, if_pos (by omega), hrdL, hrT, if_pos (by omega)]
  rw [decide_eq_true hgt, Bool.true_and]
  have ih' := ih (i + 1) L' (by omega) (by omega) hLl hcL
  rw [show (((i + 1 : Nat)) : Int) = (i : Int) + 1 from by omega] at ih'
  refine ih'.congr fun k => ?_
  rw [if_pos rfl, if_pos hs0, if_pos (by omega), Option.bind_some, if_pos (by omega), hrdL, hrT, if_neg (by omega)]
end Go.Proofs.Ytkmmihadcbfkoaa
end
