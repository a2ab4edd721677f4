/-
  MatchMemory holds: for every board, find and slot, the law returns true and what it is given reads as it did. (part 2 of 5 of the texts that it stands on)
-/
import Derived.Test.YtkmmihadcbfkoaaProg
import Derived.Below
import Derived.Deep.Draws
import Derived.Deep.AppendLies
import Derived.Maps.AppendAt
import Derived.OwnWalk
import Derived.Laws.BytesArg
import Derived.Laws.MakeOwn
import Derived.Laws.OwnMore
import Derived.Deep.OwnRows
import Derived.Tactics
import Derived.Lib.ConvBytes
import Derived.Laws.Slices
import Derived.WalkKit
import Derived.KernelRfl
import Derived.RowKit3
import Derived.Deep.LoopGhost
import Derived.Deep.QuietTactic
import Derived.BigQuiet
import Derived.WideLaws
import Derived.Deep.DeepCutAuto
import Derived.Deep.CutBlock
import Derived.Deep.RegionHeld3
import Derived.Laws.Rows
import Derived.Lib.AppendStr
import Derived.ArgAppend
import Derived.Laws.IdiomCopy
import Derived.OrdersHeld
import Derived.Laws.BitsLemmas
import Derived.RowKit
import Derived.Lib.SlicesCompact
import Derived.RangeFuncBox
import Derived.RangeFuncNested
import Derived.RangeFuncLeaves
import Derived.Shelf.Abstract
import Derived.OwnWalkIn
import Derived.TacticsInMore
import Derived.LoopNIn
import Derived.LoopIn
import Derived.Lib.Hide
import Derived.ChangeSlices
import Derived.WalkMore
import Derived.Shelf.Small.Bits
import Derived.Shelf.Small.Wraps
import Derived.Shelf.Strconv.Itoa0
import Derived.Shelf.Sort.Plain
import Derived.Shelf.Bits.Mul64
import Derived.Shelf.Slices.Turned
import Derived.Ground.Names2Prog
import Derived.Shelf.Slices.CompactI
import Derived.Shelf.Slices.SearchI
import Derived.Shelf.Slices.Delete
import Derived.Shelf.Slices.Cells
import Derived.Shelf.Slices.In.SortNone
import Derived.Shelf.Slices.Empties
import Derived.Deep.RegionLaw
import Derived.Laws.CopyOwn
import Derived.WalkLawsBesides
import Derived.WalkSpells
import Derived.Laws.EntriesVeiled
import Derived.Test.YtkmmihadcbfkoaaZMemorya
section
namespace Go.Proofs.Ytkmmihadcbfkoaa.PM
open Go.RowKit Go.Proofs.YtkmmihadcbfkoaaW.PrintWords Go.Proofs.YtkmmihadcbfkoaaW.PrintLast Go.Proofs.YtkmmihadcbfkoaaW.PrintMore
set_option linter.unusedVariables false
set_option linter.unusedSimpArgs false
def errW : Option Int → Value
 | none => .nilIface
 | some c => .iface 0 (.int .i64 c)
theorem errW_none : errW none = .nilIface := rfl
theorem errW_some (c : Int) : errW (some c) = .iface 0 (.int .i64 c) := rfl
theorem info3 : (Try.prog.info? 3).map (fun i => (i.zero, i.size, i.bytes)) = some (some (.int .i64 0), 1, 8) := by kernel_rfl
theorem info22 : (Try.prog.info? 22).map (fun i => (i.zero, i.size, i.bytes)) = some (some (.slice none 0 0), 1, 24) := by kernel_rfl
theorem info50 : (Try.prog.info? 50).map (fun i => (i.zero, i.size, i.bytes)) = some (some (.agg #[(.int .i64 0), (.int .i64 0), (.int .i64 0)]), 3, 24) := by kernel_rfl
def rd_L1 (xs : List (List Int)) (i : Int) : (List Int) := xs.getD i.toNat ([] : List Int)
theorem at_L1 {w : World} {A : Option Addr} {n : Nat} {xs : List (List Int)} (h : Kd.C (Kd.slice 3 (Kd.int .i64)) w A n xs) (i : Int) (h0 : 0 ≤ i) (h1 : i < n) : ∃ ad A0 c0, A = some ad ∧ w.cell? (ad.add i.toNat) = some (.slice A0 (rd_L1 xs i).length c0) ∧ (rd_L1 xs i).length ≤ c0 ∧ (Kd.int .i64).C w A0 (rd_L1 xs i).length (rd_L1 xs i) := by
 obtain ⟨ad, c, e, _, hK, hc0⟩ := Kd.C_get h ([] : List Int) i h0 h1
 have hc : ∀ j u, c[j]? = some u → w.cell? (ad.add (i.toNat * 1 + j)) = some u := hc0
 obtain ⟨A0, c0, rfl, l0, g0⟩ := hK
 exact ⟨ad, A0, c0, e, by have hq := hc 0 _ rfl; rwa [Nat.mul_one, Nat.add_zero] at hq, l0, g0⟩
structure S50 where
 f0 : Int
 f1 : Int
 f2 : Int
def z50 : S50 := ⟨(0 : Int), (0 : Int), (0 : Int)⟩
def k50 : Kd S50 := Kd.iso (Kd.pair (Kd.int .i64) (Kd.pair (Kd.int .i64) (Kd.int .i64))) (fun x : S50 => (x.f0, x.f1, x.f2))
theorem k50_open {w : World} {x : S50} {cs : List Value} (h : k50.K w x cs) : cs = [.int .i64 x.f0, .int .i64 x.f1, .int .i64 x.f2] := by
 obtain ⟨_, _, rfl, rfl, ⟨_, _, rfl, rfl, rfl⟩⟩ := h
 exact rfl
theorem k50_mk (w : World) (x : S50)  : k50.K w x [.int .i64 x.f0, .int .i64 x.f1, .int .i64 x.f2] := ⟨[.int .i64 x.f0], [.int .i64 x.f1, .int .i64 x.f2], rfl, rfl, ⟨[.int .i64 x.f1], [.int .i64 x.f2], rfl, rfl, rfl⟩⟩
def rd_T50 (xs : List S50) (i : Int) : S50 := xs.getD i.toNat z50
theorem at_T50 {w : World} {A : Option Addr} {n : Nat} {xs : List S50} (h : Kd.C k50 w A n xs) (i : Int) (h0 : 0 ≤ i) (h1 : i < n) : ∃ ad , A = some ad ∧ w.cell? (ad.add (i.toNat * 3)) = some (.int .i64 (rd_T50 xs i).f0) ∧ w.cell? ⟨(ad.add (i.toNat * 3)).block, (ad.add (i.toNat * 3)).off + 1, none⟩ = some (.int .i64 (rd_T50 xs i).f1) ∧ w.cell? ⟨(ad.add (i.toNat * 3)).block, (ad.add (i.toNat * 3)).off + 2, none⟩ = some (.int .i64 (rd_T50 xs i).f2) := by
 obtain ⟨ad, c, e, _, hK, hc0⟩ := Kd.C_get h z50 i h0 h1
 have hc : ∀ j u, c[j]? = some u → w.cell? (ad.add (i.toNat * 3 + j)) = some u := hc0
 obtain rfl := k50_open hK
 exact ⟨ad, e, hc 0 _ rfl, by rw [← add_field _ _ 1 (by omega)]; exact hc 1 _ rfl, by rw [← add_field _ _ 2 (by omega)]; exact hc 2 _ rfl⟩
theorem eqA50 (d : Nat) (w : World) (x0 y0 : Int) (x1 y1 : Int) (x2 y2 : Int) :
  (Op.equalIn (d + 2) 50 (.agg #[.int .i64 x0, .int .i64 x1, .int .i64 x2]) (.agg #[.int .i64 y0, .int .i64 y1, .int .i64 y2])).run Try.prog w = .ok (x0 == y0 && (x1 == y1 && (x2 == y2))) w := by
 refine eqA_of Try.underlying50 (by kernel_rfl) ?_
 refine eqf_cons (by rfl) (by go_simp; rfl) (by go_simp; rfl) (by go_simp) ?_
 refine eqf_cons (by rfl) (by go_simp; rfl) (by go_simp; rfl) (by go_simp) ?_
 exact eqf_last (by rfl) (by go_simp; rfl) (by go_simp; rfl) (by go_simp)
end Go.Proofs.Ytkmmihadcbfkoaa.PM
end

section
namespace Go.Proofs.Ytkmmihadcbfkoaa.PM
open Go.RowKit Go.Proofs.YtkmmihadcbfkoaaW.PrintWords Go.Proofs.YtkmmihadcbfkoaaW.PrintLast Go.Proofs.YtkmmihadcbfkoaaW.PrintMore
set_option linter.unusedVariables false
set_option linter.unusedSimpArgs false
def laganref04_SameInts.l0 : Nat → List Int → List Int → Int → Option (Bool)
 | 0, _, _, _ => none
 | k + 1, x0, x1, x5 => if x5 < (x0.length : Int) then (if 0 ≤ x5 then (if x5 < (x1.length : Int) then (if (rd x0 x5) = (rd x1 x5) then (laganref04_SameInts.l0 k x0 x1 (wrap64 (x5 + 1))) else (some false)) else (none)) else (none)) else (some true)
def laganref04_SameInts.f (k : Nat) (l0 : List Int) (l1 : List Int) : Option (Bool) := if (l0.length : Int) = (l1.length : Int) then (laganref04_SameInts.l0 k l0 l1 0) else (some false)
set_option maxHeartbeats 8000000 in
set_option maxRecDepth 100000 in
theorem laganref04_SameInts.calls (k : Nat) (A0 : Option Addr) (c0 : Nat) (l0 : List Int) (A1 : Option Addr) (c1 : Nat) (l1 : List Int) (r : Bool) (w : World) (hr0 : Kd.C (Kd.int .i64) w A0 l0.length l0) (hc0 : l0.length ≤ c0) (hr1 : Kd.C (Kd.int .i64) w A1 l1.length l1) (hc1 : l1.length ≤ c1) (h : laganref04_SameInts.f k l0 l1 = some r) :
  Calls Try.prog 22 #[.slice A0 l0.length c0, .slice A1 l1.length c1] w fun e w' => e = .returned (.bool r) ∧ Drawn0 w w' := by
 have HR0 := Aside0.mk hr0
 have HC0 := Aside0.mk hc0
 clear hr0 hc0
 have HR1 := Aside0.mk hr1
 have HC1 := Aside0.mk hc1
 clear hr1 hc1
 have H : (if (l0.length : Int) = (l1.length : Int) then (laganref04_SameInts.l0 k l0 l1 0) else (some false)) = some r := h
 clear h
 by_cases c3 : (l0.length : Int) = (l1.length : Int)
 rotate_left
 ·
  rw [if_neg c3] at H
  have c3b0 : ((l0.length : Int) == (l1.length : Int)) = false := beq_eq_false_iff_ne.mpr c3
  have c3b1 : ((l0.length : Int) != (l1.length : Int)) = true := bne_iff_ne.mpr c3
  have c3b2 : (l0.length == l1.length) = false := by first | simpa using c3 | (simp at c3 ⊢; omega)
  obtain rfl := Option.some.inj H
  go_enter Try.func22, Try.ntmps22
  go_wp2
  repeat (go_quiet (fail); try go_wp2)
  go_ret
  exact ⟨by first | rfl | (simp; done) | (simp [*]; done), by repeat (first | exact Drawn0.refl _ | apply Drawn0.step)⟩
 rw [if_pos c3] at H
 have c3b0 : ((l0.length : Int) == (l1.length : Int)) = true := beq_iff_eq.mpr c3
 have c3b1 : ((l0.length : Int) != (l1.length : Int)) = false := bne_eq_false_iff_eq.mpr c3
 have c3b2 : (l0.length == l1.length) = true := by first | simpa using c3 | (simp at c3 ⊢; omega)
 clear c3
 have H' := Aside0.mk H
 clear H
 go_enter Try.func22, Try.ntmps22
 go_wp2
 repeat (go_quiet (fail); try go_wp2)
 go_loopg [5] k (fun kq v5 w' => ∃ (x5_1 : Int), v5 = .int .i64 x5_1 ∧ Aside0 (laganref04_SameInts.l0 kq l0 l1 x5_1 = some r) ∧ Aside0 (kq ≤ k) ∧ Drawn0 w w')
 case atStart => exact ⟨(0), (by first | rfl | (simp; done) | (simp [*]; done)), H', ⟨Nat.le_refl _⟩, by repeat (first | exact Drawn0.refl _ | apply Drawn0.step)⟩
 clear H'
 try clear c1
 try clear c2
 try clear p2
 try clear c3
 try clear c3b0
 try clear c3b1
 try clear c3b2
 obtain ⟨x5_1, rfl, HA, HK1, ⟨m1, rfl⟩⟩ := hrel
 cases gk with
 | zero => exact absurd HA.out (by simp [laganref04_SameInts.l0])
 | succ k1 =>
  have H := HA.out
  clear HA
  simp only [laganref04_SameInts.l0] at H
  by_cases c4 : x5_1 < (l0.length : Int)
  rotate_left
  ·
   rw [if_neg c4] at H
   have c4b0 : decide (x5_1 < (l0.length : Int)) = false := decide_eq_false c4
   clear c4
   obtain rfl := Option.some.inj H
   go_wp2
   repeat (go_quiet (fail); try go_wp2)
   go_ret
   exact ⟨by first | rfl | (simp; done) | (simp [*]; done), by repeat (first | exact Drawn0.refl _ | apply Drawn0.step)⟩
  rw [if_pos c4] at H
  have c4b0 : decide (x5_1 < (l0.length : Int)) = true := decide_eq_true c4
  clear c4
  by_cases c5 : 0 ≤ x5_1
  rotate_left
  ·
   rw [if_neg c5] at H
   exact absurd H (by simp)
  rw [if_pos c5] at H
  have c5b0 : decide (0 ≤ x5_1) = true := decide_eq_true c5
  clear c5
  by_cases c6 : x5_1 < (l1.length : Int)
  rotate_left
  ·
   rw [if_neg c6] at H
   exact absurd H (by simp)
  rw [if_pos c6] at H
  have c6b0 : decide (x5_1 < (l1.length : Int)) = true := decide_eq_true c6
  clear c6
  by_cases c7 : (rd l0 x5_1) = (rd l1 x5_1)
  rotate_left
  ·
   rw [if_neg c7] at H
   have c7b0 : ((rd l0 x5_1) == (rd l1 x5_1)) = false := beq_eq_false_iff_ne.mpr c7
   have c7b1 : ((rd l0 x5_1) != (rd l1 x5_1)) = true := bne_iff_ne.mpr c7
   obtain rfl := Option.some.inj H
   have p219 : 0 ≤ (x5_1 : Int) := of_decide_eq_true (by first | (with_reducible assumption) | assumption)
   have q219 : x5_1 < (l0.length : Int) := of_decide_eq_true (by first | (with_reducible assumption) | assumption)
   obtain ⟨ad219, e219, hx219_0⟩ := Kd.at_int HR0.out x5_1 p219 q219
   cases e219
   replace p219 := eq_true p219
   replace q219 := eq_true q219
   have p220 : 0 ≤ (x5_1 : Int) := of_decide_eq_true (by first | (with_reducible assumption) | assumption)
   have q220 : x5_1 < (l1.length : Int) := of_decide_eq_true (by first | (with_reducible assumption) | assumption)
   obtain ⟨ad220, e220, hx220_0⟩ := Kd.at_int HR1.out x5_1 p220 q220
   cases e220
   replace p220 := eq_true p220
   replace q220 := eq_true q220
   go_wp2
   repeat (go_quiet (fail); try go_wp2)
   go_ret
   exact ⟨by first | rfl | (simp; done) | (simp [*]; done), by repeat (first | exact Drawn0.refl _ | apply Drawn0.step)⟩
  rw [if_pos c7] at H
  have c7b0 : ((rd l0 x5_1) == (rd l1 x5_1)) = true := beq_iff_eq.mpr c7
  have c7b1 : ((rd l0 x5_1) != (rd l1 x5_1)) = false := bne_eq_false_iff_eq.mpr c7
  clear c7
  have H' := Aside0.mk H
  clear H
  have p219 : 0 ≤ (x5_1 : Int) := of_decide_eq_true (by first | (with_reducible assumption) | assumption)
  have q219 : x5_1 < (l0.length : Int) := of_decide_eq_true (by first | (with_reducible assumption) | assumption)
  obtain ⟨ad219, e219, hx219_0⟩ := Kd.at_int HR0.out x5_1 p219 q219
  cases e219
  replace p219 := eq_true p219
  replace q219 := eq_true q219
  have p220 : 0 ≤ (x5_1 : Int) := of_decide_eq_true (by first | (with_reducible assumption) | assumption)
  have q220 : x5_1 < (l1.length : Int) := of_decide_eq_true (by first | (with_reducible assumption) | assumption)
  obtain ⟨ad220, e220, hx220_0⟩ := Kd.at_int HR1.out x5_1 p220 q220
  cases e220
  replace p220 := eq_true p220
  replace q220 := eq_true q220
  go_wp2
  repeat (go_quiet (fail); try go_wp2)
  go_roundg k1
  case measure => have := HK1.out; omega
  case rel => exact ⟨(wrap64 (x5_1 + 1)), (by first | rfl | (simp; done) | (simp [*]; done)), H', ⟨by have := HK1.out; omega⟩, by repeat (first | exact Drawn0.refl _ | apply Drawn0.step)⟩
mutual
def laganlaw04_wide.j0 : Nat → Bool → List Int → List (S50) → List (List Int) → Option (Bool)
 | 0, _, _, _, _ => none
 | k + 1, x19, x268000, x268001, x268002 => if x19 = true then (some false) else (laganlaw04_wide.l0 k 0 x268000 x268001 x268002)
def laganlaw04_wide.l0 : Nat → Int → List Int → List (S50) → List (List Int) → Option (Bool)
 | 0, _, _, _, _ => none
 | k + 1, x3, x268000, x268001, x268002 => if x3 < (x268002.length : Int) then (if 0 ≤ x3 then (if ((rd_L1 x268002 x3).length : Int) > 60 then (some false) else (laganlaw04_wide.l0 k (wrap64 (x3 + 1)) x268000 x268001 x268002)) else (none)) else (if (x268000.length : Int) ≤ 30 then (if (x268001.length : Int) ≤ 40 then (some true) else (if (x268000.length : Int) > 60 then (some true) else (some (decide ((x268001.length : Int) > 200))))) else (if (x268000.length : Int) > 60 then (some true) else (some (decide ((x268001.length : Int) > 200)))))
end
def laganlaw04_wide.f (k : Nat) (l0_0 : List Int) (l0_1 : List (S50)) (l0_2 : List (List Int)) : Option (Bool) := if (l0_0.length : Int) > 70 then (laganlaw04_wide.j0 k true l0_0 l0_1 l0_2) else (if (l0_1.length : Int) > 210 then (laganlaw04_wide.j0 k true l0_0 l0_1 l0_2) else (laganlaw04_wide.j0 k (decide ((l0_2.length : Int) > 70)) l0_0 l0_1 l0_2))
set_option maxHeartbeats 8000000 in
set_option maxRecDepth 100000 in
theorem laganlaw04_wide.calls (k : Nat) (A0_0 : Option Addr) (c0_0 : Nat) (l0_0 : List Int) (A0_1 : Option Addr) (c0_1 : Nat) (l0_1 : List (S50)) (A0_2 : Option Addr) (c0_2 : Nat) (l0_2 : List (List Int)) (r : Bool) (w : World) (hr0_0 : Kd.C (Kd.int .i64) w A0_0 l0_0.length l0_0) (hc0_0 : l0_0.length ≤ c0_0) (hr0_1 : Kd.C k50 w A0_1 l0_1.length l0_1) (hc0_1 : l0_1.length ≤ c0_1) (hr0_2 : Kd.C (Kd.slice 3 (Kd.int .i64)) w A0_2 l0_2.length l0_2) (hc0_2 : l0_2.length ≤ c0_2) (h : laganlaw04_wide.f k l0_0 l0_1 l0_2 = some r) :
  Calls Try.prog 25 #[.agg #[.slice A0_0 l0_0.length c0_0, .slice A0_1 l0_1.length c0_1, .slice A0_2 l0_2.length c0_2]] w fun e w' => e = .returned (.bool r) ∧ Below w.heap.size w w' := by
 have hu26 := Try.underlying26
 have HR0_0 := Aside0.mk hr0_0
 have HC0_0 := Aside0.mk hc0_0
 clear hr0_0 hc0_0
 have HR0_1 := Aside0.mk hr0_1
 have HC0_1 := Aside0.mk hc0_1
 clear hr0_1 hc0_1
 have HR0_2 := Aside0.mk hr0_2
 have HC0_2 := Aside0.mk hc0_2
 clear hr0_2 hc0_2
 have HB := Aside0.mk (Below.refl w.heap.size w)
 have H : (if (l0_0.length : Int) > 70 then (laganlaw04_wide.j0 k true l0_0 l0_1 l0_2) else (if (l0_1.length : Int) > 210 then (laganlaw04_wide.j0 k true l0_0 l0_1 l0_2) else (laganlaw04_wide.j0 k (decide ((l0_2.length : Int) > 70)) l0_0 l0_1 l0_2))) = some r := h
 clear h
 have HC2 := Aside0.mk H
 clear H
 go_enter Try.func25, Try.ntmps25
 go_upto_region 1 with (first | ((with_reducible refine gate_dst (N := 1) rfl ?_); (try (refine gate_guard (by rfl) ?_; dsimp only)); refine box_event ?hg (N := 1) ?hd (cs := #[.slice A0_0 l0_0.length c0_0, .slice A0_1 l0_1.length c0_1, .slice A0_2 l0_2.length c0_2]) (t := 26) ?hr ?_; (case hd => rfl); (case hg => rfl); (case hr => first | (go_simp; done) | (go_simp; rfl)); intro gb267 hg w3 hbox hb; have n0_ := Aside0.mk (below_step (by repeat (first | (with_reducible first | exact HB.out | apply below_alloc | apply pw_below_drewN | apply below_drew1) | exact HB.out)) hb); have n1_ := Aside0.mk (hbox); have n2_ := Aside0.mk ((by rw [hg]; exact (below_size (by repeat (first | (with_reducible first | exact HB.out | apply below_alloc | apply pw_below_drewN | apply below_drew1) | exact HB.out))) : w.heap.size ≤ gb267)); have n3_ := Aside0.mk ((by rw [hg]; exact (below_size (by repeat (first | (with_reducible first | exact HB.out | apply below_alloc | apply pw_below_drewN | apply below_drew1) | exact HB.out))) : w.heap.size ≤ gb267)); clear HB; have HB := n0_; have BK267 := n1_; have GW267 := n2_; have GE267 := n3_; clear n0_ n1_ n2_ n3_; clear hb hbox hg))
 (try simp only [Act.put, List.setIfInBounds_toArray, List.set_cons_zero, List.set_cons_succ])
 go_cut [19] (fun v19 wc => ∃ (kq : Nat) (x19_1 : Bool), v19 = .bool x19_1 ∧ Aside0 (laganlaw04_wide.j0 kq x19_1 l0_0 l0_1 l0_2 = some r) ∧ Aside0 (kq ≤ k) ∧ Aside0 (wc.heap[gb267]? = some (.cells #[(.slice A0_0 l0_0.length c0_0), (.slice A0_1 l0_1.length c0_1), (.slice A0_2 l0_2.length c0_2)] 26 (0, 0))) ∧ Aside0 (Below w.heap.size w wc))
 case first =>
  have H := HC2.out
  clear HC2
  by_cases c4 : (l0_0.length : Int) > 70
  ·
   rw [if_pos c4] at H
   have c4b0 : decide (70 < (l0_0.length : Int)) = true := decide_eq_true c4
   have c4b1 : decide (70 < l0_0.length) = true := decide_eq_true (by omega)
   clear c4
   (first | rw [c4b0] | (simp only [i64_w, i32_w]; rw [c4b0]) | skip)
   have H' := Aside0.mk H
   clear H
   have hcz5_0 : w3.cell? ⟨gb267, 0, none⟩ = some (.slice A0_0 l0_0.length c0_0) := (blk_cell BK267.out 0).trans rfl
   have hcz5_1 : w3.cell? ⟨gb267, 1, none⟩ = some (.slice A0_1 l0_1.length c0_1) := (blk_cell BK267.out 1).trans rfl
   have hcz5_2 : w3.cell? ⟨gb267, 2, none⟩ = some (.slice A0_2 l0_2.length c0_2) := (blk_cell BK267.out 2).trans rfl
   have hfz5_0 := blk_frozen BK267.out 0
   have hfz5_1 := blk_frozen BK267.out 1
   have hfz5_2 := blk_frozen BK267.out 2
   go_wp2
   go_meet
   case rel => exact ⟨_, (true), (by first | rfl | (simp; done) | (simp [*]; done)), H', ⟨by first | omega | exact Nat.le_refl _⟩, ⟨by (with_reducible repeat (first | refine blk_drewN ?_ _ | refine blk_drew ?_ | refine blk_alloc ?_ _)); exact BK267.out⟩, ⟨by repeat (first | (with_reducible first | exact HB.out | apply below_alloc | apply pw_below_drewN | apply below_drew1 | refine below_set ?_ GE267.out) | exact HB.out)⟩⟩
  rw [if_neg c4] at H
  have c4b0 : decide (70 < (l0_0.length : Int)) = false := decide_eq_false c4
  have c4b1 : decide (70 < l0_0.length) = false := decide_eq_false (by omega)
  clear c4
  (first | rw [c4b0] | (simp only [i64_w, i32_w]; rw [c4b0]) | skip)
  by_cases c6 : (l0_1.length : Int) > 210
  ·
   rw [if_pos c6] at H
   have c6b0 : decide (210 < (l0_1.length : Int)) = true := decide_eq_true c6
   have c6b1 : decide (210 < l0_1.length) = true := decide_eq_true (by omega)
   clear c6
   have H' := Aside0.mk H
   clear H
   have hcz7_0 : w3.cell? ⟨gb267, 0, none⟩ = some (.slice A0_0 l0_0.length c0_0) := (blk_cell BK267.out 0).trans rfl
   have hcz7_1 : w3.cell? ⟨gb267, 1, none⟩ = some (.slice A0_1 l0_1.length c0_1) := (blk_cell BK267.out 1).trans rfl
   have hcz7_2 : w3.cell? ⟨gb267, 2, none⟩ = some (.slice A0_2 l0_2.length c0_2) := (blk_cell BK267.out 2).trans rfl
   have hfz7_0 := blk_frozen BK267.out 0
   have hfz7_1 := blk_frozen BK267.out 1
   have hfz7_2 := blk_frozen BK267.out 2
   go_wp2
   go_meet
   case rel => exact ⟨_, (true), (by first | rfl | (simp; done) | (simp [*]; done)), H', ⟨by first | omega | exact Nat.le_refl _⟩, ⟨by (with_reducible repeat (first | refine blk_drewN ?_ _ | refine blk_drew ?_ | refine blk_alloc ?_ _)); exact BK267.out⟩, ⟨by repeat (first | (with_reducible first | exact HB.out | apply below_alloc | apply pw_below_drewN | apply below_drew1 | refine below_set ?_ GE267.out) | exact HB.out)⟩⟩
  rw [if_neg c6] at H
  have c6b0 : decide (210 < (l0_1.length : Int)) = false := decide_eq_false c6
  have c6b1 : decide (210 < l0_1.length) = false := decide_eq_false (by omega)
  clear c6
  have H' := Aside0.mk H
  clear H
  have hcz8_0 : w3.cell? ⟨gb267, 0, none⟩ = some (.slice A0_0 l0_0.length c0_0) := (blk_cell BK267.out 0).trans rfl
  have hcz8_1 : w3.cell? ⟨gb267, 1, none⟩ = some (.slice A0_1 l0_1.length c0_1) := (blk_cell BK267.out 1).trans rfl
  have hcz8_2 : w3.cell? ⟨gb267, 2, none⟩ = some (.slice A0_2 l0_2.length c0_2) := (blk_cell BK267.out 2).trans rfl
  have hfz8_0 := blk_frozen BK267.out 0
  have hfz8_1 := blk_frozen BK267.out 1
  have hfz8_2 := blk_frozen BK267.out 2
  go_wp2
  go_meet
  case rel => exact ⟨_, (decide ((l0_2.length : Int) > 70)), (by first | rfl | (simp; done) | (simp [*]; done)), H', ⟨by first | omega | exact Nat.le_refl _⟩, ⟨by (with_reducible repeat (first | refine blk_drewN ?_ _ | refine blk_drew ?_ | refine blk_alloc ?_ _)); exact BK267.out⟩, ⟨by repeat (first | (with_reducible first | exact HB.out | apply below_alloc | apply pw_below_drewN | apply below_drew1 | refine below_set ?_ GE267.out) | exact HB.out)⟩⟩
 case rest =>
  clear HC2
  try clear c2
  try clear p2
  try clear c4
  try clear c4b0
  try clear c4b1
  try clear c6
  try clear c6b0
  try clear c6b1
  try clear hcz5_0
  try clear hcz5_1
  try clear hcz5_2
  try clear hcz7_0
  try clear hcz7_1
  try clear hcz7_2
  try clear hcz8_0
  try clear hcz8_1
  try clear hcz8_2
  try clear hfz5_0
  try clear hfz5_1
  try clear hfz5_2
  try clear hfz7_0
  try clear hfz7_1
  try clear hfz7_2
  try clear hfz8_0
  try clear hfz8_1
  try clear hfz8_2
  obtain ⟨kq, x19_1, rfl, HA, HJ1, BK267, HB⟩ := hcut
  cases kq with
  | zero => exact absurd HA.out (by simp [laganlaw04_wide.j0])
  | succ kj1 =>
   have H := HA.out
   clear HA
   simp only [laganlaw04_wide.j0] at H
   by_cases c9 : x19_1 = true
   ·
    subst c9
    have H1 : (some false) = some r := by rw [if_pos rfl] at H; exact H
    clear H
    have H := H1
    clear H1
    obtain rfl := Option.some.inj H
    go_wp2
    go_ret
    exact ⟨by first | rfl | (simp [errW_none, errW_some] <;> rfl) | (simp [*, errW_none, errW_some] <;> rfl), by repeat (first | (with_reducible first | exact HB.out | apply below_alloc | apply pw_below_drewN | apply below_drew1 | refine below_set ?_ GE267.out) | exact HB.out)⟩
   replace c9 := Bool.eq_false_iff.mpr c9
   subst c9
   have H1 : (laganlaw04_wide.l0 kj1 0 l0_0 l0_1 l0_2) = some r := by rw [if_neg (show ¬ (false = true) by decide)] at H; exact H
   clear H
   have H := H1
   clear H1
   have H' := Aside0.mk H
   clear H
   go_wp2
   go_loopg [3] kj1 (fun kq v3 w' => ∃ (x3_2 : Int), v3 = .int .i64 x3_2 ∧ Aside0 (laganlaw04_wide.l0 kq x3_2 l0_0 l0_1 l0_2 = some r) ∧ Aside0 (kq ≤ kj1) ∧ Aside0 (w'.heap[gb267]? = some (.cells #[(.slice A0_0 l0_0.length c0_0), (.slice A0_1 l0_1.length c0_1), (.slice A0_2 l0_2.length c0_2)] 26 (0, 0))) ∧ Aside0 (Below w.heap.size w w'))
   case atStart => exact ⟨(0), (by first | rfl | (simp; done) | (simp [*]; done)), H', ⟨Nat.le_refl _⟩, ⟨by (with_reducible repeat (first | refine blk_drewN ?_ _ | refine blk_drew ?_ | refine blk_alloc ?_ _)); exact BK267.out⟩, ⟨by repeat (first | (with_reducible first | exact HB.out | apply below_alloc | apply pw_below_drewN | apply below_drew1 | refine below_set ?_ GE267.out) | exact HB.out)⟩⟩
   clear H'
   try clear c2
   try clear p2
   try clear c4
   try clear c4b0
   try clear c4b1
   try clear c6
   try clear c6b0
   try clear c6b1
   try clear c9
   try clear hcz5_0
   try clear hcz5_1
   try clear hcz5_2
   try clear hcz7_0
   try clear hcz7_1
   try clear hcz7_2
   try clear hcz8_0
   try clear hcz8_1
   try clear hcz8_2
   try clear hfz5_0
   try clear hfz5_1
   try clear hfz5_2
   try clear hfz7_0
   try clear hfz7_1
   try clear hfz7_2
   try clear hfz8_0
   try clear hfz8_1
   try clear hfz8_2
   try clear p2
   obtain ⟨x3_2, rfl, HA, HK2, BK267, HB⟩ := hrel
   cases gk with
   | zero => exact absurd HA.out (by simp [laganlaw04_wide.l0])
   | succ k2 =>
    have H := HA.out
    clear HA
    simp only [laganlaw04_wide.l0] at H
    by_cases c10 : x3_2 < (l0_2.length : Int)
    ·
     rw [if_pos c10] at H
     have c10b0 : decide (x3_2 < (l0_2.length : Int)) = true := decide_eq_true c10
     clear c10
     by_cases c11 : 0 ≤ x3_2
     rotate_left
     ·
      rw [if_neg c11] at H
      exact absurd H (by simp)
     rw [if_pos c11] at H
     have c11b0 : decide (0 ≤ x3_2) = true := decide_eq_true c11
     clear c11
     by_cases c12 : ((rd_L1 l0_2 x3_2).length : Int) > 60
     ·
      rw [if_pos c12] at H
      have c12b0 : decide (60 < ((rd_L1 l0_2 x3_2).length : Int)) = true := decide_eq_true c12
      have c12b1 : decide (60 < (rd_L1 l0_2 x3_2).length) = true := decide_eq_true (by omega)
      clear c12
      obtain rfl := Option.some.inj H
      have hcz13_0 : wr.cell? ⟨gb267, 0, none⟩ = some (.slice A0_0 l0_0.length c0_0) := (blk_cell BK267.out 0).trans rfl
      have hcz13_1 : wr.cell? ⟨gb267, 1, none⟩ = some (.slice A0_1 l0_1.length c0_1) := (blk_cell BK267.out 1).trans rfl
      have hcz13_2 : wr.cell? ⟨gb267, 2, none⟩ = some (.slice A0_2 l0_2.length c0_2) := (blk_cell BK267.out 2).trans rfl
      have hfz13_0 := blk_frozen BK267.out 0
      have hfz13_1 := blk_frozen BK267.out 1
      have hfz13_2 := blk_frozen BK267.out 2
      have p268 : 0 ≤ (x3_2 : Int) := of_decide_eq_true (by first | (with_reducible assumption) | assumption)
      have q268 : x3_2 < (l0_2.length : Int) := of_decide_eq_true (by first | (with_reducible assumption) | assumption)
      obtain ⟨ad268, A268_0, c268_0, e268, hx268_0, hl268_0, hi268_0⟩ := at_L1 HR0_2.out x3_2 p268 q268
      cases e268
      replace hx268_0 := (HB.out.cell (World.block_lt_of_cell? w _ hx268_0)).trans hx268_0
      have HR268_0 := Aside0.mk hi268_0
      have HC268_0 := Aside0.mk hl268_0
      clear hi268_0 hl268_0
      replace p268 := eq_true p268
      replace q268 := eq_true q268
      go_wp2
      go_ret
      exact ⟨by first | rfl | (simp [errW_none, errW_some] <;> rfl) | (simp [*, errW_none, errW_some] <;> rfl), by repeat (first | (with_reducible first | exact HB.out | apply below_alloc | apply pw_below_drewN | apply below_drew1 | refine below_set ?_ GE267.out) | exact HB.out)⟩
     rw [if_neg c12] at H
     have c12b0 : decide (60 < ((rd_L1 l0_2 x3_2).length : Int)) = false := decide_eq_false c12
     have c12b1 : decide (60 < (rd_L1 l0_2 x3_2).length) = false := decide_eq_false (by omega)
     clear c12
     have H' := Aside0.mk H
     clear H
     have hcz14_0 : wr.cell? ⟨gb267, 0, none⟩ = some (.slice A0_0 l0_0.length c0_0) := (blk_cell BK267.out 0).trans rfl
     have hcz14_1 : wr.cell? ⟨gb267, 1, none⟩ = some (.slice A0_1 l0_1.length c0_1) := (blk_cell BK267.out 1).trans rfl
     have hcz14_2 : wr.cell? ⟨gb267, 2, none⟩ = some (.slice A0_2 l0_2.length c0_2) := (blk_cell BK267.out 2).trans rfl
     have hfz14_0 := blk_frozen BK267.out 0
     have hfz14_1 := blk_frozen BK267.out 1
     have hfz14_2 := blk_frozen BK267.out 2
     have p268 : 0 ≤ (x3_2 : Int) := of_decide_eq_true (by first | (with_reducible assumption) | assumption)
     have q268 : x3_2 < (l0_2.length : Int) := of_decide_eq_true (by first | (with_reducible assumption) | assumption)
     obtain ⟨ad268, A268_0, c268_0, e268, hx268_0, hl268_0, hi268_0⟩ := at_L1 HR0_2.out x3_2 p268 q268
     cases e268
     replace hx268_0 := (HB.out.cell (World.block_lt_of_cell? w _ hx268_0)).trans hx268_0
     have HR268_0 := Aside0.mk hi268_0
     have HC268_0 := Aside0.mk hl268_0
     clear hi268_0 hl268_0
     replace p268 := eq_true p268
     replace q268 := eq_true q268
     go_wp2
     go_roundg k2
     case measure => have := HJ1.out; have := HK2.out; omega
     case rel => exact ⟨(wrap64 (x3_2 + 1)), (by first | rfl | (simp; done) | (simp [*]; done)), H', ⟨by have := HJ1.out; have := HK2.out; omega⟩, ⟨by (with_reducible repeat (first | refine blk_drewN ?_ _ | refine blk_drew ?_ | refine blk_alloc ?_ _)); exact BK267.out⟩, ⟨by repeat (first | (with_reducible first | exact HB.out | apply below_alloc | apply pw_below_drewN | apply below_drew1 | refine below_set ?_ GE267.out) | exact HB.out)⟩⟩
    rw [if_neg c10] at H
    have c10b0 : decide (x3_2 < (l0_2.length : Int)) = false := decide_eq_false c10
    clear c10
    by_cases c15 : (l0_0.length : Int) ≤ 30
    rotate_left
    ·
     rw [if_neg c15] at H
     have c15b0 : decide ((l0_0.length : Int) ≤ 30) = false := decide_eq_false c15
     have c15b1 : decide (l0_0.length ≤ 30) = false := decide_eq_false (by omega)
     clear c15
     by_cases c21 : (l0_0.length : Int) > 60
     ·
      rw [if_pos c21] at H
      have c21b0 : decide (60 < (l0_0.length : Int)) = true := decide_eq_true c21
      have c21b1 : decide (60 < l0_0.length) = true := decide_eq_true (by omega)
      clear c21
      obtain rfl := Option.some.inj H
      have hcz22_0 : wr.cell? ⟨gb267, 0, none⟩ = some (.slice A0_0 l0_0.length c0_0) := (blk_cell BK267.out 0).trans rfl
      have hcz22_1 : wr.cell? ⟨gb267, 1, none⟩ = some (.slice A0_1 l0_1.length c0_1) := (blk_cell BK267.out 1).trans rfl
      have hcz22_2 : wr.cell? ⟨gb267, 2, none⟩ = some (.slice A0_2 l0_2.length c0_2) := (blk_cell BK267.out 2).trans rfl
      have hfz22_0 := blk_frozen BK267.out 0
      have hfz22_1 := blk_frozen BK267.out 1
      have hfz22_2 := blk_frozen BK267.out 2
      go_wp2
      go_ret
      exact ⟨by first | rfl | (simp [errW_none, errW_some] <;> rfl) | (simp [*, errW_none, errW_some] <;> rfl), by repeat (first | (with_reducible first | exact HB.out | apply below_alloc | apply pw_below_drewN | apply below_drew1 | refine below_set ?_ GE267.out) | exact HB.out)⟩
     rw [if_neg c21] at H
     have c21b0 : decide (60 < (l0_0.length : Int)) = false := decide_eq_false c21
     have c21b1 : decide (60 < l0_0.length) = false := decide_eq_false (by omega)
     clear c21
     obtain rfl := Option.some.inj H
     have hcz23_0 : wr.cell? ⟨gb267, 0, none⟩ = some (.slice A0_0 l0_0.length c0_0) := (blk_cell BK267.out 0).trans rfl
     have hcz23_1 : wr.cell? ⟨gb267, 1, none⟩ = some (.slice A0_1 l0_1.length c0_1) := (blk_cell BK267.out 1).trans rfl
     have hcz23_2 : wr.cell? ⟨gb267, 2, none⟩ = some (.slice A0_2 l0_2.length c0_2) := (blk_cell BK267.out 2).trans rfl
     have hfz23_0 := blk_frozen BK267.out 0
     have hfz23_1 := blk_frozen BK267.out 1
     have hfz23_2 := blk_frozen BK267.out 2
     go_wp2
     go_ret
     exact ⟨by first | rfl | (simp [errW_none, errW_some] <;> rfl) | (simp [*, errW_none, errW_some] <;> rfl), by repeat (first | (with_reducible first | exact HB.out | apply below_alloc | apply pw_below_drewN | apply below_drew1 | refine below_set ?_ GE267.out) | exact HB.out)⟩
    rw [if_pos c15] at H
    have c15b0 : decide ((l0_0.length : Int) ≤ 30) = true := decide_eq_true c15
    have c15b1 : decide (l0_0.length ≤ 30) = true := decide_eq_true (by omega)
    clear c15
    by_cases c16 : (l0_1.length : Int) ≤ 40
    ·
     rw [if_pos c16] at H
     have c16b0 : decide ((l0_1.length : Int) ≤ 40) = true := decide_eq_true c16
     have c16b1 : decide (l0_1.length ≤ 40) = true := decide_eq_true (by omega)
     clear c16
     obtain rfl := Option.some.inj H
     have hcz17_0 : wr.cell? ⟨gb267, 0, none⟩ = some (.slice A0_0 l0_0.length c0_0) := (blk_cell BK267.out 0).trans rfl
     have hcz17_1 : wr.cell? ⟨gb267, 1, none⟩ = some (.slice A0_1 l0_1.length c0_1) := (blk_cell BK267.out 1).trans rfl
     have hcz17_2 : wr.cell? ⟨gb267, 2, none⟩ = some (.slice A0_2 l0_2.length c0_2) := (blk_cell BK267.out 2).trans rfl
     have hfz17_0 := blk_frozen BK267.out 0
     have hfz17_1 := blk_frozen BK267.out 1
     have hfz17_2 := blk_frozen BK267.out 2
     go_wp2
     go_ret
     exact ⟨by first | rfl | (simp [errW_none, errW_some] <;> rfl) | (simp [*, errW_none, errW_some] <;> rfl), by repeat (first | (with_reducible first | exact HB.out | apply below_alloc | apply pw_below_drewN | apply below_drew1 | refine below_set ?_ GE267.out) | exact HB.out)⟩
    rw [if_neg c16] at H
    have c16b0 : decide ((l0_1.length : Int) ≤ 40) = false := decide_eq_false c16
    have c16b1 : decide (l0_1.length ≤ 40) = false := decide_eq_false (by omega)
    clear c16
    by_cases c18 : (l0_0.length : Int) > 60
    ·
     rw [if_pos c18] at H
     have c18b0 : decide (60 < (l0_0.length : Int)) = true := decide_eq_true c18
     have c18b1 : decide (60 < l0_0.length) = true := decide_eq_true (by omega)
     clear c18
     obtain rfl := Option.some.inj H
     have hcz19_0 : wr.cell? ⟨gb267, 0, none⟩ = some (.slice A0_0 l0_0.length c0_0) := (blk_cell BK267.out 0).trans rfl
     have hcz19_1 : wr.cell? ⟨gb267, 1, none⟩ = some (.slice A0_1 l0_1.length c0_1) := (blk_cell BK267.out 1).trans rfl
     have hcz19_2 : wr.cell? ⟨gb267, 2, none⟩ = some (.slice A0_2 l0_2.length c0_2) := (blk_cell BK267.out 2).trans rfl
     have hfz19_0 := blk_frozen BK267.out 0
     have hfz19_1 := blk_frozen BK267.out 1
     have hfz19_2 := blk_frozen BK267.out 2
     go_wp2
     go_ret
     exact ⟨by first | rfl | (simp [errW_none, errW_some] <;> rfl) | (simp [*, errW_none, errW_some] <;> rfl), by repeat (first | (with_reducible first | exact HB.out | apply below_alloc | apply pw_below_drewN | apply below_drew1 | refine below_set ?_ GE267.out) | exact HB.out)⟩
    rw [if_neg c18] at H
    have c18b0 : decide (60 < (l0_0.length : Int)) = false := decide_eq_false c18
    have c18b1 : decide (60 < l0_0.length) = false := decide_eq_false (by omega)
    clear c18
    obtain rfl := Option.some.inj H
    have hcz20_0 : wr.cell? ⟨gb267, 0, none⟩ = some (.slice A0_0 l0_0.length c0_0) := (blk_cell BK267.out 0).trans rfl
    have hcz20_1 : wr.cell? ⟨gb267, 1, none⟩ = some (.slice A0_1 l0_1.length c0_1) := (blk_cell BK267.out 1).trans rfl
    have hcz20_2 : wr.cell? ⟨gb267, 2, none⟩ = some (.slice A0_2 l0_2.length c0_2) := (blk_cell BK267.out 2).trans rfl
    have hfz20_0 := blk_frozen BK267.out 0
    have hfz20_1 := blk_frozen BK267.out 1
    have hfz20_2 := blk_frozen BK267.out 2
    go_wp2
    go_ret
    exact ⟨by first | rfl | (simp [errW_none, errW_some] <;> rfl) | (simp [*, errW_none, errW_some] <;> rfl), by repeat (first | (with_reducible first | exact HB.out | apply below_alloc | apply pw_below_drewN | apply below_drew1 | refine below_set ?_ GE267.out) | exact HB.out)⟩
end Go.Proofs.Ytkmmihadcbfkoaa.PM
end

section
namespace Go.Proofs.Ytkmmihadcbfkoaa
open PM
def inB (n a b : Int) : Bool := decide (a ≤ n) && decide (n ≤ b)
/-- Rising at place i. -/
def risAt (l : List Int) (a b : Int) (i : Nat) : Bool := inB (l.getD i 0) a b && (decide (i = 0) || decide (l.getD (i - 1) 0 < l.getD i 0))
def risB (l : List Int) (a b : Int) : Bool := (List.range l.length).all (risAt l a b)
def slotKey (s : S50) : Int × Int × Int := (s.f0, s.f1, 0)
def slotIn (s : S50) : Bool := inB s.f0 1 20 && inB s.f1 1 200 && inB s.f2 1 20
/-- A slot that comes before the one ahead of it. -/
def slotBack (S : List S50) (k : Nat) : Bool := decide (0 < k) && (decide ((S.getD k z50).f0 < (S.getD (k - 1) z50).f0) || decide ((S.getD k z50).f0 = (S.getD (k - 1) z50).f0) && decide ((S.getD k z50).f1 < (S.getD (k - 1) z50).f1))
def slotAt (S : List S50) (k : Nat) : Bool := slotIn (S.getD k z50) && !(decide (slotKey (S.getD k z50) ∈ (S.take k).map slotKey)) && !slotBack S k
def slotsB (S : List S50) : Bool := (List.range S.length).all (slotAt S)
def fitsB (S : List S50) (T : List (List Int)) : Bool := T.all fun l => risB l 0 ((S.length : Int) - 1)
def checkB (F : List Int) (S : List S50) (T : List (List Int)) : Int :=
 if 60 < F.length ∨ 200 < S.length then 2
 else if risB F 10 10000007 = false ∨ T.length ≠ F.length then 1
 else if slotsB S = false then 1
 else if fitsB S T = false then 1 else 0
theorem all_range_step {p : Nat → Bool} {n k : Nat} (hk : k < n) : ((List.range n).drop k).all p = (p k && ((List.range n).drop (k + 1)).all p) := by
 rw [List.drop_eq_getElem_cons (by simpa using hk)]
 simp
end Go.Proofs.Ytkmmihadcbfkoaa
end

section
namespace Go.Proofs.Ytkmmihadcbfkoaa.PM
open Go.RowKit Go.Proofs.YtkmmihadcbfkoaaW.PrintWords Go.Proofs.YtkmmihadcbfkoaaW.PrintLast Go.Proofs.YtkmmihadcbfkoaaW.PrintMore
set_option linter.unusedVariables false
set_option linter.unusedSimpArgs false
def match_copied_int_53.f (l0 : List (List Int)) : Option ((List (List Int))) := (some (([] : List (List Int)) : List (List Int))).bind fun y496 => (if y496.length + l0.length < 5864062014805 then (some (y496 ++ l0)) else (none))
set_option maxHeartbeats 8000000 in
set_option maxRecDepth 100000 in
theorem match_copied_int_53.calls (P0_ : Nat → Prop) (A0 : Option Addr) (c0 : Nat) (l0 : List (List Int)) (r : List (List Int)) (w : World) (hs0 : Kd.V (Kd.slice 3 (Kd.int .i64)) 22 w w.heap.size (fun k_ => P0_ k_) (.slice A0 l0.length c0) l0) (h : match_copied_int_53.f l0 = some r) :
  Calls Try.prog 53 #[.slice A0 l0.length c0] w fun e w' => ∃ v0_ : Value, e = .returned (v0_) ∧ Kd.N (Kd.slice 3 (Kd.int .i64)) 22 w' w.heap.size (fun k_ => (P0_ k_ ∨ w.heap.size ≤ k_)) v0_ r ∧ Below w.heap.size w w' := by
 have HO0 := Aside0.mk (show Kd.V (Kd.slice 3 (Kd.int .i64)) 22 w w.heap.size (fun k_ => (P0_ k_ ∨ w.heap.size ≤ k_)) (.slice A0 l0.length c0) l0 from Kd.V_mono hs0 (fun k_ hk => .inl hk))
 have HB := Aside0.mk (Below.refl w.heap.size w)
 have H : ((some (([] : List (List Int)) : List (List Int))).bind fun y496 => (if y496.length + l0.length < 5864062014805 then (some (y496 ++ l0)) else (none))) = some r := h
 clear h
 obtain ⟨y496, hy496⟩ : ∃ y_ : List (List Int), y_ = (([] : List (List Int))) := ⟨_, rfl⟩
 replace H : (if y496.length + l0.length < 5864062014805 then (some (y496 ++ l0)) else (none)) = some r := by first | (rw [hy496]; with_reducible exact H) | (have H2_ := (Option.bind_some _ _).symm.trans H; rw [hy496]; with_reducible exact H2_) | (have H2_ := (Option.bind_some _ _).symm.trans H; with_reducible exact H2_) | with_reducible exact H | (rw [hy496]; exact H) | exact H
 have Ny496 := Aside0.mk hy496
 clear hy496
 by_cases c2 : y496.length + l0.length < 5864062014805
 rotate_left
 ·
  rw [if_neg c2] at H
  exact absurd H (by simp)
 rw [if_pos c2] at H
 have LMc2 := Aside0.mk c2
 clear c2
 obtain ⟨y499, hy499⟩ : ∃ y_ : List (List Int), y_ = (y496 ++ l0) := ⟨_, rfl⟩
 replace H : (some y499) = some r := by first | (rw [hy499]; with_reducible exact H) | (have H2_ := (Option.bind_some _ _).symm.trans H; rw [hy499]; with_reducible exact H2_) | (have H2_ := (Option.bind_some _ _).symm.trans H; with_reducible exact H2_) | with_reducible exact H | (rw [hy499]; exact H) | exact H
 have Ny499 := Aside0.mk hy499
 clear hy499
 obtain rfl := Option.some.inj H
 go_enter Try.func53, Try.ntmps53
 go_wp2_with (first | ((with_reducible refine gate_dst (N := 3) rfl ?_); refine Kd.N_lit (Kd.slice 3 (Kd.int .i64)) _ 22 ?hg (N' := 3) ?hd (xs := ([] : List (List Int))) (inner := []) (ok := (fun k_ => (P0_ k_ ∨ w.heap.size ≤ k_))) (okp := (fun k_ => (P0_ k_ ∨ w.heap.size ≤ k_))) ?hr ?hp (fun _ hk => hk) ((show ∀ k_, w.heap.size ≤ k_ → (fun k_ => (P0_ k_ ∨ w.heap.size ≤ k_)) k_ from fun k_ hk => (.inr (Nat.le_trans (below_size (by repeat (first | (with_reducible first | exact HB.out | apply below_alloc | apply pw_below_drewN | apply below_drew1) | exact HB.out))) hk))) _ (Nat.le_refl _)) (Below.refl _ _) (Nat.le_refl _) (by simp) ?_; (case hd => rfl); (case hg => rfl); (case hr => first | (go_simp; done) | (go_simp; rfl)); (case hp => exact (Reps.none _ _)); intro v497 w3 ho4 hb hg_ hnew_; clear hg_ hnew_; (first | rw [← Ny496.out] at ho4 | (simp only [Int.reduceToNat] at ho4; rw [← Ny496.out] at ho4)); have n0_ := Aside0.mk (Kd.V_elder' (by (with_reducible repeat (first | apply Kd.V_alloc | apply Kd.V_drewN | apply Kd.V_drew)); exact HO0.out) (Kd.N_base ho4) hb); have n1_ := Aside0.mk (Kd.N_lower ho4 (below_size (by repeat (first | (with_reducible first | exact HB.out | apply below_alloc | apply pw_below_drewN | apply below_drew1) | exact HB.out)))); have n2_ := Aside0.mk (below_step (by repeat (first | (with_reducible first | exact HB.out | apply below_alloc | apply pw_below_drewN | apply below_drew1) | exact HB.out)) hb); clear HO0; clear HB; have HO0 := n0_; have HO498 := n1_; have HB := n2_; clear n0_ n1_ n2_; clear hb ho4) | ((with_reducible refine gate_builtin (b := .append) (xs := #[.tmp 3, .tmp 4]) rfl ?_); at_builtin; refine Kd.N_append_rows (Kd.slice 3 (Kd.int .i64)) (w0 := w) w.heap.size rfl (.tmp 3) (.tmp 4) 24 22 (.slice none 0 0) 24 rfl Try.underlying24 info22 rfl (by decide) (by omega) v497 y496 l0 _ _ _ (fun k_ => (P0_ k_ ∨ w.heap.size ≤ k_)) (fun k_ => ((fun k_ => (P0_ k_ ∨ w.heap.size ≤ k_))) k_ ∧ some k_ ≠ (v497 : Value).ownBlock) rfl rfl ?aO ?aR (fun _ hk => hk) ?aF ?aB ?aS ?aL ?_; (case aR => exact (by skip; exact Kd.V_F (Kd.V_mono (ok' := (fun k_ => ((fun k_ => (P0_ k_ ∨ w.heap.size ≤ k_))) k_ ∧ some k_ ≠ (v497 : Value).ownBlock)) (HO0.out) (fun k_ hk => ⟨hk.1, hk.2⟩)))); (case aB => exact (by repeat (first | (with_reducible first | exact HB.out | apply below_alloc | apply pw_below_drewN | apply below_drew1) | exact HB.out))); (case aF => exact (fun k_ hk => (.inr (Nat.le_trans (below_size (by repeat (first | (with_reducible first | exact HB.out | apply below_alloc | apply pw_below_drewN | apply below_drew1) | exact HB.out))) hk)))); (case aO => exact (by (with_reducible repeat (first | apply Kd.N_alloc | apply Kd.N_drewN | apply Kd.N_drew)); exact HO498.out)); (case aS => exact (below_size (by repeat (first | (with_reducible first | exact HB.out | apply below_alloc | apply pw_below_drewN | apply below_drew1) | exact HB.out)))); (case aL => have := LMc2.out; omega); intro v500 w5 ho hb hg hat; rw [← Ny499.out] at ho; have n0_ := Aside0.mk (Kd.V_afterv (ok := (fun k_ => (P0_ k_ ∨ w.heap.size ≤ k_))) (by (with_reducible repeat (first | apply Kd.V_alloc | apply Kd.V_drewN | apply Kd.V_drew)); exact HO0.out) hg hat); have n1_ := Aside0.mk (hb); have n2_ := Aside0.mk (ho); clear HO0; clear HB; clear HO498; have HO0 := n0_; have HB := n1_; have HO501 := n2_; clear n0_ n1_ n2_; clear ho hb hg hat))
 go_ret
 exact ⟨_, by first | rfl | (simp [errW_none, errW_some] <;> rfl) | (simp [*, errW_none, errW_some] <;> rfl), by (with_reducible repeat (first | apply Kd.N_alloc | apply Kd.N_drewN | apply Kd.N_drew)); exact HO501.out, by repeat (first | (with_reducible first | exact HB.out | apply below_alloc | apply pw_below_drewN | apply below_drew1) | exact HB.out)⟩
def slices_Index_int_int.l0 : Nat → List Int → Int → Int → Int → Option (Int)
 | 0, _, _, _, _ => none
 | k + 1, x0, x1, x7, x8 => if x8 < x7 then (if 0 ≤ x8 then (if x8 < (x0.length : Int) then (if x1 = (rd x0 x8) then (some x8) else (slices_Index_int_int.l0 k x0 x1 x7 (wrap64 (x8 + 1)))) else (none)) else (none)) else (some (-1))
def slices_Index_int_int.f (k : Nat) (l0 : List Int) (a1 : Int) : Option (Int) := slices_Index_int_int.l0 k l0 a1 (l0.length : Int) 0
set_option maxHeartbeats 8000000 in
set_option maxRecDepth 100000 in
theorem slices_Index_int_int.calls (k : Nat) (A0 : Option Addr) (c0 : Nat) (l0 : List Int) (a1 : Int) (r : Int) (w : World) (hr0 : Kd.C (Kd.int .i64) w A0 l0.length l0) (hc0 : l0.length ≤ c0) (h : slices_Index_int_int.f k l0 a1 = some r) :
  Calls Try.prog 86 #[.slice A0 l0.length c0, .int .i64 a1] w fun e w' => e = .returned (.int .i64 r) ∧ Drawn0 w w' := by
 have HR0 := Aside0.mk hr0
 have HC0 := Aside0.mk hc0
 clear hr0 hc0
 have H : (slices_Index_int_int.l0 k l0 a1 (l0.length : Int) 0) = some r := h
 clear h
 have H' := Aside0.mk H
 clear H
 go_enter Try.func86, Try.ntmps86
 go_wp2
 go_loopg [8] k (fun kq v8 w' => ∃ (x8_1 : Int), v8 = .int .i64 x8_1 ∧ Aside0 (slices_Index_int_int.l0 kq l0 a1 (l0.length : Int) x8_1 = some r) ∧ Aside0 (kq ≤ k) ∧ Drawn0 w w')
 case atStart => exact ⟨(0), (by first | rfl | (simp; done) | (simp [*]; done)), H', ⟨Nat.le_refl _⟩, by repeat (first | exact Drawn0.refl _ | apply Drawn0.step)⟩
 clear H'
 try clear p2
 obtain ⟨x8_1, rfl, HA, HK1, ⟨m1, rfl⟩⟩ := hrel
 cases gk with
 | zero => exact absurd HA.out (by simp [slices_Index_int_int.l0])
 | succ k1 =>
  have H := HA.out
  clear HA
  simp only [slices_Index_int_int.l0] at H
  by_cases c3 : x8_1 < (l0.length : Int)
  rotate_left
  ·
   rw [if_neg c3] at H
   have c3b0 : decide (x8_1 < (l0.length : Int)) = false := decide_eq_false c3
   clear c3
   obtain rfl := Option.some.inj H
   go_wp2
   go_ret
   exact ⟨by first | rfl | (simp; done) | (simp [*]; done), by repeat (first | exact Drawn0.refl _ | apply Drawn0.step)⟩
  rw [if_pos c3] at H
  have c3b0 : decide (x8_1 < (l0.length : Int)) = true := decide_eq_true c3
  clear c3
  by_cases c4 : 0 ≤ x8_1
  rotate_left
  ·
   rw [if_neg c4] at H
   exact absurd H (by simp)
  rw [if_pos c4] at H
  have c4b0 : decide (0 ≤ x8_1) = true := decide_eq_true c4
  clear c4
  by_cases c5 : x8_1 < (l0.length : Int)
  rotate_left
  ·
   rw [if_neg c5] at H
   exact absurd H (by simp)
  rw [if_pos c5] at H
  have c5b0 : decide (x8_1 < (l0.length : Int)) = true := decide_eq_true c5
  clear c5
  by_cases c6 : a1 = (rd l0 x8_1)
  ·
   rw [if_pos c6] at H
   have c6b0 : (a1 == (rd l0 x8_1)) = true := beq_iff_eq.mpr c6
   have c6b1 : (a1 != (rd l0 x8_1)) = false := bne_eq_false_iff_eq.mpr c6
   clear c6
   obtain rfl := Option.some.inj H
   have p502 : 0 ≤ (x8_1 : Int) := of_decide_eq_true (by first | (with_reducible assumption) | assumption)
   have q502 : x8_1 < (l0.length : Int) := of_decide_eq_true (by first | (with_reducible assumption) | assumption)
   obtain ⟨ad502, e502, hx502_0⟩ := Kd.at_int HR0.out x8_1 p502 q502
   cases e502
   replace p502 := eq_true p502
   replace q502 := eq_true q502
   go_wp2
   go_ret
   exact ⟨by first | rfl | (simp; done) | (simp [*]; done), by repeat (first | exact Drawn0.refl _ | apply Drawn0.step)⟩
  rw [if_neg c6] at H
  have c6b0 : (a1 == (rd l0 x8_1)) = false := beq_eq_false_iff_ne.mpr c6
  have c6b1 : (a1 != (rd l0 x8_1)) = true := bne_iff_ne.mpr c6
  have H' := Aside0.mk H
  clear H
  have p502 : 0 ≤ (x8_1 : Int) := of_decide_eq_true (by first | (with_reducible assumption) | assumption)
  have q502 : x8_1 < (l0.length : Int) := of_decide_eq_true (by first | (with_reducible assumption) | assumption)
  obtain ⟨ad502, e502, hx502_0⟩ := Kd.at_int HR0.out x8_1 p502 q502
  cases e502
  replace p502 := eq_true p502
  replace q502 := eq_true q502
  go_wp2
  go_roundg k1
  case measure => have := HK1.out; omega
  case rel => exact ⟨(wrap64 (x8_1 + 1)), (by first | rfl | (simp; done) | (simp [*]; done)), H', ⟨by have := HK1.out; omega⟩, by repeat (first | exact Drawn0.refl _ | apply Drawn0.step)⟩
def slices_Contains_int_int.f (k : Nat) (l0 : List Int) (a1 : Int) : Option (Bool) := (slices_Index_int_int.f k l0 a1).bind fun t503 => (some (decide (t503 ≥ 0)))
set_option maxHeartbeats 8000000 in
set_option maxRecDepth 100000 in
theorem slices_Contains_int_int.calls (k : Nat) (A0 : Option Addr) (c0 : Nat) (l0 : List Int) (a1 : Int) (r : Bool) (w : World) (hr0 : Kd.C (Kd.int .i64) w A0 l0.length l0) (hc0 : l0.length ≤ c0) (h : slices_Contains_int_int.f k l0 a1 = some r) :
  Calls Try.prog 59 #[.slice A0 l0.length c0, .int .i64 a1] w fun e w' => e = .returned (.bool r) ∧ Drawn0 w w' := by
 have HR0 := Aside0.mk hr0
 have HC0 := Aside0.mk hc0
 clear hr0 hc0
 have H : ((slices_Index_int_int.f k l0 a1).bind fun t503 => (some (decide (t503 ≥ 0)))) = some r := h
 clear h
 replace H := Option.bind_eq_some_iff.mp H
 obtain ⟨t503, A30, H⟩ := H
 replace H : (some (decide (t503 ≥ 0))) = some r := H
 have A3 := Aside0.mk A30
 clear A30
 obtain rfl := Option.some.inj H
 go_enter Try.func59, Try.ntmps59
 go_wp2_with (first | ((with_reducible refine gate_callee (f := 86) rfl ?_); refine goesL_ (some 7) rfl rfl Try.func86 (by kernel_rfl) rfl #[.slice A0 l0.length c0, .int .i64 a1] rfl (by (try simp only [List.map_toArray, List.map_cons, List.map_nil]); first | done | rfl | (simp only [List.length_drop, List.length_take]; rfl)) ?_; (with_reducible refine (slices_Index_int_int.calls k _ _ l0 a1 t503 _ ?side1 ?side2 A3.out).mono ?_); (case side1 => repeat (first | exact HR0.out | (with_reducible refine Kd.C_alloc ?_ _) | (with_reducible refine Kd.C_drewN ?_ _) | (with_reducible refine Kd.C_drew ?_))); (case side2 => exact HC0.out); rintro e w' ⟨rfl, ⟨nd, rfl⟩⟩; refine ⟨_, rfl, ?_⟩))
 go_ret
 exact ⟨by first | rfl | (simp; done) | (simp [*]; done), by repeat (first | exact Drawn0.refl _ | apply Drawn0.step)⟩
def match_in.f (a0 : Int) (a1 : Int) (a2 : Int) : Option (Bool) := if a0 ≥ a1 then (some (decide (a0 ≤ a2))) else (some false)
set_option maxHeartbeats 8000000 in
set_option maxRecDepth 100000 in
theorem match_in.calls (a0 : Int) (a1 : Int) (a2 : Int) (r : Bool) (w : World) (h : match_in.f a0 a1 a2 = some r) :
  Calls Try.prog 82 #[.int .i64 a0, .int .i64 a1, .int .i64 a2] w fun e w' => e = .returned (.bool r) ∧ Drawn0 w w' := by
 have H : (if a0 ≥ a1 then (some (decide (a0 ≤ a2))) else (some false)) = some r := h
 clear h
 by_cases c4 : a0 ≥ a1
 ·
  rw [if_pos c4] at H
  have c4b0 : decide (a1 ≤ a0) = true := decide_eq_true c4
  clear c4
  obtain rfl := Option.some.inj H
  go_enter Try.func82, Try.ntmps82
  go_wp2
  go_ret
  exact ⟨by first | rfl | (simp; done) | (simp [*]; done), by repeat (first | exact Drawn0.refl _ | apply Drawn0.step)⟩
 rw [if_neg c4] at H
 have c4b0 : decide (a1 ≤ a0) = false := decide_eq_false c4
 clear c4
 obtain rfl := Option.some.inj H
 go_enter Try.func82, Try.ntmps82
 go_wp2
 go_ret
 exact ⟨by first | rfl | (simp; done) | (simp [*]; done), by repeat (first | exact Drawn0.refl _ | apply Drawn0.step)⟩
def match_rising.l0 : Nat → List Int → Int → Int → List Int → Int → Int → Option (Bool)
 | 0, _, _, _, _, _, _ => none
 | k + 1, x0, x1, x2, x9, x10, x11 => if x11 < x10 then (if 0 ≤ x11 then (if x11 < (x9.length : Int) then ((match_in.f (rd x9 x11) x1 x2).bind fun t505 => (if t505 = true then (if x11 > 0 then (if 0 ≤ (wrap64 (x11 - 1)) then (if (wrap64 (x11 - 1)) < (x0.length : Int) then (if (rd x0 (wrap64 (x11 - 1))) ≥ (rd x9 x11) then (some false) else (match_rising.l0 k x0 x1 x2 x9 x10 (wrap64 (x11 + 1)))) else (none)) else (none)) else (match_rising.l0 k x0 x1 x2 x9 x10 (wrap64 (x11 + 1)))) else (some false))) else (none)) else (none)) else (some true)
def match_rising.f (k : Nat) (l0 : List Int) (a1 : Int) (a2 : Int) : Option (Bool) := match_rising.l0 k l0 a1 a2 l0 (l0.length : Int) 0
set_option maxHeartbeats 8000000 in
set_option maxRecDepth 100000 in
theorem match_rising.calls (k : Nat) (A0 : Option Addr) (c0 : Nat) (l0 : List Int) (a1 : Int) (a2 : Int) (r : Bool) (w : World) (hr0 : Kd.C (Kd.int .i64) w A0 l0.length l0) (hc0 : l0.length ≤ c0) (h : match_rising.f k l0 a1 a2 = some r) :
  Calls Try.prog 68 #[.slice A0 l0.length c0, .int .i64 a1, .int .i64 a2] w fun e w' => e = .returned (.bool r) ∧ Drawn0 w w' := by
 have HR0 := Aside0.mk hr0
 have HC0 := Aside0.mk hc0
 clear hr0 hc0
 have H : (match_rising.l0 k l0 a1 a2 l0 (l0.length : Int) 0) = some r := h
 clear h
 have H' := Aside0.mk H
 clear H
 go_enter Try.func68, Try.ntmps68
 go_wp2
 go_loopg [11] k (fun kq v11 w' => ∃ (x11_1 : Int), v11 = .int .i64 x11_1 ∧ Aside0 (match_rising.l0 kq l0 a1 a2 l0 (l0.length : Int) x11_1 = some r) ∧ Aside0 (kq ≤ k) ∧ Drawn0 w w')
 case atStart => exact ⟨(0), (by first | rfl | (simp; done) | (simp [*]; done)), H', ⟨Nat.le_refl _⟩, by repeat (first | exact Drawn0.refl _ | apply Drawn0.step)⟩
 clear H'
 try clear p2
 obtain ⟨x11_1, rfl, HA, HK1, ⟨m1, rfl⟩⟩ := hrel
 cases gk with
 | zero => exact absurd HA.out (by simp [match_rising.l0])
 | succ k1 =>
  have H := HA.out
  clear HA
  simp only [match_rising.l0] at H
  by_cases c4 : x11_1 < (l0.length : Int)
  rotate_left
  ·
   rw [if_neg c4] at H
   have c4b0 : decide (x11_1 < (l0.length : Int)) = false := decide_eq_false c4
   clear c4
   obtain rfl := Option.some.inj H
   go_wp2
   go_ret
   exact ⟨by first | rfl | (simp; done) | (simp [*]; done), by repeat (first | exact Drawn0.refl _ | apply Drawn0.step)⟩
  rw [if_pos c4] at H
  have c4b0 : decide (x11_1 < (l0.length : Int)) = true := decide_eq_true c4
  clear c4
  by_cases c5 : 0 ≤ x11_1
  rotate_left
  ·
   rw [if_neg c5] at H
   exact absurd H (by simp)
  rw [if_pos c5] at H
  have c5b0 : decide (0 ≤ x11_1) = true := decide_eq_true c5
  clear c5
  by_cases c6 : x11_1 < (l0.length : Int)
  rotate_left
  ·
   rw [if_neg c6] at H
   exact absurd H (by simp)
  rw [if_pos c6] at H
  have c6b0 : decide (x11_1 < (l0.length : Int)) = true := decide_eq_true c6
  clear c6
  replace H := Option.bind_eq_some_iff.mp H
  obtain ⟨t505, A70, H⟩ := H
  replace H : (if t505 = true then (if x11_1 > 0 then (if 0 ≤ (wrap64 (x11_1 - 1)) then (if (wrap64 (x11_1 - 1)) < (l0.length : Int) then (if (rd l0 (wrap64 (x11_1 - 1))) ≥ (rd l0 x11_1) then (some false) else (match_rising.l0 k1 l0 a1 a2 l0 (l0.length : Int) (wrap64 (x11_1 + 1)))) else (none)) else (none)) else (match_rising.l0 k1 l0 a1 a2 l0 (l0.length : Int) (wrap64 (x11_1 + 1)))) else (some false)) = some r := H
  have A7 := Aside0.mk A70
  clear A70
  by_cases c8 : t505 = true
  rotate_left
  ·
   replace c8 := Bool.eq_false_iff.mpr c8
   subst c8
   have H1 : (some false) = some r := by rw [if_neg (show ¬ (false = true) by decide)] at H; exact H
   clear H
   have H := H1
   clear H1
   obtain rfl := Option.some.inj H
   have p504 : 0 ≤ (x11_1 : Int) := of_decide_eq_true (by first | (with_reducible assumption) | assumption)
   have q504 : x11_1 < (l0.length : Int) := of_decide_eq_true (by first | (with_reducible assumption) | assumption)
   obtain ⟨ad504, e504, hx504_0⟩ := Kd.at_int HR0.out x11_1 p504 q504
   cases e504
   replace p504 := eq_true p504
   replace q504 := eq_true q504
   go_wp2_with (first | ((with_reducible refine gate_callee (f := 82) rfl ?_); refine goesL_ (some 19) rfl rfl Try.func82 (by kernel_rfl) rfl #[.int .i64 (rd l0 x11_1), .int .i64 a1, .int .i64 a2] rfl (by (try simp only [List.map_toArray, List.map_cons, List.map_nil]); first | done | rfl | (simp only [List.length_drop, List.length_take]; rfl)) ?_; (with_reducible refine (match_in.calls (rd l0 x11_1) a1 a2 false _ A7.out).mono ?_); rintro e w' ⟨rfl, ⟨nd, rfl⟩⟩; refine ⟨_, rfl, ?_⟩))
   go_ret
   exact ⟨by first | rfl | (simp; done) | (simp [*]; done), by repeat (first | exact Drawn0.refl _ | apply Drawn0.step)⟩
  subst c8
  have H1 : (if x11_1 > 0 then (if 0 ≤ (wrap64 (x11_1 - 1)) then (if (wrap64 (x11_1 - 1)) < (l0.length : Int) then (if (rd l0 (wrap64 (x11_1 - 1))) ≥ (rd l0 x11_1) then (some false) else (match_rising.l0 k1 l0 a1 a2 l0 (l0.length : Int) (wrap64 (x11_1 + 1)))) else (none)) else (none)) else (match_rising.l0 k1 l0 a1 a2 l0 (l0.length : Int) (wrap64 (x11_1 + 1)))) = some r := by rw [if_pos rfl] at H; exact H
  clear H
  have H := H1
  clear H1
  by_cases c9 : x11_1 > 0
  rotate_left
  ·
   rw [if_neg c9] at H
   have c9b0 : decide (0 < x11_1) = false := decide_eq_false c9
   clear c9
   have H' := Aside0.mk H
   clear H
   have p504 : 0 ≤ (x11_1 : Int) := of_decide_eq_true (by first | (with_reducible assumption) | assumption)
   have q504 : x11_1 < (l0.length : Int) := of_decide_eq_true (by first | (with_reducible assumption) | assumption)
   obtain ⟨ad504, e504, hx504_0⟩ := Kd.at_int HR0.out x11_1 p504 q504
   cases e504
   replace p504 := eq_true p504
   replace q504 := eq_true q504
   go_wp2_with (first | ((with_reducible refine gate_callee (f := 82) rfl ?_); refine goesL_ (some 19) rfl rfl Try.func82 (by kernel_rfl) rfl #[.int .i64 (rd l0 x11_1), .int .i64 a1, .int .i64 a2] rfl (by (try simp only [List.map_toArray, List.map_cons, List.map_nil]); first | done | rfl | (simp only [List.length_drop, List.length_take]; rfl)) ?_; (with_reducible refine (match_in.calls (rd l0 x11_1) a1 a2 true _ A7.out).mono ?_); rintro e w' ⟨rfl, ⟨nd, rfl⟩⟩; refine ⟨_, rfl, ?_⟩))
   go_roundg k1
   case measure => have := HK1.out; omega
   case rel => exact ⟨(wrap64 (x11_1 + 1)), (by first | rfl | (simp; done) | (simp [*]; done)), H', ⟨by have := HK1.out; omega⟩, by repeat (first | exact Drawn0.refl _ | apply Drawn0.step)⟩
  rw [if_pos c9] at H
  have c9b0 : decide (0 < x11_1) = true := decide_eq_true c9
  clear c9
  obtain ⟨ji10, hji10⟩ : ∃ j_ : Int, (wrap64 (x11_1 - 1)) = j_ := ⟨_, rfl⟩
  replace H : (if 0 ≤ (ji10) then (if (ji10) < (l0.length : Int) then (if (rd l0 (ji10)) ≥ (rd l0 x11_1) then (some false) else (match_rising.l0 k1 l0 a1 a2 l0 (l0.length : Int) (wrap64 (x11_1 + 1)))) else (none)) else (none)) = some r := by first | (rw [hji10] at H; exact H) | (simp only [hji10] at H ⊢; exact H)
  (try rw [hji10] at A7)
  have hji10w : (IntKind.i64.wrap (x11_1 - 1)) = ji10 := (i64_w _).trans hji10
  by_cases c11 : 0 ≤ (ji10)
  rotate_left
  ·
   rw [if_neg c11] at H
   exact absurd H (by simp)
  rw [if_pos c11] at H
  have c11b0 : decide (0 ≤ (ji10)) = true := decide_eq_true c11
  clear c11
  by_cases c12 : (ji10) < (l0.length : Int)
  rotate_left
  ·
   rw [if_neg c12] at H
   exact absurd H (by simp)
  rw [if_pos c12] at H
  have c12b0 : decide ((ji10) < (l0.length : Int)) = true := decide_eq_true c12
  clear c12
  by_cases c13 : (rd l0 (ji10)) ≥ (rd l0 x11_1)
  ·
   rw [if_pos c13] at H
   have c13b0 : decide ((rd l0 x11_1) ≤ (rd l0 (ji10))) = true := decide_eq_true c13
   clear c13
   obtain rfl := Option.some.inj H
   have p504 : 0 ≤ (x11_1 : Int) := of_decide_eq_true (by first | (with_reducible assumption) | assumption)
   have q504 : x11_1 < (l0.length : Int) := of_decide_eq_true (by first | (with_reducible assumption) | assumption)
   obtain ⟨ad504, e504, hx504_0⟩ := Kd.at_int HR0.out x11_1 p504 q504
   cases e504
   replace p504 := eq_true p504
   replace q504 := eq_true q504
   go_wp2_with (first | ((with_reducible refine gate_callee (f := 82) rfl ?_); refine goesL_ (some 19) rfl rfl Try.func82 (by kernel_rfl) rfl #[.int .i64 (rd l0 x11_1), .int .i64 a1, .int .i64 a2] rfl (by (try simp only [List.map_toArray, List.map_cons, List.map_nil]); first | done | rfl | (simp only [List.length_drop, List.length_take]; rfl)) ?_; (with_reducible refine (match_in.calls (rd l0 x11_1) a1 a2 true _ A7.out).mono ?_); rintro e w' ⟨rfl, ⟨nd, rfl⟩⟩; refine ⟨_, rfl, ?_⟩; have p506 : 0 ≤ ((ji10) : Int) := of_decide_eq_true (by first | (with_reducible assumption) | assumption); have q506 : (ji10) < (l0.length : Int) := of_decide_eq_true (by first | (with_reducible assumption) | assumption); obtain ⟨ad506, e506, hx506_0⟩ := Kd.at_int HR0.out (ji10) p506 q506; obtain rfl : ad504 = ad506 := (by injection e506); replace p506 := eq_true p506; replace q506 := eq_true q506))
   go_ret
   exact ⟨by first | rfl | (simp; done) | (simp only [← hji10] <;> (first | rfl | simp)) | (simp [*]; done), by repeat (first | exact Drawn0.refl _ | apply Drawn0.step)⟩
  rw [if_neg c13] at H
  have c13b0 : decide ((rd l0 x11_1) ≤ (rd l0 (ji10))) = false := decide_eq_false c13
  clear c13
  have H' := Aside0.mk H
  clear H
  have p504 : 0 ≤ (x11_1 : Int) := of_decide_eq_true (by first | (with_reducible assumption) | assumption)
  have q504 : x11_1 < (l0.length : Int) := of_decide_eq_true (by first | (with_reducible assumption) | assumption)
  obtain ⟨ad504, e504, hx504_0⟩ := Kd.at_int HR0.out x11_1 p504 q504
  cases e504
  replace p504 := eq_true p504
  replace q504 := eq_true q504
  go_wp2_with (first | ((with_reducible refine gate_callee (f := 82) rfl ?_); refine goesL_ (some 19) rfl rfl Try.func82 (by kernel_rfl) rfl #[.int .i64 (rd l0 x11_1), .int .i64 a1, .int .i64 a2] rfl (by (try simp only [List.map_toArray, List.map_cons, List.map_nil]); first | done | rfl | (simp only [List.length_drop, List.length_take]; rfl)) ?_; (with_reducible refine (match_in.calls (rd l0 x11_1) a1 a2 true _ A7.out).mono ?_); rintro e w' ⟨rfl, ⟨nd, rfl⟩⟩; refine ⟨_, rfl, ?_⟩; have p506 : 0 ≤ ((ji10) : Int) := of_decide_eq_true (by first | (with_reducible assumption) | assumption); have q506 : (ji10) < (l0.length : Int) := of_decide_eq_true (by first | (with_reducible assumption) | assumption); obtain ⟨ad506, e506, hx506_0⟩ := Kd.at_int HR0.out (ji10) p506 q506; obtain rfl : ad504 = ad506 := (by injection e506); replace p506 := eq_true p506; replace q506 := eq_true q506))
  go_roundg k1
  case measure => have := HK1.out; omega
  case rel => exact ⟨(wrap64 (x11_1 + 1)), (by first | rfl | (simp; done) | (simp [*]; done)), H', ⟨by have := HK1.out; omega⟩, by repeat (first | exact Drawn0.refl _ | apply Drawn0.step)⟩
def match_copied_int_88.f (l0 : List Int) : Option (List Int) := (some (([] : List Int) : List Int)).bind fun y507 => (if y507.length + l0.length < 17592186044416 then (some (y507 ++ l0)) else (none))
set_option maxHeartbeats 8000000 in
set_option maxRecDepth 100000 in
theorem match_copied_int_88.calls (A0 : Option Addr) (c0 : Nat) (l0 : List Int) (r : List Int) (w : World) (hr0 : Kd.C (Kd.int .i64) w A0 l0.length l0) (hc0 : l0.length ≤ c0) (h : match_copied_int_88.f l0 = some r) :
  Calls Try.prog 88 #[.slice A0 l0.length c0] w fun e w' => ∃ v0_ : Value, e = .returned (v0_) ∧ Kd.R (Kd.int .i64) 3 w' w.heap.size (fun _ => True) v0_ r ∧ Below w.heap.size w w' := by
 have HR0 := Aside0.mk hr0
 have HC0 := Aside0.mk hc0
 clear hr0 hc0
 have HB := Aside0.mk (Below.refl w.heap.size w)
 have H : ((some (([] : List Int) : List Int)).bind fun y507 => (if y507.length + l0.length < 17592186044416 then (some (y507 ++ l0)) else (none))) = some r := h
 clear h
 obtain ⟨y507, hy507⟩ : ∃ y_ : List Int, y_ = (([] : List Int)) := ⟨_, rfl⟩
 replace H : (if y507.length + l0.length < 17592186044416 then (some (y507 ++ l0)) else (none)) = some r := by first | (rw [hy507]; with_reducible exact H) | (have H2_ := (Option.bind_some _ _).symm.trans H; rw [hy507]; with_reducible exact H2_) | (have H2_ := (Option.bind_some _ _).symm.trans H; with_reducible exact H2_) | with_reducible exact H | (rw [hy507]; exact H) | exact H
 have Ny507 := Aside0.mk hy507
 clear hy507
 by_cases c2 : y507.length + l0.length < 17592186044416
 rotate_left
 ·
  rw [if_neg c2] at H
  exact absurd H (by simp)
 rw [if_pos c2] at H
 have LMc2 := Aside0.mk c2
 clear c2
 obtain ⟨y510, hy510⟩ : ∃ y_ : List Int, y_ = (y507 ++ l0) := ⟨_, rfl⟩
 replace H : (some y510) = some r := by first | (rw [hy510]; with_reducible exact H) | (have H2_ := (Option.bind_some _ _).symm.trans H; rw [hy510]; with_reducible exact H2_) | (have H2_ := (Option.bind_some _ _).symm.trans H; with_reducible exact H2_) | with_reducible exact H | (rw [hy510]; exact H) | exact H
 have Ny510 := Aside0.mk hy510
 clear hy510
 obtain rfl := Option.some.inj H
 go_enter Try.func88, Try.ntmps88
 go_wp2_with (first | ((with_reducible refine gate_dst (N := 3) rfl ?_); refine Kd.R_lit (Kd.int .i64) _ 3 ?hg (N := 3) ?hd (xs := ([] : List Int)) (inner := []) (ok := fun _ => True) (okp := fun _ => True) ?hr ?hp (fun _ hk => hk) trivial (Below.refl _ _) (Nat.le_refl _) (by simp) ?_; (case hd => rfl); (case hg => rfl); (case hr => first | (go_simp; done) | (go_simp; rfl)); (case hp => exact (Reps.none _ _)); intro v508 w3 ho4 hb hg_ hnew_; clear hg_ hnew_; (first | rw [← Ny507.out] at ho4 | (simp only [Int.reduceToNat] at ho4; rw [← Ny507.out] at ho4)); have n0_ := Aside0.mk (Kd.R_lower ho4 (below_size (by repeat (first | (with_reducible first | exact HB.out | apply below_alloc | apply pw_below_drewN | apply below_drew1) | exact HB.out)))); have n1_ := Aside0.mk (below_step (by repeat (first | (with_reducible first | exact HB.out | apply below_alloc | apply pw_below_drewN | apply below_drew1) | exact HB.out)) hb); clear HB; have HO509 := n0_; have HB := n1_; clear n0_ n1_; clear hb ho4) | ((with_reducible refine gate_builtin (b := .append) (xs := #[.tmp 3, .tmp 4]) rfl ?_); at_builtin; refine Kd.R_append_rows (Kd.int .i64) (w0 := w) w.heap.size rfl (.tmp 3) (.tmp 4) 22 3 (.int .i64 0) 8 rfl Try.underlying22 info3 rfl (by decide) (by omega) v508 y507 l0 _ _ _ (fun _ => True) (fun _ => False) rfl rfl ?aO ?aR (fun _ _ h => h) (fun _ h => h.elim) ?aF ?aB ?aS ?aL ?_; (case aR => repeat (first | exact (Kd.C_below HR0.out HB.out) | (with_reducible refine Kd.C_alloc ?_ _) | (with_reducible refine Kd.C_drewN ?_ _) | (with_reducible refine Kd.C_drew ?_))); (case aB => exact (by repeat (first | (with_reducible first | exact HB.out | apply below_alloc | apply pw_below_drewN | apply below_drew1) | exact HB.out))); (case aF => exact (fun _ _ => trivial)); (case aO => exact (by (with_reducible repeat (first | apply Kd.R_alloc | apply Kd.R_drewN | apply Kd.R_drew)); exact HO509.out)); (case aS => exact (below_size (by repeat (first | (with_reducible first | exact HB.out | apply below_alloc | apply pw_below_drewN | apply below_drew1) | exact HB.out)))); (case aL => have := LMc2.out; omega); intro v511 w5 ho hb hg hat; rw [← Ny510.out] at ho; have n0_ := Aside0.mk (hb); have n1_ := Aside0.mk (ho); clear HB; clear HO509; have HB := n0_; have HO512 := n1_; clear n0_ n1_; clear ho hb hg hat))
 go_ret
 exact ⟨_, by first | rfl | (simp [errW_none, errW_some] <;> rfl) | (simp [*, errW_none, errW_some] <;> rfl), by (with_reducible repeat (first | apply Kd.R_alloc | apply Kd.R_drewN | apply Kd.R_drew)); exact HO512.out, by repeat (first | (with_reducible first | exact HB.out | apply below_alloc | apply pw_below_drewN | apply below_drew1) | exact HB.out)⟩
def api_Slot.f (l0 : List (S50)) : Option ((List (S50))) := (some (([] : List (S50)) : List (S50))).bind fun y513 => (if y513.length + l0.length < 5864062014805 then (some (y513 ++ l0)) else (none))
set_option maxHeartbeats 8000000 in
set_option maxRecDepth 100000 in
theorem api_Slot.calls (A0 : Option Addr) (c0 : Nat) (l0 : List (S50)) (r : List (S50)) (w : World) (hr0 : Kd.C k50 w A0 l0.length l0) (hc0 : l0.length ≤ c0) (h : api_Slot.f l0 = some r) :
  Calls Try.prog 92 #[.slice A0 l0.length c0] w fun e w' => ∃ v0_ : Value, e = .returned (v0_) ∧ Kd.R k50 50 w' w.heap.size (fun _ => True) v0_ r ∧ Below w.heap.size w w' := by
 have HR0 := Aside0.mk hr0
 have HC0 := Aside0.mk hc0
 clear hr0 hc0
 have HB := Aside0.mk (Below.refl w.heap.size w)
 have H : ((some (([] : List (S50)) : List (S50))).bind fun y513 => (if y513.length + l0.length < 5864062014805 then (some (y513 ++ l0)) else (none))) = some r := h
 clear h
 obtain ⟨y513, hy513⟩ : ∃ y_ : List (S50), y_ = (([] : List (S50))) := ⟨_, rfl⟩
 replace H : (if y513.length + l0.length < 5864062014805 then (some (y513 ++ l0)) else (none)) = some r := by first | (rw [hy513]; with_reducible exact H) | (have H2_ := (Option.bind_some _ _).symm.trans H; rw [hy513]; with_reducible exact H2_) | (have H2_ := (Option.bind_some _ _).symm.trans H; with_reducible exact H2_) | with_reducible exact H | (rw [hy513]; exact H) | exact H
 have Ny513 := Aside0.mk hy513
 clear hy513
 by_cases c2 : y513.length + l0.length < 5864062014805
 rotate_left
 ·
  rw [if_neg c2] at H
  exact absurd H (by simp)
 rw [if_pos c2] at H
 have LMc2 := Aside0.mk c2
 clear c2
 obtain ⟨y516, hy516⟩ : ∃ y_ : List (S50), y_ = (y513 ++ l0) := ⟨_, rfl⟩
 replace H : (some y516) = some r := by first | (rw [hy516]; with_reducible exact H) | (have H2_ := (Option.bind_some _ _).symm.trans H; rw [hy516]; with_reducible exact H2_) | (have H2_ := (Option.bind_some _ _).symm.trans H; with_reducible exact H2_) | with_reducible exact H | (rw [hy516]; exact H) | exact H
 have Ny516 := Aside0.mk hy516
 clear hy516
 obtain rfl := Option.some.inj H
 go_enter Try.func92, Try.ntmps92
 go_wp2_with (first | ((with_reducible refine gate_dst (N := 3) rfl ?_); refine Kd.R_lit k50 _ 50 ?hg (N := 3) ?hd (xs := ([] : List (S50))) (inner := []) (ok := fun _ => True) (okp := fun _ => True) ?hr ?hp (fun _ hk => hk) trivial (Below.refl _ _) (Nat.le_refl _) (by simp) ?_; (case hd => rfl); (case hg => rfl); (case hr => first | (go_simp; done) | (go_simp; rfl)); (case hp => exact (Reps.none _ _)); intro v514 w3 ho4 hb hg_ hnew_; clear hg_ hnew_; (first | rw [← Ny513.out] at ho4 | (simp only [Int.reduceToNat] at ho4; rw [← Ny513.out] at ho4)); have n0_ := Aside0.mk (Kd.R_lower ho4 (below_size (by repeat (first | (with_reducible first | exact HB.out | apply below_alloc | apply pw_below_drewN | apply below_drew1) | exact HB.out)))); have n1_ := Aside0.mk (below_step (by repeat (first | (with_reducible first | exact HB.out | apply below_alloc | apply pw_below_drewN | apply below_drew1) | exact HB.out)) hb); clear HB; have HO515 := n0_; have HB := n1_; clear n0_ n1_; clear hb ho4) | ((with_reducible refine gate_builtin (b := .append) (xs := #[.tmp 3, .tmp 4]) rfl ?_); at_builtin; refine Kd.R_append_rows k50 (w0 := w) w.heap.size rfl (.tmp 3) (.tmp 4) 23 50 (.agg #[(.int .i64 0), (.int .i64 0), (.int .i64 0)]) 24 rfl Try.underlying23 info50 rfl (by decide) (by omega) v514 y513 l0 _ _ _ (fun _ => True) (fun _ => False) rfl rfl ?aO ?aR (fun _ _ h => h) (fun _ h => h.elim) ?aF ?aB ?aS ?aL ?_; (case aR => repeat (first | exact (Kd.C_below HR0.out HB.out) | (with_reducible refine Kd.C_alloc ?_ _) | (with_reducible refine Kd.C_drewN ?_ _) | (with_reducible refine Kd.C_drew ?_))); (case aB => exact (by repeat (first | (with_reducible first | exact HB.out | apply below_alloc | apply pw_below_drewN | apply below_drew1) | exact HB.out))); (case aF => exact (fun _ _ => trivial)); (case aO => exact (by (with_reducible repeat (first | apply Kd.R_alloc | apply Kd.R_drewN | apply Kd.R_drew)); exact HO515.out)); (case aS => exact (below_size (by repeat (first | (with_reducible first | exact HB.out | apply below_alloc | apply pw_below_drewN | apply below_drew1) | exact HB.out)))); (case aL => have := LMc2.out; omega); intro v517 w5 ho hb hg hat; rw [← Ny516.out] at ho; have n0_ := Aside0.mk (hb); have n1_ := Aside0.mk (ho); clear HB; clear HO515; have HB := n0_; have HO518 := n1_; clear n0_ n1_; clear ho hb hg hat))
 go_ret
 exact ⟨_, by first | rfl | (simp [errW_none, errW_some] <;> rfl) | (simp [*, errW_none, errW_some] <;> rfl), by (with_reducible repeat (first | apply Kd.R_alloc | apply Kd.R_drewN | apply Kd.R_drew)); exact HO518.out, by repeat (first | (with_reducible first | exact HB.out | apply below_alloc | apply pw_below_drewN | apply below_drew1) | exact HB.out)⟩
end Go.Proofs.Ytkmmihadcbfkoaa.PM
end

section
namespace Go.Proofs.Ytkmmihadcbfkoaa
/-- The finds below k that were given the slot. -/
def atTo (zs : List Int) (s : Int) (k : Nat) : List Int := ((List.range k).filter (fun j => zs[j]?.getD 0 == s)).map Int.ofNat
def atOf (zs : List Int) (s : Int) : List Int := atTo zs s zs.length
theorem atTo_yes {zs : List Int} {s : Int} {k : Nat} (h : zs[k]?.getD 0 = s) : atTo zs s (k + 1) = atTo zs s k ++ [(k : Int)] := by
 simp [atTo, List.range_succ, List.filter_append, h]
theorem atTo_no {zs : List Int} {s : Int} {k : Nat} (h : zs[k]?.getD 0 ≠ s) : atTo zs s (k + 1) = atTo zs s k := by
 simp [atTo, List.range_succ, List.filter_append, h]
theorem atTo_length (zs : List Int) (s : Int) (k : Nat) : (atTo zs s k).length ≤ k := by
 simp only [atTo, List.length_map]
 exact Nat.le_trans (List.length_filter_le _ _) (by simp)
theorem mem_atOf {zs : List Int} {s g : Int} : g ∈ atOf zs s ↔ 0 ≤ g ∧ g < zs.length ∧ zs[g.toNat]?.getD 0 = s := by
 simp only [atOf, atTo, List.mem_map, List.mem_filter, List.mem_range, beq_iff_eq]
 constructor
 ·
  rintro ⟨j, ⟨h1, h2⟩, rfl⟩
  exact ⟨Int.natCast_nonneg _, by simpa using h1, by simpa using h2⟩
 rintro ⟨h0, h1, h2⟩
 exact ⟨g.toNat, ⟨by omega, h2⟩, by simp; omega⟩
def ld (has : List Int) (s : Int) : Int := (atOf has s).length
/-- What the search comes to: found or not, the slots seen, the finds' slots. -/
structure SR where
 ok : Bool
 seen : List Bool
 has : List Int
def seekG (rec : Int → List Bool → List Int → SR) (f : Int) : List Int → List Bool → List Int → SR
 | [], seen, has => ⟨false, seen, has⟩
 | g :: gs, seen, has =>
  if g = f then seekG rec f gs seen has
  else if (rec g seen has).ok then rec g seen has else seekG rec f gs (rec g seen has).seen (rec g seen has).has
def seekS (rec : Int → List Bool → List Int → SR) (room : List Int) (f : Int) : List Int → List Bool → List Int → SR
 | [], seen, has => ⟨false, seen, has⟩
 | s :: ss, seen, has =>
  if seen.getD s.toNat false then seekS rec room f ss seen has
  else if ld has s < room.getD s.toNat 0 then ⟨true, seen.set s.toNat true, has.set f.toNat s⟩
  else if (seekG rec f (atOf has s) (seen.set s.toNat true) has).ok then
   ⟨true, (seekG rec f (atOf has s) (seen.set s.toNat true) has).seen, (seekG rec f (atOf has s) (seen.set s.toNat true) has).has.set f.toNat s⟩
  else seekS rec room f ss (seekG rec f (atOf has s) (seen.set s.toNat true) has).seen (seekG rec f (atOf has s) (seen.set s.toNat true) has).has
def seekF (fits : List (List Int)) (room : List Int) : Nat → Int → List Bool → List Int → SR
 | 0, _, seen, has => ⟨false, seen, has⟩
 | m + 1, f, seen, has => seekS (seekF fits room m) room f (fits.getD f.toNat []) seen has
/-- How many slots have not been seen. -/
def cnt (seen : List Bool) : Nat := seen.count false
/-- Nothing has been lost of the lists' lengths; what was seen stays seen. -/
def SRok (seen : List Bool) (has : List Int) (r : SR) : Prop := r.seen.length = seen.length ∧ r.has.length = has.length ∧ cnt r.seen ≤ cnt seen
theorem cnt_set {seen : List Bool} {i : Nat} (hi : i < seen.length) (h : seen.getD i false = false) : cnt (seen.set i true) + 1 = cnt seen := by
 have h' : seen[i] = false := by simpa [List.getD_eq_getElem?_getD, List.getElem?_eq_getElem hi] using h
 have hp : 0 < seen.count false := List.count_pos_iff.2 (h' ▸ List.getElem_mem hi)
 unfold cnt
 rw [List.count_set hi, h']
 simp
 omega
theorem cnt_set_le {seen : List Bool} {i : Nat} : cnt (seen.set i true) ≤ cnt seen := by
 by_cases hi : i < seen.length
 rotate_left
 ·
  rw [List.set_eq_of_length_le (by omega)]; omega
 by_cases h : seen.getD i false = false
 ·
  have := cnt_set hi h; omega
 have h' : seen[i] = true := by
  have : ¬ seen[i] = false := by simpa [List.getD_eq_getElem?_getD, List.getElem?_eq_getElem hi] using h
  simpa using this
 have : seen.set i true = seen := by
  apply List.ext_getElem (by simp)
  intro j h1 h2
  rw [List.getElem_set]
  split
  ·
   rename_i e; subst e; exact h'.symm
  ·
   rfl
 rw [this]; omega
theorem seekG_ok {rec : Int → List Bool → List Int → SR} (hr : ∀ g seen has, SRok seen has (rec g seen has)) (f : Int) : ∀ gs seen has, SRok seen has (seekG rec f gs seen has)
 | [], seen, has => ⟨rfl, rfl, Nat.le_refl _⟩
 | g :: gs, seen, has => by
  unfold seekG
  have h0 := hr g seen has
  have ih := seekG_ok hr f gs
  split
  ·
   exact ih _ _
  ·
   split
   ·
    exact h0
   ·
    have h1 := ih (rec g seen has).seen (rec g seen has).has
    exact ⟨h1.1.trans h0.1, h1.2.1.trans h0.2.1, Nat.le_trans h1.2.2 h0.2.2⟩
theorem seekS_ok {rec : Int → List Bool → List Int → SR} (hr : ∀ g seen has, SRok seen has (rec g seen has)) (room : List Int) (f : Int) : ∀ ss seen has, SRok seen has (seekS rec room f ss seen has)
 | [], seen, has => ⟨rfl, rfl, Nat.le_refl _⟩
 | s :: ss, seen, has => by
  unfold seekS
  have ih := seekS_ok hr room f ss
  have h0 := seekG_ok hr f (atOf has s) (seen.set s.toNat true) has
  have hc := cnt_set_le (seen := seen) (i := s.toNat)
  have hl : (seen.set s.toNat true).length = seen.length := by simp
  split
  ·
   exact ih _ _
  ·
   split
   ·
    exact ⟨by simp, by simp, hc⟩
   ·
    split
    ·
     exact ⟨h0.1.trans hl, by simpa using h0.2.1, Nat.le_trans h0.2.2 hc⟩
    ·
     have h1 := ih (seekG rec f (atOf has s) (seen.set s.toNat true) has).seen (seekG rec f (atOf has s) (seen.set s.toNat true) has).has
     exact ⟨h1.1.trans (h0.1.trans hl), h1.2.1.trans h0.2.1, Nat.le_trans h1.2.2 (Nat.le_trans h0.2.2 hc)⟩
theorem seekF_ok (fits : List (List Int)) (room : List Int) : ∀ m f seen has, SRok seen has (seekF fits room m f seen has)
 | 0, _, _, _ => ⟨rfl, rfl, Nat.le_refl _⟩
 | m + 1, f, seen, has => by
  unfold seekF
  exact seekS_ok (fun g s h => seekF_ok fits room m g s h) room f _ _ _
/-- The finds that stand in each other's way, as they are gathered. -/
def hallTo (find : Int) (seen : List Bool) (has : List Int) (k : Nat) : List Int := find :: ((List.range k).filter (fun s : Nat => seen.getD s false)).flatMap (fun s : Nat => atOf has (s : Int))
theorem hallTo_yes {find : Int} {seen : List Bool} {has : List Int} {k : Nat} (h : seen.getD k false = true) : hallTo find seen has (k + 1) = hallTo find seen has k ++ atOf has (k : Int) := by
 simp only [hallTo, List.range_succ, List.filter_append, List.flatMap_append, List.cons_append]
 rw [List.filter_cons_of_pos (by simpa using h)]
 simp
theorem hallTo_no {find : Int} {seen : List Bool} {has : List Int} {k : Nat} (h : seen.getD k false = false) : hallTo find seen has (k + 1) = hallTo find seen has k := by
 simp only [hallTo, List.range_succ, List.filter_append]
 rw [List.filter_cons_of_neg (by simp only [h]; simp)]
 simp
def giveR (fits : List (List Int)) (room : List Int) (ns : Nat) (find : Int) (has : List Int) : SR := seekF fits room (ns + 1) find (List.replicate ns false) has
def giveH (fits : List (List Int)) (room : List Int) (ns : Nat) (find : Int) (has : List Int) : List Int :=
 if (giveR fits room ns find has).ok then [] else
  Lib.compact ((hallTo find (giveR fits room ns find has).seen (giveR fits room ns find has).has ns).mergeSort fun x y => decide (x ≤ y))
/-- What filling comes to: all have a slot, or a Hall set; the finds' slots. -/
structure FR where
 ok : Bool
 hall : List Int
 has : List Int
def fillL (fits : List (List Int)) (room : List Int) (ns : Nat) (out : Int) : List Nat → List Int → FR
 | [], has => ⟨true, [], has⟩
 | f :: fs, has =>
  if (fits.getD f []).length = 0 ∨ (f : Int) = out ∨ 0 ≤ has.getD f 0 then fillL fits room ns out fs has
  else if (giveR fits room ns f has).ok then fillL fits room ns out fs (giveR fits room ns f has).has
  else ⟨false, giveH fits room ns f has, (giveR fits room ns f has).has⟩
def fillF (fits : List (List Int)) (room : List Int) (ns : Nat) (out : Int) (has : List Int) : FR := fillL fits room ns out (List.range fits.length) has
theorem giveR_len (fits : List (List Int)) (room : List Int) (ns : Nat) (f : Int) (has : List Int) : (giveR fits room ns f has).has.length = has.length := (seekF_ok fits room (ns + 1) f _ has).2.1
theorem fillL_len (fits : List (List Int)) (room : List Int) (ns : Nat) (out : Int) : ∀ fs has, (fillL fits room ns out fs has).has.length = has.length
 | [], _ => rfl
 | f :: fs, has => by
  unfold fillL
  split
  ·
   exact fillL_len fits room ns out fs has
  ·
   split
   ·
    exact (fillL_len fits room ns out fs _).trans (giveR_len ..)
   ·
    exact giveR_len ..
end Go.Proofs.Ytkmmihadcbfkoaa
end

section
namespace Go.Proofs.Ytkmmihadcbfkoaa
open Go.RowKit Go.Shelf
attribute [local go_sem] Oper.semAt_some
set_option linter.unusedVariables false
set_option linter.unusedSimpArgs false
/-- What a round keeps: all below n₀, and the box of the slot. -/
def Kp2 (n₀ Bs : Nat) (W W' : World) : Prop := Below n₀ W W' ∧ W'.heap[Bs]? = W.heap[Bs]?
theorem Kp2.refl (n₀ Bs : Nat) (W : World) : Kp2 n₀ Bs W W := ⟨Below.refl _ _, rfl⟩
theorem Kp2.trans {n₀ Bs : Nat} {A B C : World} (h : Kp2 n₀ Bs A B) (k : Kp2 n₀ Bs B C) : Kp2 n₀ Bs A C := ⟨h.1.trans k.1, k.2.trans h.2⟩
theorem Kp2.cell {n₀ Bs : Nat} {W W' : World} (h : Kp2 n₀ Bs W W') (o : Nat) : W'.cell? ⟨Bs, o, none⟩ = W.cell? ⟨Bs, o, none⟩ := World.cell?_of_block (w := W) h.2
theorem Kp2.put {n₀ Bs m : Nat} (hn : n₀ ≤ m) (hB : Bs < m) (W : World) (l : Nat) (o o' : Obj) (hl : m ≤ l) (h : W.heap[l]? = some o) (_ : o.isCells = false) (_ : o.isWalk = false) : Kp2 n₀ Bs W (W.putObj l o') :=
 ⟨(Below.refl n₀ W).grown (grownBy_putObj' W l o') (by have := (Array.getElem?_eq_some_iff.1 h).1; omega) (fun k e => by cases e; omega), World.putObj_heap_other (by omega)⟩
theorem Kp2.setCell {n₀ Bs b : Nat} (W : World) (o : Nat) (v : Value) (hb : n₀ ≤ b) (hne : Bs ≠ b) : Kp2 n₀ Bs W (W.setCell ⟨b, o, none⟩ v) :=
 ⟨(Below.refl n₀ W).setCell (p := ⟨b, o, none⟩) hb v, Below.heap_setCell _ _ _ _ hne⟩
set_option maxRecDepth 100000 in
set_option maxHeartbeats 2000000 in
theorem at1_in (n : Nat) (hn : 1 ≤ n) (l Bt Bs g n₀ : Nat) (ad : Option Addr) (len cap : Nat) (s : Int) (zs : List Int) (hlen : zs.length = len) (hreach : len ≤ 9223372036854775807) (J Jx : List Int → World → Prop)
  (hY : ∀ pre x W, J pre W → pre.length < len → YieldAt Fence.wide (n - 1) Try.prog l #[.int .i64 x] W fun e W' =>
   (e = .returned (.bool true) ∧ J (pre ++ [x]) W' ∧ Kp2 n₀ Bs W W') ∨ (e = .returned (.bool false) ∧ Jx (pre ++ [x]) W'))
  (W : World) (hBt : W.cell? ⟨Bt, 0, none⟩ = some (.pointer (some ⟨g, 0, none⟩))) (hBs : W.cell? ⟨Bs, 0, none⟩ = some (.int .i64 s)) (hg : W.cell? ⟨g, 4, none⟩ = some (.slice ad len cap))
  (hc : ∀ j, j < len → ∃ a, ad = some a ∧ a.block < n₀ ∧ W.cell? (a.add j) = some (.int .i64 (zs[j]?.getD 0))) (h0 : J [] W) :
  CallsIn Fence.wide n Try.prog 100 #[.func (.yield l) #[] #[], .pointer (some ⟨Bt, 0, none⟩), .pointer (some ⟨Bs, 0, none⟩)] W fun e W' => (∃ v, e = .returned v) ∧
   ((∃ ys, ys = atTo zs s len ∧ J ys W') ∨ (∃ pre, (∃ k, k ≤ len ∧ pre = atTo zs s k) ∧ Jx pre W')) := by
 refine callsIn_of_wp Try.func100 rfl trivial ?_ rfl
 simp only [Try.ntmps100, List.size_toArray, List.length_cons, List.length_nil, Nat.reduceAdd, Nat.reduceSub, Array.replicate_succ, Array.replicate_zero, List.push_toArray, List.append_toArray, List.nil_append, List.cons_append]
 gi_wp2
 gi_loopw [11] (fun i wr => ∃ k : Nat, k ≤ len ∧ i = .int .i64 k ∧ J (atTo zs s k) wr ∧ Kp2 n₀ Bs W wr)
  (fun i _ => len - (intOf i).toNat)
 case atStart => exact ⟨0, Nat.zero_le _, rfl, h0, Kp2.refl _ _ _⟩
 obtain ⟨k, hk, rfl, hJs, hnx⟩ := hrel
 by_cases hlt : k < len
 rotate_left
 ·
  obtain rfl : k = len := by omega
  gi_wp2
  go_end0
  exact ⟨⟨_, rfl⟩, .inl ⟨_, rfl, hJs⟩⟩
 obtain ⟨a, rfl, hab, hca⟩ := hc k hlt
 have hcx : wr.cell? (a.add k) = some (.int .i64 (zs[k]?.getD 0)) := (hnx.1.cell (p := a.add k) (by rw [Go.ChangeShapes.block_add]; exact hab)).trans hca
 have hsx : wr.cell? ⟨Bs, 0, none⟩ = some (.int .i64 s) := (hnx.cell 0).trans hBs
 have hyes := atTo_yes (zs := zs) (s := s) (k := k)
 have hno := atTo_no (zs := zs) (s := s) (k := k)
 have hY' := hY (atTo zs s k) (k : Int) wr hJs (Nat.lt_of_le_of_lt (atTo_length _ _ _) hlt)
 clear hY hca
 generalize zs[k]?.getD 0 = x at *
 have HY := Go.Lib.hid hyes
 have HN := Go.Lib.hid hno
 have HK := Go.Lib.hid hnx
 clear hyes hno hc hnx
 by_cases he : x = s
 rotate_left
 ·
  have he1 : (x == s) = false := by simpa using he
  clear hY'
  gi_wp2
  refine ⟨fun _ h => (by cases h), ?_⟩
  gi_wp2
  go_roundw
  case rel => exact ⟨k + 1, by omega, by simp, by rw [HN.out he]; exact hJs, HK.out⟩
  case measure => simp [intOf]; omega
 subst he
 obtain ⟨fn, tmps, assign, body, hy, hR⟩ := hY'
 gi_wp2
 refine hR.mono ?_
 rintro e W3 (⟨rfl, hJ3, hk3⟩ | ⟨rfl, hJx3⟩)
 ·
  gi_wp2
  go_roundw
  case rel => exact ⟨k + 1, by omega, by simp, by rw [HY.out trivial]; exact hJ3, HK.out.trans hk3⟩
  case measure => simp [intOf]; omega
 gi_wp2
 refine bodyPost_ret (results_none rfl _ _ _) rfl ?_
 exact ⟨⟨_, rfl⟩, .inr ⟨_, ⟨k + 1, by omega, (HY.out trivial).symm⟩, hJx3⟩⟩
/-- What a reader of a row of ints needs. -/
def IntsAt (w : World) (ad : Option Addr) (zs : List Int) : Prop := ∀ j, j < zs.length → ∃ a, ad = some a ∧ a.block < w.heap.size ∧ w.cell? (a.add j) = some (.int .i64 (zs[j]?.getD 0))
theorem IntsAt.below {w w' : World} {ad : Option Addr} {zs : List Int} (h : IntsAt w ad zs) (hb : Below w.heap.size w w') : IntsAt w' ad zs := fun j hj => by
 obtain ⟨a, e, hl, hc⟩ := h j hj
 exact ⟨a, e, Nat.lt_of_lt_of_le hl hb.size, (hb.cell (p := a.add j) (by rw [Go.ChangeShapes.block_add]; exact hl)).trans hc⟩
set_option maxHeartbeats 1000000 in
theorem at_in (n : Nat) (g : Option Addr) (s : Int) (w : World) :
  CallsIn Fence.wide n Try.prog 90 #[.pointer g, .int .i64 s] w fun e w' => e = .returned (.func (.func 100) #[] #[.pointer (some ⟨w.heap.size, 0, none⟩), .pointer (some ⟨w.heap.size + 1, 0, none⟩)]) ∧ w' = (w.alloc (.cells #[.pointer g] 68)).alloc (.cells #[.int .i64 s] 3) := by
 refine callsIn_of_wp Try.func90 rfl trivial ?_ rfl
 simp only [Try.ntmps90, List.size_toArray, List.length_cons, List.length_nil, Nat.reduceAdd, Nat.reduceSub, Array.replicate_succ, Array.replicate_zero, List.push_toArray, List.append_toArray, List.nil_append, List.cons_append]
 gi_wp2
 go_ret
 exact ⟨rfl, rfl⟩
theorem at_stops (n : Nat) (hn : 1 ≤ n) (Bt Bs g : Nat) (ad : Option Addr) (cap : Nat) (s : Int) (zs : List Int) (hreach : zs.length ≤ 9223372036854775807) (n₀ : Nat) (w w0 : World) (hw0 : w0.heap.size = n₀) (hb : Below n₀ w0 w)
  (hBt : Bt < w.heap.size) (hBt0 : w.cell? ⟨Bt, 0, none⟩ = some (.pointer (some ⟨g, 0, none⟩))) (hBs : Bs < w.heap.size) (hBs0 : w.cell? ⟨Bs, 0, none⟩ = some (.int .i64 s)) (hg : w0.cell? ⟨g, 4, none⟩ = some (.slice ad zs.length cap)) (hgl : g < n₀)
  (hz : IntsAt w0 ad zs)  :
  SeqStopsK Fence.wide n Try.prog 100 #[.pointer (some ⟨Bt, 0, none⟩), .pointer (some ⟨Bs, 0, none⟩)] (fun x : Int => #[Value.int .i64 x]) (Kp2 n₀ Bs) (fun ys => ys = atOf zs s) (fun pre => ∃ k, k ≤ zs.length ∧ pre = atTo zs s k) zs.length w := fun l J Jx W hW _ _ hY h0 => by
 have hbW : Below n₀ w0 W := hb.trans (hW.mono (by have := hb.size; omega))
 refine at1_in n hn l Bt Bs g n₀ ad zs.length cap s zs rfl hreach J Jx hY W ((hW.cell (p := ⟨Bt, 0, none⟩) hBt).trans hBt0) ((hW.cell (p := ⟨Bs, 0, none⟩) hBs).trans hBs0) ((hbW.cell (p := ⟨g, 4, none⟩) hgl).trans hg) (fun j hj => ?_) h0
 obtain ⟨a, e, hl, hc⟩ := hz j hj
 rw [hw0] at hl
 exact ⟨a, e, by omega, (hbW.cell (p := a.add j) (by rw [Go.ChangeShapes.block_add]; exact hl)).trans hc⟩
set_option maxRecDepth 100000 in
set_option maxHeartbeats 2000000 in
theorem load_in (g : Nat) (ad : Option Addr) (cap : Nat) (s : Int) (zs : List Int) (hreach : zs.length ≤ 9223372036854775807) (w : World)
  (hg : w.cell? ⟨g, 4, none⟩ = some (.slice ad zs.length cap)) (hz : IntsAt w ad zs) :
  CallsIn Fence.wide 5 Try.prog 74 #[.pointer (some ⟨g, 0, none⟩), .int .i64 s] w fun e W' => e = .returned (.int .i64 ((atOf zs s).length : Int)) ∧ Below w.heap.size w W' := by
 have hgl : g < w.heap.size := World.block_lt_of_cell? w _ hg
 refine callsIn_of_wp_marks Try.func74 rfl trivial ?_ rfl
 simp only [Try.ntmps74, List.size_toArray, List.length_cons, List.length_nil, Nat.reduceAdd, Nat.reduceSub, Array.replicate_succ, Array.replicate_zero, List.push_toArray, List.append_toArray, List.nil_append, List.cons_append]
 gi_wp2_with fail
 refine ⟨trivial, ?_⟩
 refine (at_in (5 - 1) _ _ _).mono ?_
 rintro e w' ⟨rfl, rfl⟩
 gi_wp2
 have hB0 : Below w.heap.size w (((w.alloc (.cells #[.int .i64 0] 3)).alloc (.cells #[.pointer (some ⟨g, 0, none⟩)] 68)).alloc (.cells #[.int .i64 s] 3)) := (((Below.refl _ w).alloc (Nat.le_refl _) _).alloc (by simp) _).alloc (by simp; omega) _
 have bN := (((Boxed.new w 3 (.int .i64 0)).alloc (.cells #[.pointer (some ⟨g, 0, none⟩)] 68)).alloc (.cells #[.int .i64 s] 3))
 have bT := ((Boxed.new (w.alloc (.cells #[.int .i64 0] 3)) 68 (.pointer (some ⟨g, 0, none⟩))).alloc (.cells #[.int .i64 s] 3))
 have bS := Boxed.new ((w.alloc (.cells #[.int .i64 0] 3)).alloc (.cells #[.pointer (some ⟨g, 0, none⟩)] 68)) 3 (.int .i64 s)
 simp only [World.size_alloc] at bT bS
 obtain ⟨W0, hW0⟩ : ∃ W0, (((w.alloc (.cells #[.int .i64 0] 3)).alloc (.cells #[.pointer (some ⟨g, 0, none⟩)] 68)).alloc (.cells #[.int .i64 s] 3)) = W0 := ⟨_, rfl⟩
 have hsz : W0.heap.size = w.heap.size + 3 := by rw [← hW0]; simp
 rw [hW0] at hB0 bN bT bS ⊢
 refine wpIn_rangeFunc_ownG (w0 := W0) rfl (by omega) (gf := 100) (lb := #[.pointer (some ⟨w.heap.size + 1, 0, none⟩), .pointer (some ⟨w.heap.size + 1 + 1, 0, none⟩)]) rfl trivial (enters_of Try.func100 (by kernel_rfl) rfl)
  (at_stops (5 - 1) (by omega) (w.heap.size + 1) (w.heap.size + 1 + 1) g ad cap s zs hreach w.heap.size W0 w rfl hB0 (by omega) bT.cell (by omega) bS.cell hg hgl hz)
  Kp2.trans (Kp2.put (by omega) (by omega)) (Below.refl _ _) (fun _ => rfl)
  (fun pre W => Boxed W w.heap.size 3 (.int .i64 (pre.length : Int)) ∧ Below w.heap.size w W)
  (fun _ _ _ => False)
  (OwnFrom.and (Own.from (boxed_own w.heap.size 3 (fun pre : List Int => Value.int .i64 (pre.length : Int))) _) (ownFrom_below (Nat.le_refl _) (by omega)))
  (fun _ _ _ _ _ hs _ _ => hs)
  ⟨bN, hB0⟩
  (fun x => { tmps := #[.pointer (some ⟨g, 0, none⟩), .int .i64 s, undef, undef, .int .i64 0, .pointer (some ⟨w.heap.size, 0, none⟩), .pointer (some ⟨g, 0, none⟩), .int .i64 s, .func (.func 100) #[] #[.pointer (some ⟨w.heap.size + 1, 0, none⟩), .pointer (some ⟨w.heap.size + 1 + 1, 0, none⟩)], .int .i64 x, undef, undef, undef], defers := [] }) ?assign ?body ?done ?stop
 case assign =>
  intro l x W K hK
  gi_wp2
  simpa using hK
 case body =>
  rintro l pre x W ⟨hb, hB⟩ hlt
  have hc := hb.cell
  have hf := hb.frozen
  gi_wp2
  exact ⟨(KeepsOthers.setCell _ _ _).from _, Kp2.setCell _ _ _ (Nat.le_refl _) (by omega), by simp; exact hb.set _, hB.setCell (p := ⟨w.heap.size, 0, none⟩) (Nat.le_refl _) _⟩
 case done =>
  rintro D ys W hD rfl ⟨hb, hB⟩ hK
  have hc := hb.cell
  gi_wp2
  refine ⟨by simp, .inl ⟨_, _, rfl, run_takeDeferred hK, ?_⟩⟩
  exact ⟨_, results_tmp rfl _ _ _, rfl, hB.trans (belowK_b (w := w) (Nat.le_refl _) W D _ _ (by omega) hK rfl rfl)⟩
 case stop =>
  rintro D c pre W _ _ h _
  exact h.elim
theorem itinfo3 : (Try.prog.info? 3).map (fun i => (i.zero, i.size, i.bytes)) = some (some (.int .i64 0), 1, 8) := by kernel_rfl
set_option maxRecDepth 100000 in
set_option maxHeartbeats 2000000 in
theorem appendSeq_in (Bt Bs g : Nat) (ad : Option Addr) (cap : Nat) (s : Int) (zs : List Int) (hreach : zs.length * 8 ≤ 140737488355328) (w : World)
  (hBt : w.cell? ⟨Bt, 0, none⟩ = some (.pointer (some ⟨g, 0, none⟩))) (hBs : w.cell? ⟨Bs, 0, none⟩ = some (.int .i64 s))
  (hg : w.cell? ⟨g, 4, none⟩ = some (.slice ad zs.length cap)) (hz : IntsAt w ad zs) :
  CallsIn Fence.wide 5 Try.prog 99 #[.slice none 0 0, .func (.func 100) #[] #[.pointer (some ⟨Bt, 0, none⟩), .pointer (some ⟨Bs, 0, none⟩)]] w fun e W' => ∃ v, e = .returned v ∧ W'.ownsRow w.heap.size 3 1 v (atOf zs s).length ((atOf zs s).map (Value.int .i64)) ∧ Below w.heap.size w W' := by
 have hgl : g < w.heap.size := World.block_lt_of_cell? w _ hg
 have hBtl : Bt < w.heap.size := World.block_lt_of_cell? w _ hBt
 have hBsl : Bs < w.heap.size := World.block_lt_of_cell? w _ hBs
 obtain ⟨i0, hi, hz0, hz1, hz2⟩ := info_parts itinfo3
 refine callsIn_of_wp_marks Try.func99 rfl trivial ?_ rfl
 simp only [Try.ntmps99, List.size_toArray, List.length_cons, List.length_nil, Nat.reduceAdd, Nat.reduceSub, Array.replicate_succ, Array.replicate_zero, List.push_toArray, List.append_toArray, List.nil_append, List.cons_append]
 gi_wp2
 have hB0 : Below w.heap.size w (w.alloc (.cells #[.slice none 0 0] 22)) := (Below.refl _ w).alloc (Nat.le_refl _) _
 have bN := Boxed.new w 22 (.slice none 0 0)
 obtain ⟨W0, hW0⟩ : ∃ W0, (w.alloc (.cells #[.slice none 0 0] 22)) = W0 := ⟨_, rfl⟩
 have hsz : W0.heap.size = w.heap.size + 1 := by rw [← hW0]; simp
 rw [hW0] at hB0 bN ⊢
 refine wpIn_rangeFunc_ownG (w0 := W0) rfl (by omega) (gf := 100) (lb := #[.pointer (some ⟨Bt, 0, none⟩), .pointer (some ⟨Bs, 0, none⟩)]) rfl trivial (enters_of Try.func100 (by kernel_rfl) rfl)
  (at_stops (5 - 1) (by omega) Bt Bs g ad cap s zs (by omega) w.heap.size W0 w rfl hB0 (by omega) ((hB0.cell (p := ⟨Bt, 0, none⟩) hBtl).trans hBt) (by omega) ((hB0.cell (p := ⟨Bs, 0, none⟩) hBsl).trans hBs) hg hgl hz)
  Kp2.trans (Kp2.put (by omega) (by omega)) (Below.refl _ _) (fun _ => rfl)
  (fun pre W => (∃ v, Boxed W w.heap.size 22 v ∧ W.ownsRow w.heap.size 3 1 v pre.length (pre.map (Value.int .i64)) ∧ True) ∧ Below w.heap.size w W)
  (fun _ _ _ => False)
  (OwnFrom.and (Own.from (holdsRow_own w.heap.size w.heap.size 22 3 1 (fun pre : List Int => pre.length) (fun pre => pre.map (Value.int .i64)) (fun _ _ => True)) _) (ownFrom_below (Nat.le_refl _) (by omega)))
  (fun _ _ _ _ _ hs _ _ => hs)
  ⟨⟨_, bN, World.ownsRow_nil _ _ _ _, trivial⟩, hB0⟩
  (fun x => { tmps := #[.slice none 0 0, .func (.func 100) #[] #[.pointer (some ⟨Bt, 0, none⟩), .pointer (some ⟨Bs, 0, none⟩)], .pointer (some ⟨w.heap.size, 0, none⟩), undef, .slice none 0 0, .int .i64 x, .func (.func 100) #[] #[.pointer (some ⟨Bt, 0, none⟩), .pointer (some ⟨Bs, 0, none⟩)], .int .i64 x, undef, undef, undef, undef, undef], defers := [] }) ?assign ?body ?done ?stop
 case assign =>
  intro l x W K hK
  gi_wp2
  exact hK
 case body =>
  rintro l pre x W ⟨⟨v, hv, hrow, _⟩, hB⟩ hlt
  have hc := hv.cell
  gi_wp2_with (gi_at_builtin; refine wpListIn_append_own _ rfl _ _ 22 rfl w.heap.size 3 i0 (.int .i64 0) 1 8 Try.underlying22 hi hz0 hz1 hz2 rfl (by decide) _ _ _ rfl (hrow.alloc _) ⟨W.heap.size, 0, none⟩ 1 1 [.int .i64 x] rfl rfl (cell_one_new _ _ _) (by simp [Value.oneCell']) (by unfold maxLen; omega) (by omega) (by have := hB.size; simp; omega) ?_; intro v' w1 hown' hgrow _; obtain ⟨g', cap', rfl⟩ := ownsRow_succ hown'; obtain ⟨hv1, hv2, hr2, hk2, hb2⟩ := hv.appended (by decide) hrow hB.size (Nat.le_refl _) hown' hgrow; have hc1 := hv1.cell; have hf1 := hv1.frozen)
  exact ⟨hk2.from _, ⟨hb2, hb2.block Bs hBsl⟩, ⟨_, hv2, by simpa using hr2, trivial⟩, hB.trans hb2⟩
 case done =>
  rintro D ys W hD rfl ⟨⟨v, hv, hrow, _⟩, hB⟩ hK
  have hc := hv.cell
  gi_wp2
  refine ⟨by simp, .inl ⟨_, _, rfl, run_takeDeferred hK, ?_⟩⟩
  exact ⟨_, results_tmp rfl _ _ _, v, rfl, ownsRow_putObj hrow _ hK rfl, hB.trans (belowK_b (w := w) (Nat.le_refl _) W D _ _ (by omega) hK rfl rfl)⟩
 case stop =>
  rintro D c pre W _ _ h _
  exact h.elim
set_option maxHeartbeats 1000000 in
theorem collect_in (Bt Bs g : Nat) (ad : Option Addr) (cap : Nat) (s : Int) (zs : List Int) (hreach : zs.length * 8 ≤ 140737488355328) (w : World)
  (hBt : w.cell? ⟨Bt, 0, none⟩ = some (.pointer (some ⟨g, 0, none⟩))) (hBs : w.cell? ⟨Bs, 0, none⟩ = some (.int .i64 s))
  (hg : w.cell? ⟨g, 4, none⟩ = some (.slice ad zs.length cap)) (hz : IntsAt w ad zs) :
  Calls Try.prog 89 #[.func (.func 100) #[] #[.pointer (some ⟨Bt, 0, none⟩), .pointer (some ⟨Bs, 0, none⟩)]] w fun e W' => ∃ v, e = .returned v ∧ W'.ownsRow w.heap.size 3 1 v (atOf zs s).length ((atOf zs s).map (Value.int .i64)) ∧ Below w.heap.size w W' := by
 have H := callsIn_wide.1 (appendSeq_in Bt Bs g ad cap s zs hreach w hBt hBs hg hz)
 go_enter Try.func89, Try.ntmps89
 go_wp2_with fail
 refine H.mono ?_
 rintro e w' ⟨v, rfl, ho, hb⟩
 go_wp2_with fail
 go_ret
 exact ⟨v, rfl, ho, hb⟩
/-- 'load' and 'at' as plain calls. -/
theorem load_calls (g : Nat) (ad : Option Addr) (cap : Nat) (s : Int) (zs : List Int) (hreach : zs.length ≤ 9223372036854775807) (w : World)
  (hg : w.cell? ⟨g, 4, none⟩ = some (.slice ad zs.length cap)) (hz : IntsAt w ad zs) :
  Calls Try.prog 74 #[.pointer (some ⟨g, 0, none⟩), .int .i64 s] w fun e W' => e = .returned (.int .i64 ((atOf zs s).length : Int)) ∧ Below w.heap.size w W' :=
 callsIn_wide.1 (load_in g ad cap s zs hreach w hg hz)
theorem at_calls (g : Option Addr) (s : Int) (w : World) :
  Calls Try.prog 90 #[.pointer g, .int .i64 s] w fun e w' => e = .returned (.func (.func 100) #[] #[.pointer (some ⟨w.heap.size, 0, none⟩), .pointer (some ⟨w.heap.size + 1, 0, none⟩)]) ∧ w' = (w.alloc (.cells #[.pointer g] 68)).alloc (.cells #[.int .i64 s] 3) :=
 callsIn_wide.1 (at_in 1 g s w)
end Go.Proofs.Ytkmmihadcbfkoaa
end

section
namespace Go.Proofs.Ytkmmihadcbfkoaa
open Go.RowKit Go.Proofs.YtkmmihadcbfkoaaW.PrintWords
set_option linter.unusedVariables false
set_option linter.unusedSimpArgs false
theorem cell_of_heap {w : World} {g t j : Nat} {cs : Array Value} {fr : Nat × Nat} {v : Value} (h : w.heap[g]? = some (.cells cs t fr)) (hj : cs[j]? = some v) : w.cell? ⟨g, j, none⟩ = some v := by
 simp [World.cell?, h, hj]
theorem frozen_of_heap {w : World} {g t j : Nat} {cs : Array Value} (h : w.heap[g]? = some (.cells cs t (0, 0))) : w.frozen? ⟨g, j, none⟩ = false := by
 simp [World.frozen?, h]
/-- Block b (element type t) begins with the values xs. -/
def RowAt {α : Type} (w : World) (b t : Nat) (enc : α → Value) (xs : List α) : Prop :=
 ∃ cs, w.heap[b]? = some (.cells cs t (0, 0)) ∧ ∀ (j : Nat) (h : j < xs.length), cs[j]? = some (enc xs[j])
theorem RowAt.lt {α : Type} {w : World} {b t : Nat} {enc : α → Value} {xs : List α} (h : RowAt w b t enc xs) : b < w.heap.size := by
 obtain ⟨cs, h, _⟩ := h
 exact (Array.getElem?_eq_some_iff.1 h).1
theorem RowAt.cell {α : Type} {w : World} {b t : Nat} {enc : α → Value} {xs : List α} (h : RowAt w b t enc xs) (j : Nat) (hj : j < xs.length) : w.cell? ⟨b, j, none⟩ = some (enc xs[j]) := by
 obtain ⟨cs, h, hc⟩ := h
 simp [World.cell?, h, hc j hj]
theorem RowAt.cellD {α : Type} {w : World} {b t : Nat} {enc : α → Value} {xs : List α} (h : RowAt w b t enc xs) (d : α) (i : Int) (h0 : 0 ≤ i) (h1 : i < xs.length) : w.cell? ⟨b, i.toNat, none⟩ = some (enc (xs.getD i.toNat d)) := by
 rw [h.cell i.toNat (by omega)]
 congr 2
 simp [List.getD_eq_getElem?_getD, List.getElem?_eq_getElem (show i.toNat < xs.length by omega)]
theorem RowAt.frozen {α : Type} {w : World} {b t : Nat} {enc : α → Value} {xs : List α} (h : RowAt w b t enc xs) (j : Nat) : w.frozen? ⟨b, j, none⟩ = false := by
 obtain ⟨cs, h, hc⟩ := h
 simp [World.frozen?, h]
theorem RowAt.set {α : Type} {w : World} {b t : Nat} {enc : α → Value} {xs : List α} (h : RowAt w b t enc xs) (i : Nat) (v : α) : RowAt (w.setCell ⟨b, i, none⟩ (enc v)) b t enc (xs.set i v) := by
 obtain ⟨cs, h, hc⟩ := h
 refine ⟨cs.setIfInBounds i (enc v), ?_, fun j hj => ?_⟩
 ·
  simp [World.setCell, Array.getElem?_modify, h]
 have hj' : j < xs.length := by simpa using hj
 rw [Array.getElem?_setIfInBounds, List.getElem_set]
 have hsz : j < cs.size := (Array.getElem?_eq_some_iff.1 (hc j hj')).1
 by_cases e : i = j
 rotate_left
 ·
  simp [e, hc j hj']
 subst e; simp [hsz]
theorem RowAt.same {α : Type} {w w' : World} {b t : Nat} {enc : α → Value} {xs : List α} (h : RowAt w b t enc xs) (e : w'.heap[b]? = w.heap[b]?) : RowAt w' b t enc xs := by
 obtain ⟨cs, h, hc⟩ := h
 exact ⟨cs, e.trans h, hc⟩
theorem RowAt.below {α : Type} {w w' : World} {b t : Nat} {enc : α → Value} {xs : List α} (h : RowAt w b t enc xs) (hb : Below w.heap.size w w') : RowAt w' b t enc xs :=
 h.same (hb.block b h.lt)
theorem below_of_drew {B : Nat} {w w' : World} (h : Below B w.drew w') : Below B w w' := ⟨h.os, h.tape, h.output, h.size, h.block⟩
/-- How many cells a block has. -/
def szOf : Option Obj → Nat
 | some (.cells cs _ _) => cs.size
 | _ => 0
theorem szOf_setCell (w : World) (a : Addr) (v : Value) (k : Nat) : szOf ((w.setCell a v).heap[k]?) = szOf (w.heap[k]?) := by
 simp only [World.setCell, Array.getElem?_modify]
 split
 ·
  cases w.heap[k]? with
  | none => rfl
  | some o =>
   cases o with
   | cells cs e fr =>
    simp only [Option.map_some, szOf]
    split <;> simp
   | _ => rfl
 rfl
/-- Two blocks apart, what lay lies as it lay; these two have as many cells as they had. -/
structure Agree (b1 b2 : Nat) (w w' : World) : Prop where
 os : w'.os = w.os
 tape : w'.tape = w.tape
 output : w'.output = w.output
 size : w.heap.size ≤ w'.heap.size
 block : ∀ k, k < w.heap.size → k ≠ b1 → k ≠ b2 → w'.heap[k]? = w.heap[k]?
 cells : ∀ k, k < w.heap.size → szOf (w'.heap[k]?) = szOf (w.heap[k]?)
theorem Agree.refl (b1 b2 : Nat) (w : World) : Agree b1 b2 w w := ⟨rfl, rfl, rfl, Nat.le_refl _, fun _ _ _ _ => rfl, fun _ _ => rfl⟩
theorem Agree.trans {b1 b2 : Nat} {a b c : World} (h : Agree b1 b2 a b) (k : Agree b1 b2 b c) : Agree b1 b2 a c :=
 ⟨k.os.trans h.os, k.tape.trans h.tape, k.output.trans h.output, Nat.le_trans h.size k.size, fun i hi h1 h2 => (k.block i (Nat.lt_of_lt_of_le hi h.size) h1 h2).trans (h.block i hi h1 h2), fun i hi => (k.cells i (Nat.lt_of_lt_of_le hi h.size)).trans (h.cells i hi)⟩
theorem Agree.of_below {b1 b2 : Nat} {w w' : World} (h : Below w.heap.size w w') : Agree b1 b2 w w' := ⟨h.os, h.tape, h.output, h.size, fun k hk _ _ => h.block k hk, fun k hk => by rw [h.block k hk]⟩
theorem Agree.set1 {b1 b2 : Nat} (w : World) (o : Nat) (v : Value) : Agree b1 b2 w (w.setCell ⟨b1, o, none⟩ v) :=
 ⟨rfl, rfl, rfl, by simp [World.setCell], fun k _ h _ => Below.heap_setCell _ _ _ _ h, fun k _ => szOf_setCell _ _ _ _⟩
theorem Agree.set2 {b1 b2 : Nat} (w : World) (o : Nat) (v : Value) : Agree b1 b2 w (w.setCell ⟨b2, o, none⟩ v) :=
 ⟨rfl, rfl, rfl, by simp [World.setCell], fun k _ _ h => Below.heap_setCell _ _ _ _ h, fun k _ => szOf_setCell _ _ _ _⟩
/-- If both blocks are new, all that lay lies as it lay. -/
theorem Agree.below {b1 b2 B : Nat} {w0 w w' : World} (h0 : Below B w0 w) (hB : B ≤ w.heap.size) (h : Agree b1 b2 w w') (h1 : B ≤ b1) (h2 : B ≤ b2) : Below B w0 w' :=
 h0.trans ⟨h.os, h.tape, h.output, h.size, fun k hk => h.block k (by omega) (by omega) (by omega)⟩
theorem rows_at {w : World} {A : Option Addr} {n : Nat} {xs : List (List Int)} (h : Kd.C (Kd.slice 3 (Kd.int .i64)) w A n xs) (i : Int) (h0 : 0 ≤ i) (h1 : i < n) : ∃ ad A0 c0, A = some ad ∧ w.cell? (ad.add i.toNat) = some (.slice A0 (xs.getD i.toNat []).length c0) ∧ (xs.getD i.toNat []).length ≤ c0 ∧ Kd.C (Kd.int .i64) w A0 (xs.getD i.toNat []).length (xs.getD i.toNat []) := by
 obtain ⟨ad, c, e, _, hK, hc0⟩ := Kd.C_get h ([] : List Int) i h0 h1
 have hc : ∀ j u, c[j]? = some u → w.cell? (ad.add (i.toNat * 1 + j)) = some u := hc0
 obtain ⟨A0, c0, rfl, l0, g0⟩ := hK
 exact ⟨ad, A0, c0, e, by have hq := hc 0 _ rfl; rwa [Nat.mul_one, Nat.add_zero] at hq, l0, g0⟩
/-- The rows of a list of lists, each at an address of its own. -/
def RowsAt (w : World) (A2 : Option Addr) (ra : Nat → Option Addr) (rc : Nat → Nat) (fits : List (List Int)) : Prop :=
 ∀ i, i < fits.length → ∃ a, A2 = some a ∧ w.cell? (a.add i) = some (.slice (ra i) (fits.getD i []).length (rc i)) ∧ Kd.C (Kd.int .i64) w (ra i) (fits.getD i []).length (fits.getD i [])
theorem RowsAt.below {w w' : World} {A2 : Option Addr} {ra : Nat → Option Addr} {rc : Nat → Nat} {fits : List (List Int)} (h : RowsAt w A2 ra rc fits) (hb : Below w.heap.size w w') : RowsAt w' A2 ra rc fits := fun i hi => by
 obtain ⟨a, e, hc, hk⟩ := h i hi
 exact ⟨a, e, pw_cell_below hb hc, Kd.C_below hk hb⟩
theorem RowsAt.of_C {w : World} {A2 : Option Addr} {fits : List (List Int)} (h : Kd.C (Kd.slice 3 (Kd.int .i64)) w A2 fits.length fits) : ∃ ra rc, RowsAt w A2 ra rc fits := by
 have hx : ∀ i : Nat, ∃ p : Option Addr × Nat, i < fits.length → ∃ a, A2 = some a ∧ w.cell? (a.add i) = some (.slice p.1 (fits.getD i []).length p.2) ∧ Kd.C (Kd.int .i64) w p.1 (fits.getD i []).length (fits.getD i []) := fun i => by
  by_cases hi : i < fits.length
  ·
   obtain ⟨a, A0, c0, e, hc, _, hk⟩ := rows_at h (i : Int) (by omega) (by omega)
   exact ⟨(A0, c0), fun _ => ⟨a, e, by simpa using hc, by simpa using hk⟩⟩
  ·
   exact ⟨(none, 0), fun h => absurd h hi⟩
 exact ⟨fun i => (Classical.choose (hx i)).1, fun i => (Classical.choose (hx i)).2, fun i hi => Classical.choose_spec (hx i) hi⟩
/-- Where the parts of a search lie: the trial g; the boxes of t, seen and seek; the rows seen and has; the slices fits and room. -/
structure Lay where
 g : Nat
 Bt : Nat
 Bn : Nat
 Bk : Nat
 bs : Nat
 bh : Nat
 ns : Nat
 nh : Nat
 A2 : Option Addr
 c2 : Nat
 Ar : Option Addr
 cr : Nat
 ch : Nat
 ra : Nat → Option Addr
 rc : Nat → Nat
/-- What stands still in a search. -/
structure Still (c : Lay) (fits : List (List Int)) (room : List Int) (w : World) : Prop where
 t : w.cell? ⟨c.Bt, 0, none⟩ = some (.pointer (some ⟨c.g, 0, none⟩))
 n : w.cell? ⟨c.Bn, 0, none⟩ = some (.slice (some ⟨c.bs, 0, none⟩) c.ns c.ns)
 k : w.cell? ⟨c.Bk, 0, none⟩ = some (.func (.func 96) #[] #[.pointer (some ⟨c.Bt, 0, none⟩), .pointer (some ⟨c.Bn, 0, none⟩), .pointer (some ⟨c.Bk, 0, none⟩)])
 f2 : w.cell? ⟨c.g, 2, none⟩ = some (.slice c.A2 fits.length c.c2)
 f3 : w.cell? ⟨c.g, 3, none⟩ = some (.slice c.Ar room.length c.cr)
 f4 : w.cell? ⟨c.g, 4, none⟩ = some (.slice (some ⟨c.bh, 0, none⟩) c.nh c.ch)
 fits : RowsAt w c.A2 c.ra c.rc fits
 room : Kd.C (Kd.int .i64) w c.Ar room.length room
/-- .. however the rows seen and has turn. -/
def Stands (c : Lay) (fits : List (List Int)) (room : List Int) (w : World) : Prop := ∀ w', Agree c.bs c.bh w w' → Still c fits room w'
theorem Stands.still {c : Lay} {fits : List (List Int)} {room : List Int} {w : World} (h : Stands c fits room w) : Still c fits room w := h w (Agree.refl _ _ _)
theorem Stands.later {c : Lay} {fits : List (List Int)} {room : List Int} {w w' : World} (h : Stands c fits room w) (a : Agree c.bs c.bh w w') : Stands c fits room w' := fun w2 k => h w2 (a.trans k)
/-- What turns in a search. -/
structure Turns (c : Lay) (w : World) (seen : List Bool) (has : List Int) : Prop where
 rs : RowAt w c.bs 4 Value.bool seen
 rh : RowAt w c.bh 3 (Value.int .i64) has
 ls : seen.length = c.ns
 lh : has.length = c.nh
theorem Turns.below {c : Lay} {w w' : World} {seen : List Bool} {has : List Int} (h : Turns c w seen has) (hb : Below w.heap.size w w') : Turns c w' seen has := ⟨h.rs.below hb, h.rh.below hb, h.ls, h.lh⟩
theorem Turns.ne {c : Lay} {w : World} {seen : List Bool} {has : List Int} (h : Turns c w seen has) : c.bs ≠ c.bh := by
 obtain ⟨⟨cs, h1, _⟩, ⟨ct, h2, _⟩, _, _⟩ := h
 intro e
 rw [e, h2] at h1
 injection h1 with h1
 injection h1 with _ h1
 exact absurd h1 (by decide)
theorem Turns.setSeen {c : Lay} {w : World} {seen : List Bool} {has : List Int} (h : Turns c w seen has) (i : Nat) (v : Bool) : Turns c (w.setCell ⟨c.bs, i, none⟩ (.bool v)) (seen.set i v) has :=
 ⟨h.rs.set i v, h.rh.same (Below.heap_setCell _ _ _ _ h.ne.symm), by simp [h.ls], h.lh⟩
theorem Turns.setHas {c : Lay} {w : World} {seen : List Bool} {has : List Int} (h : Turns c w seen has) (i : Nat) (v : Int) : Turns c (w.setCell ⟨c.bh, i, none⟩ (.int .i64 v)) seen (has.set i v) :=
 ⟨h.rs.same (Below.heap_setCell _ _ _ _ h.ne), h.rh.set i v, h.ls, by simp [h.lh]⟩
theorem RowAt.ints {w : World} {b : Nat} {xs : List Int} (h : RowAt w b 3 (Value.int .i64) xs) : IntsAt w (some ⟨b, 0, none⟩) xs := fun j hj => by
 refine ⟨⟨b, 0, none⟩, rfl, h.lt, ?_⟩
 rw [add_plain, h.cell j hj]
 simp [List.getElem?_eq_getElem hj]
end Go.Proofs.Ytkmmihadcbfkoaa
end

section
namespace Go.Proofs.Ytkmmihadcbfkoaa
open Go.RowKit Go.Proofs.YtkmmihadcbfkoaaW.PrintWords PM
set_option linter.unusedVariables false
set_option linter.unusedSimpArgs false
theorem in_calls (n a b : Int) (w : World) : Calls Try.prog 82 #[.int .i64 n, .int .i64 a, .int .i64 b] w fun e w' => e = .returned (.bool (inB n a b)) ∧ Drawn0 w w' :=
 match_in.calls n a b (inB n a b) w (by
  unfold match_in.f inB
  by_cases h : n ≥ a
  ·
   rw [if_pos h]; simp [show a ≤ n from h]
  ·
   rw [if_neg h]; simp [show ¬ a ≤ n from h])
theorem wrap_pm {i : Int} (h0 : 0 ≤ i) (h1 : i ≤ 9223372036854775806) : wrap64 (i + 1) = i + 1 ∧ wrap64 (i - 1) = i - 1 := by
 unfold wrap64
 omega
theorem rising_loop (l : List Int) (a b : Int) (hl : l.length ≤ 9223372036854775807) (d : Nat) : ∀ (k i : Nat), l.length - i = d → i ≤ l.length → d < k →
  match_rising.l0 k l a b l (l.length : Int) (i : Int) = some (((List.range l.length).drop i).all (risAt l a b)) := by
 induction d with
 | zero =>
  intro k i hd hi hk
  obtain ⟨k, rfl⟩ : ∃ m, k = m + 1 := ⟨k - 1, by omega⟩
  simp only [match_rising.l0]
  rw [if_neg (by omega), List.drop_of_length_le (by simp; omega)]
  rfl
 | succ d ih =>
  intro k i hd hi hk
  obtain ⟨k, rfl⟩ : ∃ m, k = m + 1 := ⟨k - 1, by omega⟩
  have hlt : i < l.length := by omega
  have hw := wrap_pm (i := (i : Int)) (by omega) (by omega)
  simp only [match_rising.l0]
  rw [if_pos (by omega), if_pos (by omega), if_pos (by omega), all_range_step hlt]
  have e1 : rd l (i : Int) = l.getD i 0 := by simp [rd]
  rw [e1]
  have e2 : match_in.f (l.getD i 0) a b = some (inB (l.getD i 0) a b) := by
   unfold match_in.f inB
   by_cases h : l.getD i 0 ≥ a
   ·
    rw [if_pos h]; simp only [decide_eq_true (show a ≤ l.getD i 0 from h), Bool.true_and]
   ·
    rw [if_neg h]; simp only [decide_eq_false (show ¬ a ≤ l.getD i 0 from h), Bool.false_and]
  rw [e2, Option.bind_some]
  have ih' := ih k (i + 1) (by omega) (by omega) (by omega)
  rw [show (((i + 1 : Nat)) : Int) = (i : Int) + 1 from by omega] at ih'
  unfold risAt at ih' ⊢
  cases inB (l.getD i 0) a b with
  | false => simp
  | true =>
   rw [if_pos rfl]
   by_cases hz : i = 0
   ·
    subst hz
    rw [if_neg (by omega), hw.1]
    simpa using ih'
   rw [if_pos (by omega), hw.2, if_pos (by omega), if_pos (by omega), hw.1]
   have e3 : rd l ((i : Int) - 1) = l.getD (i - 1) 0 := by
    unfold rd
    congr 1
    omega
   rw [e3]
   by_cases hge : l.getD (i - 1) 0 ≥ l.getD i 0
   rotate_left
   ·
    rw [if_neg hge, ih']
    have : l.getD (i - 1) 0 < l.getD i 0 := by omega
    simp only [decide_eq_true this, Bool.or_true, Bool.true_and]
   rw [if_pos hge]
   simp only [decide_eq_false hz, decide_eq_false (show ¬ l.getD (i - 1) 0 < l.getD i 0 from by omega), Bool.or_false, Bool.and_false, Bool.false_and]
theorem rising_f (l : List Int) (a b : Int) (hl : l.length ≤ 9223372036854775807) : match_rising.f (l.length + 1) l a b = some (risB l a b) := by
 have h := rising_loop l a b hl l.length (l.length + 1) 0 (by omega) (by omega) (by omega)
 unfold match_rising.f risB
 simpa using h
theorem rising_calls (A : Option Addr) (c : Nat) (l : List Int) (a b : Int) (w : World) (hr : Kd.C (Kd.int .i64) w A l.length l) (hc : l.length ≤ c) (hl : l.length ≤ 9223372036854775807) :
  Calls Try.prog 68 #[.slice A l.length c, .int .i64 a, .int .i64 b] w fun e w' => e = .returned (.bool (risB l a b)) ∧ Drawn0 w w' :=
 match_rising.calls (l.length + 1) A c l a b _ w hr hc (rising_f l a b hl)
/-- The closure asks whether a row is not rising. -/
theorem notris_calls (A : Option Addr) (c : Nat) (l : List Int) (B : Nat) (A1 : Option Addr) (n1 c1 : Nat) (w : World) (hb : w.cell? ⟨B, 1, none⟩ = some (.slice A1 n1 c1)) (hn : n1 ≤ 200) (hr : Kd.C (Kd.int .i64) w A l.length l) (hc : l.length ≤ c) (hl : l.length ≤ 9223372036854775807) :
  Calls Try.prog 84 #[.slice A l.length c, .pointer (some ⟨B, 0, none⟩)] w fun e w' => e = .returned (.bool (!risB l 0 ((n1 : Int) - 1))) ∧ Drawn0 w w' := by
 have RC := rising_calls A c l 0 ((n1 : Int) - 1) w hr hc hl
 go_enter Try.func84, Try.ntmps84
 go_wp2_with fail
 refine RC.mono ?_
 clear RC
 rintro e w' ⟨rfl, hd⟩
 go_wp2_with fail
 go_ret
 exact ⟨rfl, hd⟩
def IdxPost (p : List Int → Bool) (T : List (List Int)) (w : World) (e : Ending) (w' : World) : Prop := ∃ r : Int, e = .returned (.int .i64 r) ∧ decide (0 ≤ r) = !(T.all p) ∧ Drawn0 w w'
theorem Drawn0.trans' {a b c : World} (h : Drawn0 a b) (k : Drawn0 b c) : Drawn0 a c := by
 obtain ⟨n, rfl⟩ := h
 obtain ⟨m, rfl⟩ := k
 exact ⟨⟨n + m, World.drewN_drewN ..⟩⟩
set_option maxRecDepth 100000 in
set_option maxHeartbeats 2000000 in
theorem idxfunc_calls (A2 : Option Addr) (c2 : Nat) (T : List (List Int)) (B : Nat) (A1 : Option Addr) (n1 c1 : Nat) (w : World) (hb : w.cell? ⟨B, 1, none⟩ = some (.slice A1 n1 c1)) (hn : n1 ≤ 200) (hr : Kd.C (Kd.slice 3 (Kd.int .i64)) w A2 T.length T) (hl : T.length ≤ 1000000) :
  Calls Try.prog 93 #[.slice A2 T.length c2, .func (.func 84) #[] #[.pointer (some ⟨B, 0, none⟩)]] w (IdxPost (fun l => risB l 0 ((n1 : Int) - 1)) T w) := by
 have HR := Go.Lib.hid hr
 have HB := Go.Lib.hid hb
 clear hr hb
 go_enter Try.func93, Try.ntmps93
 go_wp2_with fail
 go_loopw [8] (fun i wr => ∃ k : Nat, k ≤ T.length ∧ i = .int .i64 k ∧ Hid ((T.take k).all (fun l => risB l 0 ((n1 : Int) - 1)) = true ∧ Drawn0 w wr)) (fun i _ => T.length - (intOf i).toNat)
 case atStart => exact ⟨0, Nat.zero_le _, rfl, rfl, Drawn0.refl _⟩
 obtain ⟨k, hk, rfl, HID⟩ := hrel
 obtain ⟨hall, hd⟩ := HID.out
 by_cases hlt : k < T.length
 rotate_left
 ·
  obtain rfl : k = T.length := by omega
  rw [List.take_length] at hall
  have HAL := Go.Lib.hid hall
  have HD := Go.Lib.hid hd
  clear hall hd HID
  go_wp2_with fail
  go_ret
  exact ⟨-1, rfl, by rw [HAL.out]; rfl, HD.out⟩
 have hbl := hd.below
 obtain ⟨a, A, c, e2, hx, hlc, hC⟩ := rows_at (Kd.C_below HR.out hbl) (k : Int) (by omega) (by omega)
 rw [Int.toNat_natCast] at hx hlc hC
 have hcap : (T.getD k []).length ≤ 9223372036854775807 := hC.2.1
 obtain ⟨row, hrw⟩ : ∃ row, T.getD k [] = row := ⟨_, rfl⟩
 rw [hrw] at hx hlc hC hcap
 have NR := notris_calls A c row B A1 n1 c1 wr ((hbl.cell (World.block_lt_of_cell? w _ HB.out)).trans HB.out) hn hC hlc hcap
 have htk : T.take (k + 1) = T.take k ++ [row] := by
  rw [List.take_succ_eq_append_getElem hlt, ← hrw]
  simp [List.getD_eq_getElem?_getD, List.getElem?_eq_getElem hlt]
 have HTK := Go.Lib.hid htk
 have HRW := Go.Lib.hid hrw
 have HAL := Go.Lib.hid hall
 have HD := Go.Lib.hid hd
 have e2' := e2
 clear htk hrw hall hd hbl hC HID
 subst e2'
 go_wp2_with fail
 refine NR.mono ?_
 clear NR
 rintro e w1 ⟨rfl, hd1⟩
 have HD1 := Go.Lib.hid (Drawn0.trans' HD.out hd1)
 clear hd1
 cases hrs : risB row 0 ((n1 : Int) - 1) with
 | true =>
  have HRS := Go.Lib.hid hrs
  rw [Bool.not_true]
  clear hrs
  go_wp2_with fail
  go_roundw
  case rel => exact ⟨k + 1, by omega, by simp, by rw [HTK.out, List.all_append, HAL.out]; simp [HRS.out], HD1.out⟩
  case measure => simp [intOf]; omega
 | false =>
  have HRS := Go.Lib.hid hrs
  rw [Bool.not_false]
  clear hrs
  go_wp2_with fail
  go_ret
  refine ⟨(k : Int), rfl, ?_, HD1.out⟩
  have hf : T.all (fun l => risB l 0 ((n1 : Int) - 1)) = false := by
   rw [List.all_eq_false]
   refine ⟨row, ?_, by rw [HRS.out]; simp⟩
   rw [← HRW.out, List.getD_eq_getElem?_getD, List.getElem?_eq_getElem hlt]
   exact List.getElem_mem hlt
  rw [hf]
  simp
theorem contfunc_calls (A2 : Option Addr) (c2 : Nat) (T : List (List Int)) (B : Nat) (A1 : Option Addr) (n1 c1 : Nat) (w : World) (hb : w.cell? ⟨B, 1, none⟩ = some (.slice A1 n1 c1)) (hn : n1 ≤ 200) (hr : Kd.C (Kd.slice 3 (Kd.int .i64)) w A2 T.length T) (hl : T.length ≤ 1000000) :
  Calls Try.prog 83 #[.slice A2 T.length c2, .func (.func 84) #[] #[.pointer (some ⟨B, 0, none⟩)]] w fun e w' => e = .returned (.bool (!(T.all fun l => risB l 0 ((n1 : Int) - 1)))) ∧ Drawn0 w w' := by
 have IC := idxfunc_calls A2 c2 T B A1 n1 c1 w hb hn hr hl
 go_enter Try.func83, Try.ntmps83
 go_wp2_with fail
 refine IC.mono ?_
 clear IC
 rintro e w' ⟨r, rfl, hr1, hd⟩
 have HR1 := Go.Lib.hid hr1
 clear hr1
 go_wp2_with fail
 go_ret
 exact ⟨by rw [← HR1.out]; rfl, hd⟩
end Go.Proofs.Ytkmmihadcbfkoaa
end

section
namespace Go.Proofs.Ytkmmihadcbfkoaa
open Go.RowKit Go.Proofs.YtkmmihadcbfkoaaW.PrintWords
set_option linter.unusedVariables false
set_option linter.unusedSimpArgs false
/-- What the search comes to, in memory. -/
def SeekPost (c : Lay) (r : SR) (w : World) (e : Ending) (w' : World) : Prop := e = .returned (.bool r.ok) ∧ Agree c.bs c.bh w w' ∧ Turns c w' r.seen r.has
/-- The board is as said, and not too great. -/
structure Fit (c : Lay) (fits : List (List Int)) (room : List Int) : Prop where
 slot : ∀ i : Nat, i < fits.length → ∀ j : Nat, j < (fits.getD i []).length → 0 ≤ (fits.getD i []).getD j 0 ∧ (fits.getD i []).getD j 0 < c.ns
 room : room.length = c.ns
 row : ∀ i : Nat, i < fits.length → (fits.getD i []).length ≤ 1000000
 finds : fits.length = c.nh
 ns : c.ns ≤ 1000000
 nh : c.nh ≤ 1000000
/-- Between two rounds of the loop over the finds that a slot was given to. -/
structure GRel (c : Lay) (fits : List (List Int)) (room : List Int) (rec : Int → List Bool → List Int → SR) (gs : List Int) (f : Int) (m : Nat) (r : SR) (w : World) (j : Nat) (wr : World) : Prop where
 mk :: (out : ∃ sn hs, seekG rec f (gs.drop j) sn hs = r ∧ Stands c fits room wr ∧ Turns c wr sn hs ∧ Agree c.bs c.bh w wr ∧ cnt sn < m)
/-- The row of a list that was collected reads on, whatever the search does. -/
theorem collected_reads {c : Lay} {w3 w4 : World} {v : Value} {gs : List Int} (h1 : c.bs < w3.heap.size) (h2 : c.bh < w3.heap.size) (ho : w4.ownsRow w3.heap.size 3 1 v gs.length (gs.map (Value.int .i64))) :
  ∃ A cc, v = .slice A gs.length cc ∧ ∀ w5, Agree c.bs c.bh w4 w5 → ReadsInt w5 .i64 A gs.length gs := by
 obtain ⟨A, cc, rfl, _⟩ := own_reads (k := .i64) (xs := gs) ho
 refine ⟨A, cc, rfl, fun w5 ag => ?_⟩
 have ho5 := own_move (w1 := w5) ho (fun k hk => ag.block k (own_lt ho k hk) (by have := own_base ho k hk; omega) (by have := own_base ho k hk; omega))
 obtain ⟨A', c', e, hr⟩ := own_reads (k := .i64) (xs := gs) ho5
 injection e with e1 e2 e3
 rw [e1]
 exact hr
/-- Between two rounds of the loop over the slots that a find fits. -/
structure SkRel (c : Lay) (fits : List (List Int)) (room : List Int) (rec : Int → List Bool → List Int → SR) (row : List Int) (f : Int) (m : Nat) (r : SR) (w : World) (k : Nat) (wr : World) : Prop where
 mk :: (out : ∃ sn hs, seekS rec room f (row.drop k) sn hs = r ∧ Stands c fits room wr ∧ Turns c wr sn hs ∧ Agree c.bs c.bh w wr ∧ cnt sn < m + 1)
set_option maxRecDepth 100000 in
set_option maxHeartbeats 4000000 in
theorem seek_calls (c : Lay) (fits : List (List Int)) (room : List Int) (hF : Fit c fits room) (m : Nat) : ∀ (f : Int) (seen : List Bool) (has : List Int) (w : World), cnt seen < m → 0 ≤ f → f < c.nh →
  Stands c fits room w → Turns c w seen has →
  Calls Try.prog 96 #[.int .i64 f, .pointer (some ⟨c.Bt, 0, none⟩), .pointer (some ⟨c.Bn, 0, none⟩), .pointer (some ⟨c.Bk, 0, none⟩)] w (SeekPost c (seekF fits room m f seen has) w) := by
 induction m with
 | zero => intro f seen has w h; omega
 | succ m ih =>
  intro f seen has w hm h0 h1 hS hT
  have hst := hS.still
  have hlf : f < (fits.length : Int) := by rw [hF.finds]; exact h1
  obtain ⟨fn, rfl⟩ := Int.eq_ofNat_of_zero_le h0
  have hfn : fn < fits.length := by omega
  obtain ⟨ad2, eA2, hrc, hrow⟩ := hst.fits fn hfn
  have hslot := hF.slot fn hfn
  have hrl := hF.row fn hfn
  obtain ⟨r, hr⟩ : ∃ r, seekF fits room (m + 1) (fn : Int) seen has = r := ⟨_, rfl⟩
  rw [hr]
  unfold seekF at hr
  rw [Int.toNat_natCast] at hr
  obtain ⟨row, hrw⟩ : ∃ row, fits.getD fn [] = row := ⟨_, rfl⟩
  rw [hrw] at hr hrl hslot hrow hrc
  have HRW := Go.Lib.hid hrw
  clear hrw
  have t1 := hst.t
  have t2 := hst.f2
  rw [eA2] at t2
  have p0 := eq_true h0
  have q0 := eq_true hlf
  have HT := Go.Lib.hid hT
  have HS := Go.Lib.hid hS
  have HR := Go.Lib.hid hrow
  have hcap : row.length ≤ 9223372036854775807 := by omega
  have HF := Go.Lib.hid hF
  have IH := Go.Lib.hid ih
  have HL := Go.Lib.hid hslot
  have HE := Go.Lib.hid hr
  have HST := Go.Lib.hid hst
  clear hst hT hS ih hF hrow hslot hr
  go_enter Try.func96, Try.ntmps96
  go_wp2_with fail
  go_loopw [19] (fun i wr => ∃ k : Nat, k ≤ row.length ∧ i = .int .i64 k ∧ SkRel c fits room (seekF fits room m) row fn m r w k wr) (fun i _ => row.length - (intOf i).toNat)
  case atStart => exact ⟨0, Nat.zero_le _, rfl, ⟨seen, has, HE.out, HS.out, HT.out, Agree.refl _ _ _, hm⟩⟩
  obtain ⟨k, hk, rfl, ⟨sn, hs, hre, hS, hT, hA, hcn⟩⟩ := hrel
  have hst := hS.still
  by_cases hlt : k < row.length
  rotate_left
  ·
   obtain rfl : k = row.length := by omega
   rw [List.drop_length] at hre
   unfold seekS at hre
   have HT5 := Go.Lib.hid hT
   have HA5 := Go.Lib.hid hA
   have HREa := Go.Lib.hid hre
   clear hT hA hre hst hS
   go_wp2_with fail
   go_ret
   have hfin := HREa.out
   subst hfin
   exact ⟨rfl, HA5.out, HT5.out⟩
  obtain ⟨ad2', eA2', hrc', hrow'⟩ := hst.fits fn hfn
  rw [HRW.out] at hrow' hrc'
  obtain ⟨a3, e3, hx3⟩ := Kd.at_int hrow' (k : Int) (by omega) (by omega)
  obtain ⟨s, hs0⟩ : ∃ s, row.getD k 0 = s := ⟨_, rfl⟩
  have hdrop : row.drop k = s :: row.drop (k + 1) := by
   rw [List.drop_eq_getElem_cons hlt, ← hs0]
   simp [List.getD_eq_getElem?_getD, List.getElem?_eq_getElem hlt]
  have hsl := HL.out k hlt
  have e4 : rd row (k : Int) = s := by rw [← hs0]; simp [rd]
  rw [hs0] at hsl
  rw [hdrop] at hre
  rw [e4, Int.toNat_natCast] at hx3
  obtain ⟨hs1, hs2⟩ := hsl
  have b1 := hst.t
  have b2 := hst.n
  have b3 := hT.rs.cellD false s hs1 (by rw [hT.ls]; exact hs2)
  have p1 := eq_true hs1
  have q1 := eq_true hs2
  clear hrc' hrow' hs0 e4 hdrop eA2'
  have HT := Go.Lib.hid hT
  have HS := Go.Lib.hid hS
  have HST := Go.Lib.hid hst
  have HA := Go.Lib.hid hA
  have HRE := Go.Lib.hid hre
  clear hT hS hst hA hre t1 t2 hrc
  rw [e3]
  clear e3
  by_cases hsn : sn.getD s.toNat false = true
  ·
   rw [hsn] at b3
   have HSN := Go.Lib.hid hsn
   clear hsn
   go_wp2_with fail
   go_roundw
   case rel => exact ⟨k + 1, by omega, by simp, ⟨sn, hs, by have h := HRE.out; unfold seekS at h; rw [if_pos HSN.out] at h; exact h, HS.out, HT.out, HA.out, hcn⟩⟩
   case measure => simp [intOf]; omega
  have hsn' : sn.getD s.toNat false = false := by simpa using hsn
  rw [hsn'] at b3
  have HSN := Go.Lib.hid hsn'
  clear hsn hsn'
  have f1 := HT.out.rs.frozen s.toNat
  go_wp2_with fail
  have ag : Agree c.bs c.bh wr (wr.setCell ⟨c.bs, s.toNat, none⟩ (.bool true)) := Agree.set1 _ _ _
  have hT1 := HT.out.setSeen s.toNat true
  generalize wr.setCell ⟨c.bs, s.toNat, none⟩ (.bool true) = w1 at *
  have hS1 := HS.out.later ag
  have hst1 := hS1.still
  have d1 := hst1.t
  have d3 := hst1.f3
  have d4 := hst1.f4
  have hrl2 : s < (room.length : Int) := by rw [HF.out.room]; exact hs2
  obtain ⟨ar, ear, hxr⟩ := Kd.at_int hst1.room s hs1 hrl2
  rw [ear] at d3
  obtain ⟨q, hq⟩ : ∃ q, rd room s = q := ⟨_, rfl⟩
  rw [hq] at hxr
  have q2 := eq_true hrl2
  have hz := hT1.rh.ints
  have hgl := World.block_lt_of_cell? w1 _ d3
  have htl := World.block_lt_of_cell? w1 _ d1
  have harl := World.block_lt_of_cell? w1 _ hxr
  have d4' : w1.cell? ⟨c.g, 4, none⟩ = some (.slice (some ⟨c.bh, 0, none⟩) hs.length c.ch) := by rw [HT.out.lh]; exact d4
  have hlen : hs.length ≤ 9223372036854775807 := by rw [HT.out.lh]; have := HF.out.nh; omega
  have LC := load_calls c.g (some ⟨c.bh, 0, none⟩) c.ch s hs hlen w1.drew d4' hz
  have HZ := Go.Lib.hid hz
  have HD4 := Go.Lib.hid d4'
  have HQ := Go.Lib.hid hq
  have HT1 := Go.Lib.hid hT1
  have HS1 := Go.Lib.hid hS1
  have HAG := Go.Lib.hid ag
  have HSTt := Go.Lib.hid hst1
  have HEAR := Go.Lib.hid ear
  clear hz d4 d4' hq hT1 hS1 ag hst1 b1 b2 b3 hx3 hlen ear hlf q0 f1 eA2
  go_region_held3 (fun w' => w'.cell? ⟨c.Bt, 0, none⟩ = some (.pointer (some ⟨c.g, 0, none⟩)) ∧ w'.cell? ⟨c.g, 3, none⟩ = some (.slice (some ar) room.length c.cr) ∧ w'.cell? (ar.add s.toNat) = some (.int .i64 q))
   (go_keep)
   (first | (go_at_call 74; refine LC.mono ?_; rintro e w' ⟨rfl, hb0⟩; have hb := below_of_drew hb0; clear hb0; have k1 := (hb.cell (p := ⟨c.Bt, 0, none⟩) htl).trans d1; have k2 := (hb.cell (p := ⟨c.g, 3, none⟩) hgl).trans d3; have k3 := (hb.cell (p := ar.add s.toNat) harl).trans hxr))
  have hT2 : Turns c w' (sn.set s.toNat true) hs := HT1.out.below hb
  have hS2 : Stands c fits room w' := HS1.out.later (Agree.of_below hb)
  have hA2 : Agree c.bs c.bh w w' := HA.out.trans (HAG.out.trans (Agree.of_below hb))
  have hcn2 : cnt (sn.set s.toNat true) < m := by
   have := cnt_set (seen := sn) (i := s.toNat) (by rw [HT.out.ls]; omega) HSN.out
   omega
  have hre := HRE.out
  unfold seekS at hre
  rw [if_neg (by rw [HSN.out]; simp)] at hre
  rw [show room.getD s.toNat 0 = q from HQ.out] at hre
  have g4 := hS2.still.f4
  obtain ⟨x5, g5⟩ : ∃ x5, w'.cell? ⟨c.bh, fn, none⟩ = some (.int .i64 x5) := ⟨_, hT2.rh.cell fn (by rw [hT2.lh]; omega)⟩
  have g6 := hT2.rh.frozen fn
  have qn : ((fn : Int) < (c.nh : Int)) = True := eq_true h1
  have HT2 := Go.Lib.hid hT2
  have HS2 := Go.Lib.hid hS2
  have HA2 := Go.Lib.hid hA2
  have HB := Go.Lib.hid hb
  have HCN := Go.Lib.hid hcn2
  clear hT2 hS2 hA2 hb d1 d3 hxr k2 k3 hcn2 LC
  by_cases hld : ((atOf hs s).length : Int) < q
  ·
   rw [if_pos (show ld hs s < q from hld)] at hre
   have HRE := Go.Lib.hid hre
   clear hre
   go_wp2_with fail
   go_ret
   have hfin := HRE.out
   subst hfin
   exact ⟨rfl, HA2.out.trans (Agree.set2 _ _ _), HT2.out.setHas fn s⟩
  rw [if_neg (show ¬ ld hs s < q from hld)] at hre
  have HRE2 := Go.Lib.hid hre
  clear hre
  go_wp2_with fail
  refine (at_calls _ _ _).mono ?_
  rintro e w3 ⟨rfl, rfl⟩
  go_wp2_with fail
  have hB3 : Below w'.heap.size w' ((w'.alloc (.cells #[.pointer (some ⟨c.g, 0, none⟩)] 68)).alloc (.cells #[.int .i64 s] 3)) := ((Below.refl _ w').alloc (Nat.le_refl _) _).alloc (by simp) _
  have bT := ((Boxed.new w' 68 (.pointer (some ⟨c.g, 0, none⟩))).alloc (.cells #[.int .i64 s] 3)).cell
  have bS := (Boxed.new (w'.alloc (.cells #[.pointer (some ⟨c.g, 0, none⟩)] 68)) 3 (.int .i64 s)).cell
  simp only [World.size_alloc] at bS
  have hlen8 : hs.length * 8 ≤ 140737488355328 := by rw [HT.out.lh]; have := HF.out.nh; omega
  have CO := collect_in w'.heap.size (w'.heap.size + 1) c.g (some ⟨c.bh, 0, none⟩) c.ch s hs hlen8 _ bT bS (by rw [HT2.out.lh]; exact ((HS2.out.later (Agree.of_below hB3)).still.f4)) (HT2.out.below hB3).rh.ints
  refine CO.mono ?_
  clear CO
  rintro e w4 ⟨v4, rfl, ho4, hb4⟩
  have hT4 := (HT2.out.below hB3).below hb4
  have hS4 := (HS2.out.later (Agree.of_below hB3)).later (Agree.of_below hb4)
  have hA4 := (HA2.out.trans (Agree.of_below hB3)).trans (Agree.of_below hb4)
  generalize (w'.alloc (.cells #[.pointer (some ⟨c.g, 0, none⟩)] 68)).alloc (.cells #[.int .i64 s] 3) = w3 at *
  have hb3 := (HT2.out.below hB3)
  obtain ⟨gs, hgs⟩ : ∃ gs, atOf hs s = gs := ⟨_, rfl⟩
  have hgm : ∀ j : Nat, j < gs.length → 0 ≤ gs.getD j 0 ∧ gs.getD j 0 < (c.nh : Int) := fun j hj => by
   have hm2 : gs.getD j 0 ∈ atOf hs s := by
    rw [hgs, List.getD_eq_getElem?_getD, List.getElem?_eq_getElem hj]
    exact List.getElem_mem hj
   have := mem_atOf.1 hm2
   rw [HT.out.lh] at this
   exact ⟨this.1, this.2.1⟩
  have hgl : gs.length ≤ 1000000 := by
   have := atTo_length hs s hs.length
   rw [show atTo hs s hs.length = gs from hgs, HT.out.lh] at this
   have := HF.out.nh
   omega
  have hre := HRE2.out
  rw [hgs] at ho4 hre
  obtain ⟨A4, c4, rfl, hR4⟩ := collected_reads (c := c) (Nat.lt_of_lt_of_le HT2.out.rs.lt hB3.size) (Nat.lt_of_lt_of_le HT2.out.rh.lt hB3.size) ho4
  obtain ⟨r2, hr2⟩ : ∃ r2, seekG (seekF fits room m) (fn : Int) gs (sn.set s.toNat true) hs = r2 := ⟨_, rfl⟩
  rw [hr2] at hre
  have HRE := Go.Lib.hid hre
  have HR2 := Go.Lib.hid hr2
  have HGM := Go.Lib.hid hgm
  have HGS := Go.Lib.hid hgs
  have HT4 := Go.Lib.hid hT4
  have HS4 := Go.Lib.hid hS4
  have HA4 := Go.Lib.hid hA4
  have HR4 := Go.Lib.hid hR4
  clear hre hr2 hgm hgs hT4 hS4 hA4 hR4 ho4 hb4 hb3 bT bS hlen8 k1 g4 g5 g6
  have gcap : gs.length ≤ 9223372036854775807 := by omega
  go_wp2_with fail
  go_loopw [53] (fun i wx => ∃ j : Nat, j ≤ gs.length ∧ i = .int .i64 j ∧ GRel c fits room (seekF fits room m) gs fn m r2 w4 j wx) (fun i _ => gs.length - (intOf i).toNat)
  case atStart => exact ⟨0, Nat.zero_le _, rfl, ⟨_, _, HR2.out, HS4.out, HT4.out, Agree.refl _ _ _, HCN.out⟩⟩
  obtain ⟨j, hj, rfl, ⟨sn2, hs2', hre2, hS5, hT5, hA5, hcn5⟩⟩ := hrel
  by_cases hlt2 : j < gs.length
  rotate_left
  ·
   obtain rfl : j = gs.length := by omega
   have hre := hre2
   rw [List.drop_length] at hre
   unfold seekG at hre
   have HT5 := Go.Lib.hid hT5
   have HS5 := Go.Lib.hid hS5
   have HA5 := Go.Lib.hid hA5
   have HREa := Go.Lib.hid hre
   clear hT5 hS5 hA5 hre hre2
   go_wp2_with fail
   go_roundw
   case rel =>
    have hfin := HRE.out
    rw [← HREa.out, if_neg (by simp)] at hfin
    exact ⟨k + 1, by omega, by simp, ⟨sn2, hs2', hfin, HS5.out, HT5.out, HA4.out.trans HA5.out, by omega⟩⟩
   case measure => simp [intOf]; omega
  obtain ⟨a6, e6, hx6⟩ := (HR4.out _ hA5).at_ (j : Int) (by omega) (by omega)
  obtain ⟨g, hg0⟩ : ∃ g, gs.getD j 0 = g := ⟨_, rfl⟩
  have hdrop2 : gs.drop j = g :: gs.drop (j + 1) := by
   rw [List.drop_eq_getElem_cons hlt2, ← hg0]
   simp [List.getD_eq_getElem?_getD, List.getElem?_eq_getElem hlt2]
  have hgb := HGM.out j hlt2
  have e7 : rd gs (j : Int) = g := by rw [← hg0]; simp [rd]
  rw [hg0] at hgb
  rw [hdrop2] at hre2
  rw [e7, Int.toNat_natCast] at hx6
  obtain ⟨hgb1, hgb2⟩ := hgb
  have b7 := hS5.still.k
  have HRE5 := Go.Lib.hid hre2
  have HT5 := Go.Lib.hid hT5
  have HS5 := Go.Lib.hid hS5
  have HA5 := Go.Lib.hid hA5
  clear hre2 hT5 hS5 hA5 hg0 e7 hdrop2
  rw [e6]
  clear e6
  by_cases hgf : g = (fn : Int)
  ·
   have hgf1 : (g != (fn : Int)) = false := by simpa using hgf
   have HGF := Go.Lib.hid hgf
   clear hgf
   go_wp2_with fail
   go_roundw
   case rel => exact ⟨j + 1, by omega, by simp, ⟨sn2, hs2', by have h := HRE5.out; unfold seekG at h; rw [if_pos HGF.out] at h; exact h, HS5.out, HT5.out, HA5.out, hcn5⟩⟩
   case measure => simp [intOf]; omega
  have hgf1 : (g != (fn : Int)) = true := by simpa using hgf
  have HGF := Go.Lib.hid hgf
  clear hgf
  have CI := IH.out g sn2 hs2' wr hcn5 hgb1 hgb2 HS5.out HT5.out
  go_wp2_with fail
  refine CI.mono ?_
  clear CI
  obtain ⟨r3, hr3⟩ : ∃ r3, seekF fits room m g sn2 hs2' = r3 := ⟨_, rfl⟩
  have hok3 := seekF_ok fits room m g sn2 hs2'
  rw [hr3] at hok3 ⊢
  have HR3 := Go.Lib.hid hr3
  have HOK3 := Go.Lib.hid hok3
  clear hr3 hok3
  rintro e w6 ⟨rfl, ag6, hT6⟩
  have hS6 := HS5.out.later ag6
  have hA6 := HA5.out.trans ag6
  have hre := HRE5.out
  unfold seekG at hre
  rw [if_neg HGF.out, HR3.out] at hre
  by_cases hok : r3.ok = true
  rotate_left
  ·
   rw [if_neg hok] at hre
   have hok' : r3.ok = false := by simpa using hok
   have hcn6 : cnt r3.seen < m := Nat.lt_of_le_of_lt HOK3.out.2.2 hcn5
   have HT6 := Go.Lib.hid hT6
   have HS6 := Go.Lib.hid hS6
   have HA6 := Go.Lib.hid hA6
   have HREa := Go.Lib.hid hre
   rw [hok']
   clear hT6 hS6 hA6 hre ag6 hok hok' hx6 b7
   go_wp2_with fail
   go_roundw
   case rel => exact ⟨j + 1, by omega, by simp, ⟨r3.seen, r3.has, HREa.out, HS6.out, HT6.out, HA6.out, hcn6⟩⟩
   case measure => simp [intOf]; omega
  rw [if_pos hok] at hre
  have g0 := hS6.still.t
  have g4 := hS6.still.f4
  obtain ⟨x5, g5⟩ : ∃ x5, w6.cell? ⟨c.bh, fn, none⟩ = some (.int .i64 x5) := ⟨_, hT6.rh.cell fn (by rw [hT6.lh]; omega)⟩
  have g6 := hT6.rh.frozen fn
  have HT6 := Go.Lib.hid hT6
  have HS6 := Go.Lib.hid hS6
  have HA6 := Go.Lib.hid hA6
  have HREa := Go.Lib.hid hre
  have HOK := Go.Lib.hid hok
  rw [hok]
  clear hT6 hS6 hA6 hre ag6 hok hx6 b7
  go_wp2_with fail
  go_ret
  have hfin := HRE.out
  rw [← HREa.out, if_pos HOK.out] at hfin
  subst hfin
  exact ⟨rfl, (HA4.out.trans HA6.out).trans (Agree.set2 _ _ _), HT6.out.setHas fn s⟩
end Go.Proofs.Ytkmmihadcbfkoaa
end

section
namespace Go.Proofs
open Go.Shelf
def Try.lays189_ren : Go.Shelf.Ren := ⟨fun | 189 => 97 | 125 => 102 | 257 => 101 | 128 => 112 | 129 => 113 | 294 => 103 | 295 => 104 | 296 => 105 | 297 => 106 | 298 => 107 | 299 => 108 | 216 => 109 | 300 => 110 | 301 => 111 | 328 => 114 | 329 => 115 | 330 => 116 | 331 => 117 | 332 => 118 | 215 => 119 | 343 => 120 | n => n, fun | 28 => 22 | 3 => 3 | 46 => 101 | 0 => 0 | 51 => 112 | 53 => 115 | 4 => 4 | 183 => 125 | 182 => 124 | 131 => 129 | 5 => 5 | 9 => 9 | 218 => 133 | 222 => 137 | 228 => 139 | 229 => 43 | n => n, fun | n => n⟩
theorem Try.lays189 : Go.Proofs.Lays.n189 Try.prog Try.lays189_ren := {
 mixed := by kernel_rfl
 f125 := Try.func102.trans (congrArg some (by kernel_rfl))
 f128 := Try.func112.trans (congrArg some (by kernel_rfl))
 f129 := Try.func113.trans (congrArg some (by kernel_rfl))
 f189 := Try.func97.trans (congrArg some (by kernel_rfl))
 f215 := Try.func119.trans (congrArg some (by kernel_rfl))
 f216 := Try.func109.trans (congrArg some (by kernel_rfl))
 f257 := Try.func101.trans (congrArg some (by kernel_rfl))
 f294 := Try.func103.trans (congrArg some (by kernel_rfl))
 f295 := Try.func104.trans (congrArg some (by kernel_rfl))
 f296 := Try.func105.trans (congrArg some (by kernel_rfl))
 f297 := Try.func106.trans (congrArg some (by kernel_rfl))
 f298 := Try.func107.trans (congrArg some (by kernel_rfl))
 f299 := Try.func108.trans (congrArg some (by kernel_rfl))
 f300 := Try.func110.trans (congrArg some (by kernel_rfl))
 f301 := Try.func111.trans (congrArg some (by kernel_rfl))
 f328 := Try.func114.trans (congrArg some (by kernel_rfl))
 f329 := Try.func115.trans (congrArg some (by kernel_rfl))
 f330 := Try.func116.trans (congrArg some (by kernel_rfl))
 f331 := Try.func117.trans (congrArg some (by kernel_rfl))
 f332 := Try.func118.trans (congrArg some (by kernel_rfl))
 f343 := Try.func120.trans (congrArg some (by kernel_rfl))
 t0 := Try.underlying0
 a0 := Try.isAgg0
 z0 := Try.sizeOf0
 v0 := Try.zeroValue0
 t3 := Try.underlying3
 a3 := Try.isAgg3
 z3 := Try.sizeOf3
 v3 := Try.zeroValue3
 t4 := Try.underlying4
 a4 := Try.isAgg4
 z4 := Try.sizeOf4
 v4 := Try.zeroValue4
 t5 := Try.underlying5
 a5 := Try.isAgg5
 z5 := Try.sizeOf5
 v5 := Try.zeroValue5
 t9 := Try.underlying9
 a9 := Try.isAgg9
 z9 := Try.sizeOf9
 v9 := Try.zeroValue9
 t28 := Try.underlying22
 a28 := Try.isAgg22
 z28 := Try.sizeOf22
 v28 := Try.zeroValue22
 t46 := Try.underlying101
 a46 := Try.isAgg101
 z46 := Try.sizeOf101
 v46 := Try.zeroValue101
 t51 := Try.underlying112
 a51 := Try.isAgg112
 z51 := Try.sizeOf112
 v51 := Try.zeroValue112
 t53 := Try.underlying115
 a53 := Try.isAgg115
 z53 := Try.sizeOf115
 v53 := Try.zeroValue115
 t131 := Try.underlying129
 a131 := Try.isAgg129
 z131 := Try.sizeOf129
 v131 := Try.zeroValue129
 t182 := Try.underlying124
 a182 := Try.isAgg124
 z182 := Try.sizeOf124
 v182 := Try.zeroValue124
 t183 := Try.underlying125
 a183 := Try.isAgg125
 z183 := Try.sizeOf125
 v183 := Try.zeroValue125
 t218 := Try.underlying133
 a218 := Try.isAgg133
 z218 := Try.sizeOf133
 v218 := Try.zeroValue133
 t222 := Try.underlying137
 a222 := Try.isAgg137
 z222 := Try.sizeOf137
 v222 := Try.zeroValue137
 t228 := Try.underlying139
 a228 := Try.isAgg139
 z228 := Try.sizeOf139
 v228 := Try.zeroValue139
 t229 := Try.underlying43
 a229 := Try.isAgg43
 z229 := Try.sizeOf43
 v229 := Try.zeroValue43 }
open Go.Sort Go.RowKit in
theorem Try.slices_Sort_int (blk off cap : Nat) (zs : List Int) (w : World) (hH : Holds (Value.int .i64) w blk off zs.toArray) (hblk : blk < w.heap.size) (hsz : zs.length < 4611686018427387904) :
  Calls Try.prog 97 #[.slice (some ⟨blk, off, none⟩) zs.length cap] w fun e w' =>
   e = .returned (.tuple #[]) ∧ ∃ n os, w' = grow (putRow (Value.int .i64) (Sort.ahead w n) blk off (zs.mergeSort fun x y => decide (x ≤ y)).toArray) os := Any.slices_Sort_int Try.lays189 blk off cap zs w hH hblk hsz
def Try.lays212_ren : Go.Shelf.Ren := ⟨fun | 212 => 85 | 263 => 94 | 264 => 95 | n => n, fun | 46 => 101 | 51 => 112 | 146 => 113 | 53 => 115 | 148 => 116 | n => n, fun | n => n⟩
theorem Try.lays212 : Go.Proofs.Lays.n212 Try.prog Try.lays212_ren := {
 mixed := by kernel_rfl
 f212 := Try.func85.trans (congrArg some (by kernel_rfl))
 f263 := Try.func94.trans (congrArg some (by kernel_rfl))
 f264 := Try.func95.trans (congrArg some (by kernel_rfl))
 t46 := Try.underlying101
 a46 := Try.isAgg101
 z46 := Try.sizeOf101
 v46 := Try.zeroValue101
 t51 := Try.underlying112
 a51 := Try.isAgg112
 z51 := Try.sizeOf112
 v51 := Try.zeroValue112
 t53 := Try.underlying115
 a53 := Try.isAgg115
 z53 := Try.sizeOf115
 v53 := Try.zeroValue115
 t146 := Try.underlying113
 a146 := Try.isAgg113
 z146 := Try.sizeOf113
 v146 := Try.zeroValue113
 t148 := Try.underlying116
 a148 := Try.isAgg116
 z148 := Try.sizeOf116
 v148 := Try.zeroValue116 }
open Go.RowKit Go.Lib in
theorem Try.bits_Mul (x y : Nat) (hx : x < 18446744073709551616) (hy : y < 18446744073709551616) (w : World) :
  Calls Try.prog 85 #[.int .u64 x, .int .u64 y] w fun e w' => e = .returned (.tuple #[.int .u64 ((x * y / 18446744073709551616 : Nat) : Int), .int .u64 ((x * y % 18446744073709551616 : Nat) : Int)]) ∧ w' = w := Any.bits_Mul Try.lays212 x y hx hy w
def Try.laysNm220_ren : Go.Shelf.Ren := ⟨fun | 20 => 98 | n => n, fun | 22 => 22 | 3 => 3 | 4 => 4 | 0 => 0 | n => n, fun | n => n⟩
theorem Try.laysNm220 : Go.Proofs.Lays2.n20 Try.prog Try.laysNm220_ren := {
 mixed := by kernel_rfl
 f20 := Try.func98.trans (congrArg some (by kernel_rfl))
 t0 := Try.underlying0
 a0 := Try.isAgg0
 z0 := Try.sizeOf0
 v0 := Try.zeroValue0
 t3 := Try.underlying3
 a3 := Try.isAgg3
 z3 := Try.sizeOf3
 v3 := Try.zeroValue3
 t4 := Try.underlying4
 a4 := Try.isAgg4
 z4 := Try.sizeOf4
 v4 := Try.zeroValue4
 t22 := Try.underlying22
 a22 := Try.isAgg22
 z22 := Try.sizeOf22
 v22 := Try.zeroValue22
 i3 := by kernel_rfl }
open Go.RowKit Go.Lib Go.Sort in
theorem Try.slices_Compact_int (blk off cap : Nat) (zs : List Int) (w : World) (hH : Holds (Value.int .i64) w blk off zs.toArray) (hsz : zs.length ≤ 9223372036854775807) (hcap : zs.length ≤ cap) :
  Calls Try.prog 98 #[.slice (some ⟨blk, off, none⟩) zs.length cap] w fun e w' => e = .returned (.slice (some ⟨blk, off, none⟩) (Lib.compact zs).length cap) ∧ ∃ q, w' = putRow (Value.int .i64) (Sort.ahead w q) blk off (Lib.compact zs ++ List.replicate (zs.length - (Lib.compact zs).length) 0).toArray := Any.slices_Compact_int Try.laysNm220 blk off cap zs w hH hsz hcap
open Go.RowKit Go.Lib Go.Sort in
theorem Try.slices_Compact_int_empty (a : Option Addr) (cap : Nat) (w : World) :
  Calls Try.prog 98 #[.slice a 0 cap] w fun e w' => e = .returned (.slice a 0 cap) ∧ w' = w := Any.slices_Compact_int_empty Try.laysNm220 a cap w
open Go.RowKit Go.Sort in
theorem Try.slices_Sort_int_none (p : Option Addr) (cap : Nat) (w : World) :
  Calls Try.prog 97 #[.slice p 0 cap] w fun e w' => e = .returned (.tuple #[]) ∧ w' = w := Any.slices_Sort_int_none Try.lays189 p cap w
end Go.Proofs
end

section
namespace Go.Proofs.Ytkmmihadcbfkoaa
open Go.RowKit Go.Proofs.YtkmmihadcbfkoaaW.PrintWords PM
set_option linter.unusedVariables false
set_option linter.unusedSimpArgs false
theorem mul_one_hi (n : Nat) (h : n ≤ 1000000) : (((1 * n / 18446744073709551616 : Nat)) : Int) = 0 := by
 rw [Nat.one_mul, Nat.div_eq_of_lt (by omega)]; rfl
theorem mul_one_lo (n : Nat) (h : n ≤ 1000000) : (((1 * n % 18446744073709551616 : Nat)) : Int) = (n : Int) := by
 rw [Nat.one_mul, Nat.mod_eq_of_lt (by omega)]
theorem trinfo4 : (Try.prog.info? 4).map (fun i => (i.zero, i.size, i.bytes)) = some (some (.bool false), 1, 1) := by kernel_rfl
/-- 'make' of a row of one-cell elements. -/
theorem make_row {t e : TypeId} {z : Value} {by_ : Nat} (ht : Try.prog.underlying t = some (.slice e)) (hi : (Try.prog.info? e).map (fun i => (i.zero, i.size, i.bytes)) = some (some z, 1, by_)) (hz : z.cells = #[z]) (n : Nat) (hn : (by_ : Int) * (n : Int) ≤ 281474976710656) (hn2 : n ≤ 1000000) (w : World) :
  (Instr.makeSlice t (.int .i64 (n : Int)) (.int .i64 (n : Int))).run Try.prog w = .ok (.slice (some ⟨w.heap.size, 0, none⟩) n n) (w.alloc (.cells (List.replicate n z).toArray e)) := by
 obtain ⟨i0, hi0, hz0, hz1, hz2⟩ := info_parts hi
 have h := run_make (P := Try.prog) w t e i0 z ht hi0 hz0 .i64 .i64 n n (by omega) (Int.le_refl _) (by rw [hz2]; exact hn) (by omega)
 have e : madeCells #[z] n = (List.replicate n z).toArray := by
  apply Array.toList_inj.1
  rw [toList_madeCells_one]
 rw [h, hz, hz1, Int.toNat_natCast, Nat.mul_one, e]
def half (v : Int) (n k : Nat) : List Value := List.replicate k (.int .i64 v) ++ List.replicate (n - k) (.int .i64 0)
theorem half_length {v : Int} {n k : Nat} (h : k ≤ n) : (half v n k).length = n := by simp [half]; omega
theorem half_splice {v : Int} {n k m : Nat} (h : k + m ≤ n) : splice (half v n k) k (List.replicate m (Value.int .i64 v)) = half v n (k + m) := by
 unfold splice half
 rw [List.take_append_of_le_length (by simp), List.drop_append]
 simp only [List.length_replicate, List.take_replicate, List.drop_replicate, Nat.min_self]
 rw [show k - (k + m) = 0 from by omega, show n - k - (k + m - k) = n - (k + m) from by omega, List.replicate_zero, List.nil_append, ← List.append_assoc, List.replicate_append_replicate]
theorem half_get {v : Int} {n k j : Nat} (h : j < k) : (half v n k)[j]? = some (Value.int .i64 v) := by
 unfold half
 rw [List.getElem?_append_left (by simpa using h)]
 simp [h]
theorem half_zero (v : Int) (n : Nat) : half v n 0 = List.replicate n (Value.int .i64 0) := by simp [half]
theorem half_all (v : Int) (n : Nat) : half v n n = List.replicate n (Value.int .i64 v) := by simp [half]
set_option maxRecDepth 100000 in
set_option maxHeartbeats 2000000 in
theorem repeat_calls (b : Nat) (v : Int) (n : Nat) (hn : n ≤ 1000000) (w : World) (hc : w.cell? ⟨b, 0, none⟩ = some (.int .i64 v)) :
  Calls Try.prog 54 #[.slice (some ⟨b, 0, none⟩) 1 1, .int .i64 n] w fun e w' => ∃ bh, e = .returned (.slice (some ⟨bh, 0, none⟩) n n) ∧ w.heap.size ≤ bh ∧ w'.heap[bh]? = some (.cells (List.replicate n (Value.int .i64 v)).toArray 3 (0, 0)) ∧ Below w.heap.size w w' := by
 have h1 := mul_one_hi n hn
 have h2 := mul_one_lo n hn
 have MU := Try.bits_Mul 1 n (by omega) (by omega) w
 rw [h1, h2] at MU
 clear h1 h2
 have hmk := make_row (t := 22) (e := 3) Try.underlying22 itinfo3 rfl n (by show (8 : Int) * (n : Int) ≤ _; omega) hn w
 have hbl := World.block_lt_of_cell? w _ hc
 go_enter Try.func54, Try.ntmps54
 go_wp2_with fail
 refine MU.mono ?_
 clear MU
 rintro e w' ⟨rfl, rfl⟩
 have hg := World.alloc_heap_new w' (.cells (List.replicate n (Value.int .i64 0)).toArray 3)
 have hB := (Below.refl w'.heap.size w').alloc (Nat.le_refl _) (.cells (List.replicate n (Value.int .i64 0)).toArray 3)
 have hc1 := (hB.cell (p := ⟨b, 0, none⟩) hbl).trans hc
 rw [← half_zero v] at hg hB hc1 hmk
 have HG := Go.Lib.hid hg
 have HB := Go.Lib.hid hB
 have HC := Go.Lib.hid hc1
 clear hg hB hc1
 obtain ⟨k0, hk0e⟩ : ∃ k0, k0 = Nat.min 1 n := ⟨_, rfl⟩
 have hkk : k0 ≤ n ∧ k0 ≤ 1 ∧ (0 < k0 ∨ n = 0) := by rw [hk0e]; refine ⟨Nat.min_le_right _ _, Nat.min_le_left _ _, ?_⟩; show 0 < min 1 n ∨ n = 0; omega
 have HKE := Go.Lib.hid hk0e
 have HKK := Go.Lib.hid hkk
 clear hk0e hkk
 go_wp2_with (with_reducible refine wpList_copy_splice rfl _ _ 22 22 rfl 3 Try.underlying22 (by kernel_rfl) (some ⟨w'.heap.size, 0, none⟩) (some ⟨b, 0, none⟩) n n 1 1 rfl rfl w'.heap.size 0 (half v n 0) 3 HG.out (List.replicate k0 (Value.int .i64 v)) (by rw [List.length_replicate]; exact HKE.out) ?_ ?_ ?_ w'.heap.size w' HB.out (Nat.le_refl _) ?_)
 ·
  intro h0 j u hj
  have : j < 1 := by
   have := (List.getElem?_eq_some_iff.1 hj).1
   have h1 := HKK.out.2.1
   simp at this
   omega
  obtain rfl : j = 0 := by omega
  have hju : u = .int .i64 v := by
   have := List.mem_of_getElem? hj
   exact (List.mem_replicate.1 this).2
  rw [hju]
  exact hc
 ·
  have := HKK.out.1
  rw [half_length (by omega), List.length_replicate]; omega
 ·
  intro u hu; rw [(List.mem_replicate.1 hu).2]; rfl
 intro w1 hg1 hb1
 rw [half_splice (by have := HKK.out.1; omega), Nat.zero_add] at hg1
 have hk0 : k0 ≤ n ∧ (0 < k0 ∨ n = 0) := ⟨HKK.out.1, HKK.out.2.2⟩
 have HG1 := Go.Lib.hid hg1
 have HB1 := Go.Lib.hid hb1
 have HK := Go.Lib.hid hk0
 clear hg1 hb1 hk0 hmk
 go_wp2_with fail
 go_loopw [8] (fun i wr => ∃ k : Nat, i = .int .i64 k ∧ Hid (k ≤ n ∧ (0 < k ∨ n = 0)) ∧ Hid (wr.heap[w'.heap.size]? = some (.cells (half v n k).toArray 3 (0, 0))) ∧ Below w'.heap.size w' wr) (fun i _ => n - (intOf i).toNat)
 case atStart => exact ⟨k0, rfl, HK.out, HG1.out, HB1.out⟩
 obtain ⟨k, rfl, HK2, HG2, hb2⟩ := hrel
 obtain ⟨hk1, hk2⟩ := HK2.out
 by_cases hlt : k < n
 rotate_left
 ·
  obtain rfl : k = n := by omega
  have HB2 := Go.Lib.hid hb2
  clear hb2 hk2
  go_wp2_with fail
  go_ret
  exact ⟨w'.heap.size, rfl, Nat.le_refl _, by rw [← half_all]; exact HG2.out, HB2.out⟩
 have hkp : 0 < k := by omega
 have HB2 := Go.Lib.hid hb2
 clear hb2 hk2
 go_wp2_with fail
 have HG3 : Hid (wr.drew.heap[w'.heap.size]? = some (.cells (half v n k).toArray 3 (0, 0))) := HG2
 have HB3 := Go.Lib.hid (HB2.out.drew)
 have hle : Nat.min k (n - k) ≤ k := Nat.min_le_left _ _
 have hle2 : Nat.min k (n - k) ≤ n - k := Nat.min_le_right _ _
 have hpos : 0 < Nat.min k (n - k) := by show 0 < min k (n - k); omega
 have S1 : 0 < (List.replicate (Nat.min k (n - k)) (Value.int .i64 v)).length → (some (⟨w'.heap.size, k, none⟩ : Addr)) = some ⟨w'.heap.size, k, none⟩ ∧ ∃ ad, (some (⟨w'.heap.size, 0, none⟩ : Addr)) = some ad ∧ ∀ j u, (List.replicate (Nat.min k (n - k)) (Value.int .i64 v))[j]? = some u → wr.drew.cell? (ad.add j) = some u := by
  intro _
  refine ⟨rfl, _, rfl, fun j u hj => ?_⟩
  have hjl := (List.getElem?_eq_some_iff.1 hj).1
  rw [List.length_replicate] at hjl
  have hju : u = .int .i64 v := (List.mem_replicate.1 (List.mem_of_getElem? hj)).2
  rw [hju, add_plain]
  have hg := HG2.out
  have hh := half_get (v := v) (n := n) (k := k) (j := j) (by omega)
  show wr.cell? _ = _
  simp only [World.cell?, hg]
  simpa using hh
 have S2 : k + (List.replicate (Nat.min k (n - k)) (Value.int .i64 v)).length ≤ (half v n k).length := by rw [half_length hk1, List.length_replicate]; omega
 have S3 : ∀ u ∈ List.replicate (Nat.min k (n - k)) (Value.int .i64 v), u.oneCell' = true := by
  intro u hu
  rw [(List.mem_replicate.1 hu).2]; rfl
 have S0 : (List.replicate (Nat.min k (n - k)) (Value.int .i64 v)).length = Nat.min k (n - k) := List.length_replicate
 obtain ⟨m, hm⟩ : ∃ m, m = Nat.min k (n - k) := ⟨_, rfl⟩
 have HM := Go.Lib.hid hm
 rw [← hm] at S1 S2 S3 hle hle2 hpos
 replace S0 : (List.replicate m (Value.int .i64 v)).length = Nat.min k (n - k) := by rw [List.length_replicate]; exact hm
 have hnk : ¬ n = k := by omega
 have HS0 := Go.Lib.hid S0
 have HS1 := Go.Lib.hid S1
 have HS2 := Go.Lib.hid S2
 have HS3 := Go.Lib.hid S3
 clear hm S0 S1 S2 S3
 go_region_held3 (fun w' => True) (first | trivial) ((refine step_copy_splice (by rfl) _ _ 22 22 (by rfl) 3 Try.underlying22 (by kernel_rfl) (some ⟨w'.heap.size, k, none⟩) (some ⟨w'.heap.size, 0, none⟩) (n - k) (n - k) k n (by rfl) (by rfl) w'.heap.size k (half v n k) 3 HG3.out (List.replicate m (Value.int .i64 v)) HS0.out HS1.out HS2.out HS3.out w'.heap.size w' HB3.out (Nat.le_refl _) ?_; intro w2 hg2 hb2))
 rw [half_splice (by omega)] at hg2
 have hwr : IntKind.i64.wrap ((k : Int) + (m : Int)) = (k : Int) + (m : Int) := by rw [IntKind.wrap_i64]; omega
 have HG5 := Go.Lib.hid hg2
 have HB5 := Go.Lib.hid hb2
 clear hg2 hb2
 go_wp2_with fail
 go_roundw
 case rel => exact ⟨k + m, by simp [hwr], ⟨by omega, by omega⟩, HG5.out, HB5.out⟩
 case measure => simp [intOf, hwr]; omega
def rooms (l : List S50) : List Int := l.map fun s => s.f2
/-- A new trial: at g; its finds' slots at bh, its slots' room at vr. -/
structure Trial (n0w : Nat) (s0 s1 s2 : Value) (room : List Int) (nh : Nat) (g bh : Nat) (vr : Value) (ch : Nat) (w : World) : Prop where
 gb : w.heap[g]? = some (.cells #[s0, s1, s2, vr, .slice (some ⟨bh, 0, none⟩) nh ch] 80 (0, 0))
 gl : n0w ≤ g
 hl : n0w ≤ bh
 room : w.ownsRow n0w 3 1 vr room.length (room.map (Value.int .i64))
 ne : vr.ownBlock ≠ some bh
set_option maxRecDepth 100000 in
set_option maxHeartbeats 4000000 in
theorem tried_calls (A0 : Option Addr) (n0 c0 : Nat) (A1 : Option Addr) (c1 : Nat) (l1 : List S50) (A2 : Option Addr) (n2 c2 : Nat) (w : World) (hn0 : n0 ≤ 1000000) (hn1 : l1.length ≤ 1000000) (hr1 : Kd.C k50 w A1 l1.length l1) :
  Calls Try.prog 60 #[.agg #[.slice A0 n0 c0, .slice A1 l1.length c1, .slice A2 n2 c2]] w fun e w' => ∃ g bh vr, e = .returned (.pointer (some ⟨g, 0, none⟩)) ∧ Trial w.heap.size (.slice A0 n0 c0) (.slice A1 l1.length c1) (.slice A2 n2 c2) (rooms l1) n0 g bh vr n0 w' ∧ RowAt w' bh 3 (Value.int .i64) (List.replicate n0 (-1)) ∧ Below w.heap.size w w' := by
 have HR1 := Go.Lib.hid hr1
 clear hr1
 go_enter Try.func60, Try.ntmps60
 go_wp2_with fail
 have b0 := World.alloc_heap_new w (.cells #[.slice A0 n0 c0, .slice A1 l1.length c1, .slice A2 n2 c2] 26)
 have e0 : (w.alloc (.cells #[.slice A0 n0 c0, .slice A1 l1.length c1, .slice A2 n2 c2] 26)).cell? ⟨w.heap.size, 0, none⟩ = some (.slice A0 n0 c0) := cell_of_heap b0 rfl
 have e1 : (w.alloc (.cells #[.slice A0 n0 c0, .slice A1 l1.length c1, .slice A2 n2 c2] 26)).cell? ⟨w.heap.size, 1, none⟩ = some (.slice A1 l1.length c1) := cell_of_heap b0 rfl
 have e2 : (w.alloc (.cells #[.slice A0 n0 c0, .slice A1 l1.length c1, .slice A2 n2 c2] 26)).cell? ⟨w.heap.size, 2, none⟩ = some (.slice A2 n2 c2) := cell_of_heap b0 rfl
 have hB0 := (Below.refl w.heap.size w).alloc (Nat.le_refl _) (.cells #[.slice A0 n0 c0, .slice A1 l1.length c1, .slice A2 n2 c2] 26)
 obtain ⟨w1, hw1⟩ : ∃ w1, w.alloc (.cells #[.slice A0 n0 c0, .slice A1 l1.length c1, .slice A2 n2 c2] 26) = w1 := ⟨_, rfl⟩
 have hsz : w1.heap.size = w.heap.size + 1 := by rw [← hw1]; simp
 rw [hw1] at e0 e1 e2 hB0 ⊢
 have HB0 := Go.Lib.hid hB0
 have HW1 := Go.Lib.hid hw1
 have hlt1 : w.heap.size < w1.heap.size := by omega
 have HSZ := Go.Lib.hid hsz
 have hcm : (w1.alloc (.cells #[.int .i64 (-1)] 3)).drew.cell? ⟨w1.heap.size, 0, none⟩ = some (.int .i64 (-1)) := (Boxed.new w1 3 (.int .i64 (-1))).cell
 have RC := repeat_calls w1.heap.size (-1) n0 hn0 _ hcm
 have hBm := below_of_drew ((Below.refl w.heap.size (w1.alloc (.cells #[.int .i64 (-1)] 3)).drew))
 have HB1 := Go.Lib.hid (hB0.alloc (by omega) (.cells #[.int .i64 (-1)] 3))
 clear b0 hB0 hw1 hsz hcm hBm
 go_region_held3 (fun w' => w'.cell? ⟨w.heap.size, 0, none⟩ = some (.slice A0 n0 c0) ∧ w'.cell? ⟨w.heap.size, 1, none⟩ = some (.slice A1 l1.length c1) ∧ w'.cell? ⟨w.heap.size, 2, none⟩ = some (.slice A2 n2 c2))
  (go_keep)
  (first | (go_at_call 54; refine RC.mono ?_; rintro e w2 ⟨bh, rfl, hbh, hrow, hb2⟩; have hb := below_of_drew hb2; clear hb2; have k1 := hb.cell (p := ⟨w.heap.size, 0, none⟩) (by simp; omega); have k2 := hb.cell (p := ⟨w.heap.size, 1, none⟩) (by simp; omega); have k3 := hb.cell (p := ⟨w.heap.size, 2, none⟩) (by simp; omega)))
 have hszr : w1.heap.size ≤ bh := by simp at hbh; omega
 have hbl : bh < w2.heap.size := (Array.getElem?_eq_some_iff.1 hrow).1
 have hBw2 : Below w.heap.size w w2 := HB1.out.trans ⟨hb.os, hb.tape, hb.output, hb.size, fun k hk => hb.block k (by simp; omega)⟩
 have hrow2 : RowAt w2 bh 3 (Value.int .i64) (List.replicate n0 (-1)) := ⟨_, hrow, fun j hj => by simp at hj; simp [hj]⟩
 have HROW := Go.Lib.hid hrow2
 have HBW2 := Go.Lib.hid hBw2
 clear hrow hrow2 hBw2 hb k1 k2 k3 hbh RC
 go_wp2_with fail
 obtain ⟨g, hg⟩ : ∃ g, w2.heap.size = g := ⟨_, rfl⟩
 obtain ⟨w3, hw3⟩ : ∃ w3, w2.alloc (.cells #[.slice A0 n0 c0, .slice A1 l1.length c1, .slice A2 n2 c2, .slice none 0 0, .slice (some ⟨bh, 0, none⟩) n0 n0] 80) = w3 := ⟨_, rfl⟩
 have hB3 : Below w.heap.size w w3 := by rw [← hw3]; exact HBW2.out.alloc (HBW2.out.size) _
 have hRow3 : RowAt w3 bh 3 (Value.int .i64) (List.replicate n0 (-1)) := by rw [← hw3]; exact HROW.out.below ((Below.refl _ _).alloc (Nat.le_refl _) _)
 have hT3 : Trial w.heap.size (.slice A0 n0 c0) (.slice A1 l1.length c1) (.slice A2 n2 c2) ((rooms l1).take 0) n0 g bh (.slice none 0 0) n0 w3 := by
  rw [← hw3, ← hg]
  exact ⟨World.alloc_heap_new _ _, HBW2.out.size, by omega, by simpa using World.ownsRow_nil _ _ _ _, by simp [Value.ownBlock]⟩
 rw [hw3, hg]
 have hne : bh ≠ g := by omega
 have hle1 : (l1.length : Int) ≤ 9223372036854775807 := by omega
 have HT3 := Go.Lib.hid hT3
 have HR3 := Go.Lib.hid hRow3
 have HB3 := Go.Lib.hid hB3
 have HG := Go.Lib.hid hg
 have HW3 := Go.Lib.hid hw3
 clear hT3 hRow3 hB3 hg hw3 hbl
 obtain ⟨i0, hi0, hz0, hz1, hz2⟩ := info_parts itinfo3
 go_loopw [17] (fun i wr => ∃ k : Nat, k ≤ l1.length ∧ i = .int .i64 k ∧ Hid (∃ vr, Trial w.heap.size (.slice A0 n0 c0) (.slice A1 l1.length c1) (.slice A2 n2 c2) ((rooms l1).take k) n0 g bh vr n0 wr ∧ RowAt wr bh 3 (Value.int .i64) (List.replicate n0 (-1)) ∧ Below w.heap.size w wr)) (fun i _ => l1.length - (intOf i).toNat)
 case atStart => exact ⟨0, Nat.zero_le _, rfl, ⟨_, HT3.out, HR3.out, HB3.out⟩⟩
 obtain ⟨k, hk, rfl, HID⟩ := hrel
 obtain ⟨vr, hT, hRo, hBo⟩ := HID.out
 by_cases hlt : k < l1.length
 rotate_left
 ·
  obtain rfl : k = l1.length := by omega
  have hlr : (rooms l1).take l1.length = rooms l1 := List.take_of_length_le (by simp [rooms])
  rw [hlr] at hT
  have HT := Go.Lib.hid hT
  have HRo := Go.Lib.hid hRo
  have HBo := Go.Lib.hid hBo
  clear hT hRo hBo HID hlr
  go_wp2_with fail
  go_ret
  exact ⟨g, bh, vr, rfl, HT.out, HRo.out, HBo.out⟩
 obtain ⟨a9, e9, x0, x1, x2⟩ := at_T50 (Kd.C_below HR1.out hBo) (k : Int) (by omega) (by omega)
 rw [Int.toNat_natCast] at x0 x1 x2
 obtain ⟨s9, hs9⟩ : ∃ s9, rd_T50 l1 (k : Int) = s9 := ⟨_, rfl⟩
 rw [hs9] at x0 x1 x2
 have hgne : vr.ownBlock ≠ some g := fun e => by
  obtain ⟨cells, hcl⟩ := own_typed hT.room g e
  have hg2 := hT.gb
  rw [hcl] at hg2
  injection hg2 with hg2
  injection hg2 with _ hg2
  exact absurd hg2 (by decide)
 have hlr : ((rooms l1).take k).length = k := by simp [rooms]; omega
 obtain ⟨A7, c7, e7⟩ := own_slice hT.room
 rw [hlr] at e7
 have z1 : wr.cell? ⟨g, 3, none⟩ = some (.slice A7 k c7) := by rw [← e7]; exact cell_of_heap hT.gb rfl
 have z2 : wr.frozen? ⟨g, 3, none⟩ = false := frozen_of_heap hT.gb
 have hgl := (Array.getElem?_eq_some_iff.1 hT.gb).1
 have HS9 := Go.Lib.hid hs9
 have HT := Go.Lib.hid hT
 have HRo := Go.Lib.hid hRo
 have HBo := Go.Lib.hid hBo
 have HGN := Go.Lib.hid hgne
 have HE7 := Go.Lib.hid e7
 have HLR := Go.Lib.hid hlr
 clear hs9 hT hRo hBo HID hgne e7 hlr
 subst e9
 go_wp2_with fail
 obtain ⟨w4, hw4⟩ : ∃ w4, wr.alloc (.cells #[.int .i64 s9.f0, .int .i64 s9.f1, .int .i64 s9.f2] 50) = w4 := ⟨_, rfl⟩
 have hB4 := (Below.refl wr.heap.size wr).alloc (Nat.le_refl _) (.cells #[.int .i64 s9.f0, .int .i64 s9.f1, .int .i64 s9.f2] 50)
 have b4 := World.alloc_heap_new wr (.cells #[.int .i64 s9.f0, .int .i64 s9.f1, .int .i64 s9.f2] 50)
 have hsz4 : w4.heap.size = wr.heap.size + 1 := by rw [← hw4]; simp
 rw [hw4] at hB4 b4 ⊢
 have y1 := (hB4.cell (p := ⟨g, 3, none⟩) hgl).trans z1
 have y2 := (hB4.frozen (p := ⟨g, 3, none⟩) hgl).trans z2
 have y3 : w4.cell? ⟨wr.heap.size, 2, none⟩ = some (.int .i64 s9.f2) := cell_of_heap b4 rfl
 have hown4 := pw_own_below (HT.out.room) hB4
 rw [HE7.out, HLR.out] at hown4
 have hgl4 : g < w4.heap.size := by omega
 have hrl4 : wr.heap.size < w4.heap.size := by omega
 have HB4 := Go.Lib.hid hB4
 have HO4 := Go.Lib.hid hown4
 have hgn7 : (Value.slice A7 k c7).ownBlock ≠ some g := by rw [← HE7.out]; exact HGN.out
 have HG7 := Go.Lib.hid hgn7
 have hgn8 : (Value.slice A7 k c7).ownBlock ≠ some wr.heap.size := fun e => by
  rw [← HE7.out] at e
  exact absurd (own_lt HT.out.room _ e) (by omega)
 have HG8 := Go.Lib.hid hgn8
 clear hgn8
 have hb4l : w.heap.size ≤ w4.heap.size := Nat.le_trans HBo.out.size (by omega)
 have HSZ4 := Go.Lib.hid hsz4
 have y4 : (w4.alloc (.cells #[.int .i64 s9.f2] 3)).drew.frozen? ⟨g, 3, none⟩ = false := (((Below.refl w4.heap.size w4).alloc (Nat.le_refl _) (.cells #[.int .i64 s9.f2] 3)).frozen (p := ⟨g, 3, none⟩) hgl4).trans y2
 clear hB4 b4 hown4 hw4 z1 z2 x0 x1 x2 hgn7 hsz4
 have s1 : k + 1 ≤ maxLen := by unfold maxLen; omega
 have s2 : (k + 1) * 8 ≤ 140737488355328 := by omega
 have s3 : w.heap.size ≤ (w4.alloc (.cells #[.int .i64 s9.f2] 3)).drew.heap.size := by simp; omega
 have s4 : (w4.alloc (.cells #[.int .i64 s9.f2] 3)).drew.heap.size = w4.heap.size + 1 := by simp
 have s5 : ∀ u ∈ [Value.int .i64 s9.f2], u.oneCell' = true := by simp [Value.oneCell']
 have S4 := Go.Lib.hid s4
 have S5 := Go.Lib.hid s5
 clear s4 s5
 go_region_law ((refine step_append_lies _ (by rfl) _ _ 22 (by rfl) w.heap.size 3 i0 _ 1 8 Try.underlying22 hi0 hz0 hz1 hz2 rfl (by omega) (.slice A7 k c7) k _ (by rfl) ((HO4.out.alloc _).drew) ⟨w4.heap.size, 0, none⟩ 1 1 [.int .i64 s9.f2] (by rfl) (by rfl) (World.news_of_block (cs := #[.int .i64 s9.f2]) (t := 3) (fr := (0, 0)) (heap_alloc_new w4 _)) S5.out (by omega) s1 s2 s3 (w4.heap.size + 1) S4.out ?_; intro gg cap w5 hown5 hgrow hat hltg; have k1 := (hgrow.cell_far ⟨g, 3, none⟩ (by simp; omega) (Ne.symm HG7.out)).trans ((((Below.refl w4.heap.size w4).alloc (Nat.le_refl _) (.cells #[.int .i64 s9.f2] 3)).cell (p := ⟨g, 3, none⟩) hgl4).trans y1); have k2 := (hgrow.frozen_far ⟨g, 3, none⟩ (by simp; omega) (Ne.symm HG7.out)).trans y4))
 all_goals
  have HO5 := Go.Lib.hid hown5
  have HGR := Go.Lib.hid hgrow
  have HAT := Go.Lib.hid hat
  clear hown5 hgrow hat
  go_wp2_with fail
  go_roundw
  case rel =>
   have hB4' := HB4.out
   have hgb4 : w4.heap[g]? = some (.cells #[.slice A0 n0 c0, .slice (some a9) l1.length c1, .slice A2 n2 c2, .slice A7 k c7, .slice (some ⟨bh, 0, none⟩) n0 n0] 80 (0, 0)) := by
    rw [← HE7.out]; exact (hB4'.block g hgl).trans HT.out.gb
   have hnegg : gg ≠ g := fun e => by
    rcases HAT.out with h | h
    ·
     rw [e] at h; exact HG7.out h
    ·
     omega
   have hbhl : bh < wr.heap.size := HRo.out.lt
   have hnegb : gg ≠ bh := fun e => by
    rcases HAT.out with h | h
    ·
     rw [e, ← HE7.out] at h; exact HT.out.ne h
    ·
     omega
   have hblk : ∀ q, q < w4.heap.size → some q ≠ (Value.slice A7 k c7).ownBlock → w5.heap[q]? = w4.heap[q]? := fun q hq hn => (HGR.out.block q (by simp; omega) hn).trans (Below.heap_alloc _ _ _ hq)
   have hB5 : Below w.heap.size w w5 := by
    refine (HBo.out.trans (hB4'.mono HBo.out.size)).trans ⟨HGR.out.os, HGR.out.tape, HGR.out.output, ?_, fun q hq => hblk q (by omega) fun e => ?_⟩
    ·
     have := HGR.out.size; simp at this; omega
    ·
     have := own_base HO4.out q e.symm; omega
   have hgb5 : w5.heap[g]? = some (.cells #[.slice A0 n0 c0, .slice (some a9) l1.length c1, .slice A2 n2 c2, .slice A7 k c7, .slice (some ⟨bh, 0, none⟩) n0 n0] 80 (0, 0)) := (hblk g (by omega) (Ne.symm HG7.out)).trans hgb4
   refine ⟨k + 1, by omega, by simp, ⟨.slice (some ⟨gg, 0, none⟩) (k + 1) cap, ⟨?_, HT.out.gl, HT.out.hl, ?_, ?_⟩, ?_, ?_⟩⟩
   ·
    simp [World.setCell, Array.getElem?_modify, hgb5]
   ·
    have htk : (rooms l1).take (k + 1) = (rooms l1).take k ++ [s9.f2] := by
     rw [List.take_succ_eq_append_getElem (by simp [rooms]; omega)]
     congr 2
     rw [← HS9.out]
     simp [rooms, rd_T50, List.getD_eq_getElem?_getD, List.getElem?_eq_getElem hlt]
    rw [htk, List.length_append, HLR.out, List.map_append]
    exact own_move HO5.out fun q hq => by
     have : gg = q := by simpa [Value.ownBlock] using hq
     subst this
     exact Below.heap_setCell _ _ _ _ hnegg
   ·
    simp [Value.ownBlock]; exact hnegb
   ·
    refine HRo.out.same ?_
    rw [Below.heap_setCell _ _ _ _ (show bh ≠ (⟨g, 3, none⟩ : Addr).block from hne)]
    exact (hblk bh (by omega) (fun e => HT.out.ne (by rw [HE7.out]; exact e.symm))).trans (hB4'.block bh hbhl)
   ·
    exact hB5.setCell (p := ⟨g, 3, none⟩) HT.out.gl _
  case measure => simp [intOf]; omega
end Go.Proofs.Ytkmmihadcbfkoaa
end

section
namespace Go.Proofs.Ytkmmihadcbfkoaa
open Go.RowKit Go.Sort Go.Proofs.YtkmmihadcbfkoaaW.PrintWords
set_option linter.unusedVariables false
set_option linter.unusedSimpArgs false
theorem own_holds {w : World} {base g n cap : Nat} {zs : List Int} (h : w.ownsRow base 3 1 (.slice (some ⟨g, 0, none⟩) n cap) n (zs.map (Value.int .i64))) : Holds (Value.int .i64) w g 0 zs.toArray := by
 intro j hj
 have hj' : j < zs.length := by simpa using hj
 have hl : zs.length = n := by have := h.1; simpa using this
 have hc := h.cells (g := g) rfl j (.int .i64 zs[j]) (by simp [List.getElem?_eq_getElem hj'])
 refine ⟨?_, ?_⟩
 ·
  rw [Nat.zero_add]
  rw [add_plain] at hc
  rw [hc]
  congr 2
  rw [getElem!_pos _ j hj]
  simp
 rcases h.2 with ⟨h1, _⟩ | ⟨g', cap', cur, h1, _, hh, _⟩
 ·
  cases h1
 injection h1 with h1
 injection h1 with h1
 injection h1 with h1
 subst h1
 exact frozen_of_heap hh
theorem own_put {w : World} {base g n cap : Nat} {xs : List Value} (h : w.ownsRow base 3 1 (.slice (some ⟨g, 0, none⟩) n cap) n xs) (d : Array Int) (hd : d.size = n) (q : Nat) (os : Array Obj) :
  (grow (putRow (Value.int .i64) (Sort.ahead w q) g 0 d) os).ownsRow base 3 1 (.slice (some ⟨g, 0, none⟩) n cap) n (d.toList.map (Value.int .i64)) ∧ w.grownBy (grow (putRow (Value.int .i64) (Sort.ahead w q) g 0 d) os) (some g) := by
 rcases h.2 with ⟨h1, _⟩ | ⟨g', cap', cur, h1, hb, hh, h3, h4, h5, h6⟩
 ·
  cases h1
 injection h1 with h1 h1b h1c
 injection h1 with h1
 injection h1 with h1
 subst h1; subst h1c
 have hgl := (Array.getElem?_eq_some_iff.1 hh).1
 have hheap : ∀ k, (putRow (Value.int .i64) (Sort.ahead w q) g 0 d).heap[k]? = if k = g then some (.cells (putCells (Value.int .i64) 0 d cur) 3 (0, 0)) else w.heap[k]? := fun k => by
  show (w.heap.modify g _)[k]? = _
  rw [Array.getElem?_modify]
  by_cases e : g = k
  ·
   subst e
   simp [hh, onCells]
  ·
   simp [e, Ne.symm e]
 have hsz : (putRow (Value.int .i64) (Sort.ahead w q) g 0 d).heap.size = w.heap.size := by
  show (w.heap.modify g _).size = _
  simp
 have hgr : ∀ k, k < w.heap.size → (grow (putRow (Value.int .i64) (Sort.ahead w q) g 0 d) os).heap[k]? = (putRow (Value.int .i64) (Sort.ahead w q) g 0 d).heap[k]? := fun k hk => by
  show ((putRow (Value.int .i64) (Sort.ahead w q) g 0 d).heap ++ os)[k]? = _
  rw [Array.getElem?_append_left (by omega)]
 refine ⟨⟨by simp [hd], .inr ⟨g, cap, putCells (Value.int .i64) 0 d cur, rfl, hb, ?_, h3, h4, by simp [putCells, h5], ?_⟩⟩, ⟨rfl, rfl, rfl, ?_, ?_⟩⟩
 ·
  rw [hgr g hgl, hheap g, if_pos rfl]
 ·
  apply List.ext_getElem?
  intro j
  by_cases hj : j < n
  rotate_left
  ·
   rw [List.getElem?_eq_none (by simp; omega), List.getElem?_eq_none (by simp; omega)]
  have hj2 : j < cur.size := by omega
  rw [List.getElem?_take, if_pos (by omega), Array.getElem?_toList]
  simp only [putCells, Array.getElem?_mapIdx, Array.getElem?_eq_getElem hj2, Option.map_some]
  rw [if_pos ⟨Nat.zero_le _, by omega⟩, Nat.sub_zero, getElem!_pos d j (by omega)]
  simp [List.getElem?_map, Array.getElem?_eq_getElem (show j < d.size by omega)]
 ·
  show w.heap.size ≤ (grow _ os).heap.size
  rw [size_grow, hsz]
  omega
 intro k hk hne
 rw [hgr k hk, hheap k, if_neg (fun e => hne (by rw [e]))]
theorem own_shrink {w : World} {base g n m cap : Nat} {xs : List Value} (h : w.ownsRow base 3 1 (.slice (some ⟨g, 0, none⟩) n cap) n xs) (hm : m ≤ n) : w.ownsRow base 3 1 (.slice (some ⟨g, 0, none⟩) m cap) m (xs.take m) := by
 rcases h.2 with ⟨h1, _⟩ | ⟨g', cap', cur, h1, hb, hh, h3, h4, h5, h6⟩
 ·
  cases h1
 injection h1 with h1 h1b h1c
 injection h1 with h1
 injection h1 with h1
 subst h1; subst h1c
 have hl := h.1
 refine ⟨by simp; omega, .inr ⟨g, cap, cur, rfl, hb, hh, by omega, h4, h5, ?_⟩⟩
 rw [← h6, List.take_take]
 congr 1
 omega
theorem sort_own {w : World} {base n : Nat} {v : Value} {zs : List Int} (hn : zs.length = n) (hb : n ≤ 10000000) (h : w.ownsRow base 3 1 v n (zs.map (Value.int .i64))) :
  Calls Try.prog 97 #[v] w fun e w' => e = .returned (.tuple #[]) ∧ w'.ownsRow base 3 1 v n ((zs.mergeSort fun x y => decide (x ≤ y)).map (Value.int .i64)) ∧ w.grownBy w' v.ownBlock := by
 rcases h.2 with ⟨rfl, h0⟩ | ⟨g, cap, cur, rfl, hbb, hh, _⟩
 ·
  have hz : zs = [] := List.eq_nil_of_length_eq_zero (by omega)
  subst hz; subst h0
  refine (Try.slices_Sort_int_none none 0 w).mono ?_
  rintro e w' ⟨rfl, rfl⟩
  exact ⟨rfl, by simpa using h, grown_of_below (Below.refl _ _) _⟩
 have hgl := (Array.getElem?_eq_some_iff.1 hh).1
 subst hn
 refine (Try.slices_Sort_int g 0 cap zs w (own_holds h) hgl (by omega)).mono ?_
 rintro e w' ⟨rfl, q, os, rfl⟩
 have H := own_put h (zs.mergeSort fun x y => decide (x ≤ y)).toArray (by simp) q os
 exact ⟨rfl, by simpa using H.1, H.2⟩
theorem compact_le (zs : List Int) : (Lib.compact zs).length ≤ zs.length := by
 unfold Lib.compact Lib.compactUpTo
 rw [List.length_map]
 exact Nat.le_trans (List.length_filter_le _ _) (by simp)
theorem compact_own {w : World} {base n : Nat} {v : Value} {zs : List Int} (hn : zs.length = n) (hb : n ≤ 10000000) (h : w.ownsRow base 3 1 v n (zs.map (Value.int .i64))) :
  Calls Try.prog 98 #[v] w fun e w' => ∃ v', e = .returned v' ∧ w'.ownsRow base 3 1 v' (Lib.compact zs).length ((Lib.compact zs).map (Value.int .i64)) ∧ w.grownBy w' v.ownBlock ∧ v'.ownBlock = v.ownBlock := by
 have hle := compact_le zs
 rcases h.2 with ⟨rfl, h0⟩ | ⟨g, cap, cur, rfl, hbb, hh, hcap, _⟩
 ·
  have hz : zs = [] := List.eq_nil_of_length_eq_zero (by omega)
  subst hz; subst h0
  refine (Try.slices_Compact_int_empty none 0 w).mono ?_
  rintro e w' ⟨rfl, rfl⟩
  exact ⟨_, rfl, World.ownsRow_nil _ _ _ _, grown_of_below (Below.refl _ _) _, rfl⟩
 subst hn
 refine (Try.slices_Compact_int g 0 cap zs w (own_holds h) (by omega) (by omega)).mono ?_
 rintro e w' ⟨rfl, q, rfl⟩
 have H := own_put h (Lib.compact zs ++ List.replicate (zs.length - (Lib.compact zs).length) 0).toArray (by simp; omega) q #[]
 rw [grow_empty] at H
 have H2 := own_shrink H.1 hle
 refine ⟨_, rfl, ?_, H.2, rfl⟩
 rw [List.map_append, List.take_append_of_le_length (by simp), List.take_of_length_le (by simp)] at H2
 exact H2
end Go.Proofs.Ytkmmihadcbfkoaa
end

section
namespace Go.Proofs.Ytkmmihadcbfkoaa
open Go.RowKit Go.Proofs.YtkmmihadcbfkoaaW.PrintWords PM
set_option linter.unusedVariables false
set_option linter.unusedSimpArgs false
/-- Where a trial's parts lie. -/
structure TL where
 g : Nat
 bh : Nat
 s0 : Value
 A1 : Option Addr
 n1 : Nat
 c1 : Nat
 A2 : Option Addr
 c2 : Nat
 ra : Nat → Option Addr
 rc : Nat → Nat
 Ar : Option Addr
 cr : Nat
 nh : Nat
 ch : Nat
/-- What of a trial stands still while its finds are given slots. -/
structure TStill (t : TL) (fits : List (List Int)) (room : List Int) (w : World) : Prop where
 f0 : w.cell? ⟨t.g, 0, none⟩ = some t.s0
 f1 : w.cell? ⟨t.g, 1, none⟩ = some (.slice t.A1 t.n1 t.c1)
 f2 : w.cell? ⟨t.g, 2, none⟩ = some (.slice t.A2 fits.length t.c2)
 f3 : w.cell? ⟨t.g, 3, none⟩ = some (.slice t.Ar room.length t.cr)
 f4 : w.cell? ⟨t.g, 4, none⟩ = some (.slice (some ⟨t.bh, 0, none⟩) t.nh t.ch)
 fits : RowsAt w t.A2 t.ra t.rc fits
 room : Kd.C (Kd.int .i64) w t.Ar room.length room
def TStands (t : TL) (fits : List (List Int)) (room : List Int) (w : World) : Prop := ∀ w', Agree t.bh t.bh w w' → TStill t fits room w'
theorem TStands.still {t : TL} {fits : List (List Int)} {room : List Int} {w : World} (h : TStands t fits room w) : TStill t fits room w := h w (Agree.refl _ _ _)
theorem TStands.later {t : TL} {fits : List (List Int)} {room : List Int} {w w' : World} (h : TStands t fits room w) (a : Agree t.bh t.bh w w') : TStands t fits room w' := fun w2 k => h w2 (a.trans k)
structure TFit (t : TL) (fits : List (List Int)) (room : List Int) : Prop where
 slot : ∀ i : Nat, i < fits.length → ∀ j : Nat, j < (fits.getD i []).length → 0 ≤ (fits.getD i []).getD j 0 ∧ (fits.getD i []).getD j 0 < t.n1
 room : room.length = t.n1
 row : ∀ i : Nat, i < fits.length → (fits.getD i []).length ≤ 1000000
 finds : fits.length = t.nh
 ns : t.n1 ≤ 1000
 nh : t.nh ≤ 1000
def lay (t : TL) (Bt Bn Bk bs : Nat) : Lay := { g := t.g, Bt := Bt, Bn := Bn, Bk := Bk, bs := bs, bh := t.bh, ns := t.n1, nh := t.nh, A2 := t.A2, c2 := t.c2, Ar := t.Ar, cr := t.cr, ch := t.ch, ra := t.ra, rc := t.rc }
theorem TFit.fit {t : TL} {fits : List (List Int)} {room : List Int} (h : TFit t fits room) (Bt Bn Bk bs : Nat) : Fit (lay t Bt Bn Bk bs) fits room :=
 ⟨h.slot, h.room, h.row, h.finds, by have := h.ns; show t.n1 ≤ _; omega, by have := h.nh; show t.nh ≤ _; omega⟩
def GivePost (t : TL) (r : SR) (hall : List Int) (w : World) (e : Ending) (w' : World) : Prop :=
 ∃ v, e = .returned (.tuple #[v, .bool r.ok]) ∧ Agree t.bh t.bh w w' ∧ RowAt w' t.bh 3 (Value.int .i64) r.has ∧ w'.ownsRow w.heap.size 3 1 v hall.length (hall.map (Value.int .i64))
/-- The world in which the search begins: the boxes of t, seen and seek, and the row seen. -/
structure Begun (t : TL) (w : World) (W : World) : Prop where
 b0 : W.heap[w.heap.size]? = some (.cells #[.pointer (some ⟨t.g, 0, none⟩)] 68 (0, 0))
 b1 : W.heap[w.heap.size + 1]? = some (.cells (Array.replicate t.n1 (Value.bool false)) 4 (0, 0))
 b2 : W.heap[w.heap.size + 1 + 1]? = some (.cells #[.slice (some ⟨w.heap.size + 1, 0, none⟩) t.n1 t.n1] 104 (0, 0))
 b3 : W.heap[w.heap.size + 1 + 1 + 1]? = some (.cells #[.func (.func 96) #[] #[.pointer (some ⟨w.heap.size, 0, none⟩), .pointer (some ⟨w.heap.size + 1 + 1, 0, none⟩), .pointer (some ⟨w.heap.size + 1 + 1 + 1, 0, none⟩)]] 90 (0, 0))
 sz : W.heap.size = w.heap.size + 4
 bl : Below w.heap.size w W
theorem begun (t : TL) (w : World) : Begun t w ((((w.alloc (.cells #[.pointer (some ⟨t.g, 0, none⟩)] 68)).alloc (.cells (Array.replicate t.n1 (Value.bool false)) 4)).alloc (.cells #[.slice (some ⟨w.heap.size + 1, 0, none⟩) t.n1 t.n1] 104)).alloc (.cells #[.func (.func 96) #[] #[.pointer (some ⟨w.heap.size, 0, none⟩), .pointer (some ⟨w.heap.size + 1 + 1, 0, none⟩), .pointer (some ⟨w.heap.size + 1 + 1 + 1, 0, none⟩)]] 90)) := by
 have a0 := World.alloc_heap_new w (.cells #[.pointer (some ⟨t.g, 0, none⟩)] 68)
 generalize hw1 : w.alloc (.cells #[.pointer (some ⟨t.g, 0, none⟩)] 68) = w1 at *
 have s1 : w1.heap.size = w.heap.size + 1 := by rw [← hw1]; simp
 have c1 : Below w.heap.size w w1 := by rw [← hw1]; exact (Below.refl _ w).alloc (Nat.le_refl _) _
 have a1 := World.alloc_heap_new w1 (.cells (Array.replicate t.n1 (Value.bool false)) 4)
 generalize hw2 : w1.alloc (.cells (Array.replicate t.n1 (Value.bool false)) 4) = w2 at *
 have s2 : w2.heap.size = w.heap.size + 1 + 1 := by rw [← hw2]; simp [s1]
 have c2 : Below w1.heap.size w1 w2 := by rw [← hw2]; exact (Below.refl _ w1).alloc (Nat.le_refl _) _
 have a2 := World.alloc_heap_new w2 (.cells #[.slice (some ⟨w.heap.size + 1, 0, none⟩) t.n1 t.n1] 104)
 generalize hw3 : w2.alloc (.cells #[.slice (some ⟨w.heap.size + 1, 0, none⟩) t.n1 t.n1] 104) = w3 at *
 have s3 : w3.heap.size = w.heap.size + 1 + 1 + 1 := by rw [← hw3]; simp [s2]
 have c3 : Below w2.heap.size w2 w3 := by rw [← hw3]; exact (Below.refl _ w2).alloc (Nat.le_refl _) _
 have a3 := World.alloc_heap_new w3 (.cells #[.func (.func 96) #[] #[.pointer (some ⟨w.heap.size, 0, none⟩), .pointer (some ⟨w.heap.size + 1 + 1, 0, none⟩), .pointer (some ⟨w.heap.size + 1 + 1 + 1, 0, none⟩)]] 90)
 generalize hw4 : w3.alloc (.cells #[.func (.func 96) #[] #[.pointer (some ⟨w.heap.size, 0, none⟩), .pointer (some ⟨w.heap.size + 1 + 1, 0, none⟩), .pointer (some ⟨w.heap.size + 1 + 1 + 1, 0, none⟩)]] 90) = w4 at *
 have s4 : w4.heap.size = w.heap.size + 4 := by rw [← hw4]; simp [s3]
 have c4 : Below w3.heap.size w3 w4 := by rw [← hw4]; exact (Below.refl _ w3).alloc (Nat.le_refl _) _
 rw [s1] at a1; rw [s2] at a2; rw [s3] at a3
 refine ⟨?_, ?_, ?_, a3, s4, ((c1.trans (c2.mono (by omega))).trans (c3.mono (by omega))).trans (c4.mono (by omega))⟩
 ·
  exact (((c4.block _ (by omega)).trans (c3.block _ (by omega))).trans (c2.block _ (by omega))).trans a0
 ·
  exact ((c4.block _ (by omega)).trans (c3.block _ (by omega))).trans a1
 exact (c4.block _ (by omega)).trans a2
theorem Begun.agree {t : TL} {w W w' : World} (h : Begun t w W) (hbh : t.bh < w.heap.size) (a : Agree (w.heap.size + 1) t.bh W w') : Agree t.bh t.bh w w' :=
 ⟨a.os.trans h.bl.os, a.tape.trans h.bl.tape, a.output.trans h.bl.output, Nat.le_trans h.bl.size a.size, fun k hk h1 _ => (a.block k (by rw [h.sz]; omega) (by omega) h1).trans (h.bl.block k hk), fun k hk => (a.cells k (by rw [h.sz]; omega)).trans (by rw [h.bl.block k hk])⟩
theorem Begun.stands {t : TL} {fits : List (List Int)} {room : List Int} {w W : World} (h : Begun t w W) (hbh : t.bh < w.heap.size) (hS : TStands t fits room w) :
  Stands (lay t w.heap.size (w.heap.size + 1 + 1) (w.heap.size + 1 + 1 + 1) (w.heap.size + 1)) fits room W := fun w' a => by
 have st := hS w' (h.agree hbh a)
 have hsz := h.sz
 refine ⟨?_, ?_, ?_, st.f2, st.f3, st.f4, st.fits, st.room⟩
 ·
  exact cell_of_heap ((a.block w.heap.size (by omega) (by show w.heap.size ≠ w.heap.size + 1; omega) (by show w.heap.size ≠ t.bh; omega)).trans h.b0) rfl
 ·
  exact cell_of_heap ((a.block (w.heap.size + 1 + 1) (by omega) (by show w.heap.size + 1 + 1 ≠ w.heap.size + 1; omega) (by show w.heap.size + 1 + 1 ≠ t.bh; omega)).trans h.b2) rfl
 ·
  exact cell_of_heap ((a.block (w.heap.size + 1 + 1 + 1) (by omega) (by show w.heap.size + 1 + 1 + 1 ≠ w.heap.size + 1; omega) (by show w.heap.size + 1 + 1 + 1 ≠ t.bh; omega)).trans h.b3) rfl
theorem Begun.turns {t : TL} {w W : World} {has : List Int} (h : Begun t w W) (hH : RowAt w t.bh 3 (Value.int .i64) has) (hl : has.length = t.nh) :
  Turns (lay t w.heap.size (w.heap.size + 1 + 1) (w.heap.size + 1 + 1 + 1) (w.heap.size + 1)) W (List.replicate t.n1 false) has := by
 refine ⟨⟨_, h.b1, fun j hj => ?_⟩, hH.below h.bl, by simp [lay], hl⟩
 simp at hj
 simp [hj]
theorem cnt_replicate (n : Nat) : cnt (List.replicate n false) = n := by simp [cnt]
set_option maxRecDepth 100000 in
set_option maxHeartbeats 4000000 in
theorem give_calls (t : TL) (fits : List (List Int)) (room : List Int) (hF : TFit t fits room) (find : Nat) (hfind : find < t.nh) (has : List Int) (hlh : has.length = t.nh) (w : World)
  (hS : TStands t fits room w) (hH : RowAt w t.bh 3 (Value.int .i64) has) :
  Calls Try.prog 87 #[.pointer (some ⟨t.g, 0, none⟩), .int .i64 find] w (GivePost t (giveR fits room t.n1 find has) (giveH fits room t.n1 find has) w) := by
 have hst := hS.still
 have hf1 := hst.f1
 have hgl := World.block_lt_of_cell? w _ hf1
 have hns := hF.ns
 have hmk := make_row (t := 104) (e := 4) Try.underlying104 trinfo4 rfl t.n1 (by show (1 : Int) * (t.n1 : Int) ≤ _; omega) (by omega) (w.alloc (.cells #[.pointer (some ⟨t.g, 0, none⟩)] 68))
 rw [World.size_alloc] at hmk
 have HS := Go.Lib.hid hS
 have HH := Go.Lib.hid hH
 have HF := Go.Lib.hid hF
 have HLH := Go.Lib.hid hlh
 clear hst hS hH hF hlh
 obtain ⟨r, hr⟩ : ∃ r, giveR fits room t.n1 (find : Int) has = r := ⟨_, rfl⟩
 obtain ⟨hl, hhl⟩ : ∃ hl, giveH fits room t.n1 (find : Int) has = hl := ⟨_, rfl⟩
 rw [hhl, hr]
 unfold giveH at hhl
 rw [hr] at hhl
 have hrk := seekF_ok fits room (t.n1 + 1) (find : Int) (List.replicate t.n1 false) has
 rw [show seekF fits room (t.n1 + 1) (find : Int) (List.replicate t.n1 false) has = r from hr] at hrk
 have HR := Go.Lib.hid hr
 have HHL := Go.Lib.hid hhl
 have HRK := Go.Lib.hid hrk
 clear hr hhl hrk
 go_enter Try.func87, Try.ntmps87
 go_wp2_with fail
 have hbg := begun t w
 generalize (((w.alloc (.cells #[.pointer (some ⟨t.g, 0, none⟩)] 68)).alloc (.cells (Array.replicate t.n1 (Value.bool false)) 4)).alloc (.cells #[.slice (some ⟨w.heap.size + 1, 0, none⟩) t.n1 t.n1] 104)).alloc (.cells #[.func (.func 96) #[] #[.pointer (some ⟨w.heap.size, 0, none⟩), .pointer (some ⟨w.heap.size + 1 + 1, 0, none⟩), .pointer (some ⟨w.heap.size + 1 + 1 + 1, 0, none⟩)]] 90) = W0 at *
 have hbhl := HH.out.lt
 have hSt0 := hbg.stands hbhl HS.out
 have hT0 := hbg.turns HH.out HLH.out
 have SC := seek_calls _ fits room (HF.out.fit _ _ _ _) (t.n1 + 1) (find : Int) (List.replicate t.n1 false) has W0 (by rw [cnt_replicate]; omega) (by omega) (by show (find : Int) < (t.nh : Int); omega) hSt0 hT0
 rw [show seekF fits room (t.n1 + 1) (find : Int) (List.replicate t.n1 false) has = r from HR.out] at SC
 refine SC.mono ?_
 clear SC
 rintro e w1 ⟨rfl, ag, hT1⟩
 have hSt1 := hSt0.later ag
 have HBG := Go.Lib.hid hbg
 have HAG := Go.Lib.hid ag
 have HT1 := Go.Lib.hid hT1
 have HS1 := Go.Lib.hid hSt1
 clear hbg ag hT1 hSt1 hSt0 hT0 hmk hf1
 by_cases hok : r.ok = true
 ·
  have HOK := Go.Lib.hid hok
  rw [hok]
  clear hok
  go_wp2_with fail
  go_ret2
  refine ⟨.slice none 0 0, by rw [HOK.out]; rfl, HBG.out.agree hbhl HAG.out, HT1.out.rh, ?_⟩
  have h := HHL.out
  rw [if_pos HOK.out] at h
  rw [← h]
  exact World.ownsRow_nil _ _ _ _
 have hok' : r.ok = false := by simpa using hok
 have HOK := Go.Lib.hid hok'
 rw [hok']
 clear hok hok'
 have bn : w1.cell? ⟨w.heap.size + 1 + 1, 0, none⟩ = some (.slice (some ⟨w.heap.size + 1, 0, none⟩) t.n1 t.n1) := HS1.out.still.n
 have hn1 : (t.n1 : Int) ≤ 9223372036854775807 := by omega
 have hsz1 : w.heap.size + 4 ≤ w1.heap.size := by have h1 := HBG.out.sz; have h2 := HAG.out.size; omega
 have hsz2 : w.heap.size + 1 + 1 < w1.heap.size := by omega
 go_wp2_with fail
 have hnh := HF.out.nh
 have hhas : r.has.length = t.nh := HT1.out.lh
 have hseenl : r.seen.length = t.n1 := HT1.out.ls
 have hhl : ∀ k, (hallTo (find : Int) r.seen r.has k).length ≤ 1 + k * 1000 := fun k => by
  unfold hallTo
  rw [List.length_cons, List.length_flatMap]
  have h2 : (((List.range k).filter fun s : Nat => r.seen.getD s false).map fun s : Nat => (atOf r.has (s : Int)).length).sum ≤ ((List.range k).filter fun s : Nat => r.seen.getD s false).length * 1000 := by
   generalize ((List.range k).filter fun s : Nat => r.seen.getD s false) = l
   induction l with
   | nil => simp
   | cons a l ih =>
    have := atTo_length r.has (a : Int) r.has.length
    rw [show atTo r.has (a : Int) r.has.length = atOf r.has (a : Int) from rfl] at this
    simp only [List.map_cons, List.sum_cons, List.length_cons]
    omega
  have h3 : ((List.range k).filter fun s : Nat => r.seen.getD s false).length ≤ k := Nat.le_trans (List.length_filter_le _ _) (by simp)
  have h4 := Nat.mul_le_mul_right 1000 h3
  omega
 have hown0 : (w1.alloc (.cells #[.int .i64 (find : Int)] 3)).ownsRow w1.heap.size 3 1 (.slice (some ⟨w1.heap.size, 0, none⟩) 1 1) (hallTo (find : Int) r.seen r.has 0).length ((hallTo (find : Int) r.seen r.has 0).map (Value.int .i64)) :=
  ⟨by simp, .inr ⟨_, 1, _, rfl, Nat.le_refl _, World.alloc_heap_new _ _, Nat.le_refl _, by unfold maxLen; omega, rfl, by simp [hallTo]⟩⟩
 have HO0 := Go.Lib.hid hown0
 have HHAS := Go.Lib.hid hhas
 have HSL := Go.Lib.hid hseenl
 have HHLL := Go.Lib.hid hhl
 clear hown0 hhas hseenl hhl
 go_loopw [8, 26] (fun v8 i wr => ∃ k : Nat, k ≤ t.n1 ∧ i = .int .i64 k ∧ Hid (wr.ownsRow w1.heap.size 3 1 v8 (hallTo (find : Int) r.seen r.has k).length ((hallTo (find : Int) r.seen r.has k).map (Value.int .i64)) ∧ Below w1.heap.size w1 wr)) (fun _ i _ => t.n1 - (intOf i).toNat)
 case atStart => exact ⟨0, Nat.zero_le _, rfl, HO0.out, (Below.refl _ _).alloc (Nat.le_refl _) _⟩
 obtain ⟨k, hk, rfl, HID⟩ := hrel
 obtain ⟨hO, hB⟩ := HID.out
 have HO := Go.Lib.hid hO
 have HB := Go.Lib.hid hB
 have hTr := HT1.out.below hB
 have hSr := HS1.out.later (Agree.of_below hB)
 have HTr := Go.Lib.hid hTr
 have HSr := Go.Lib.hid hSr
 clear hO hB hTr hSr HID
 by_cases hlt : k < t.n1
 rotate_left
 ·
  obtain rfl : k = t.n1 := by omega
  have hll := HHLL.out t.n1
  have hkk : t.n1 * 1000 ≤ 1000000 := by have := Nat.mul_le_mul_right 1000 (show t.n1 ≤ 1000 by omega); omega
  have hsmall : (hallTo (find : Int) r.seen r.has t.n1).length ≤ 1000000 + 1 := by omega
  have SRT := sort_own rfl (by omega) HO.out
  clear hll hkk
  go_wp2_with fail
  refine SRT.mono ?_
  clear SRT
  rintro e w5 ⟨rfl, hO5, hg5⟩
  have hB5 : Below w1.heap.size w1 w5 := HB.out.grown hg5 HB.out.size (fun q hq => own_base HO.out q hq)
  have hl5 : (((hallTo (find : Int) r.seen r.has t.n1).mergeSort fun x y => decide (x ≤ y))).length = (hallTo (find : Int) r.seen r.has t.n1).length := by simp
  have CPT := compact_own hl5 (by omega) hO5
  have HO5 := Go.Lib.hid hO5
  have HB5 := Go.Lib.hid hB5
  have HL5 := Go.Lib.hid hl5
  clear hO5 hB5 hl5 hg5
  go_wp2_with fail
  refine CPT.mono ?_
  clear CPT
  rintro e w6 ⟨v6, rfl, hO6, hg6, _⟩
  have hB6 : Below w1.heap.size w1 w6 := HB5.out.grown hg6 HB5.out.size (fun q hq => own_base HO5.out q hq)
  have HO6 := Go.Lib.hid hO6
  have HB6 := Go.Lib.hid hB6
  clear hO6 hB6 hg6
  go_wp2_with fail
  go_ret2
  have hhl := HHL.out
  rw [if_neg (by rw [HOK.out]; simp)] at hhl
  refine ⟨v6, by rw [HOK.out]; rfl, HBG.out.agree hbhl (HAG.out.trans (Agree.of_below HB6.out)), (HT1.out.below HB6.out).rh, ?_⟩
  rw [← hhl]
  exact own_weaken HO6.out (by omega)
 have c1 : wr.cell? ⟨w.heap.size + 1, k, none⟩ = some (.bool (r.seen.getD k false)) := by
  have h := HTr.out.rs.cellD false (k : Int) (by omega) (by rw [HSL.out]; omega)
  rw [Int.toNat_natCast] at h
  exact h
 by_cases hsn : r.seen.getD k false = true
 rotate_left
 ·
  have hsn' : r.seen.getD k false = false := by simpa using hsn
  rw [hsn'] at c1
  have HSN := Go.Lib.hid hsn'
  clear hsn hsn'
  go_wp2_with fail
  go_roundw
  case rel => exact ⟨k + 1, by omega, by simp, by rw [hallTo_no HSN.out]; exact HO.out, HB.out⟩
  case measure => simp [intOf]; omega
 rw [hsn] at c1
 have HSN := Go.Lib.hid hsn
 clear hsn
 have c2 : wr.cell? ⟨w.heap.size, 0, none⟩ = some (.pointer (some ⟨t.g, 0, none⟩)) := HSr.out.still.t
 go_wp2_with fail
 refine (at_calls _ _ _).mono ?_
 rintro e w3 ⟨rfl, rfl⟩
 go_wp2_with fail
 have hB3 : Below wr.heap.size wr ((wr.alloc (.cells #[.pointer (some ⟨t.g, 0, none⟩)] 68)).alloc (.cells #[.int .i64 (k : Int)] 3)) := ((Below.refl _ wr).alloc (Nat.le_refl _) _).alloc (by simp) _
 have bT := ((Boxed.new wr 68 (.pointer (some ⟨t.g, 0, none⟩))).alloc (.cells #[.int .i64 (k : Int)] 3)).cell
 have bS := (Boxed.new (wr.alloc (.cells #[.pointer (some ⟨t.g, 0, none⟩)] 68)) 3 (.int .i64 (k : Int))).cell
 simp only [World.size_alloc] at bS
 have hlen8 : r.has.length * 8 ≤ 140737488355328 := by rw [HHAS.out]; omega
 have CO := collect_in wr.heap.size (wr.heap.size + 1) t.g (some ⟨t.bh, 0, none⟩) t.ch (k : Int) r.has hlen8 _ bT bS (by rw [HHAS.out]; exact ((HSr.out.later (Agree.of_below hB3)).still.f4)) (HTr.out.below hB3).rh.ints
 refine CO.mono ?_
 clear CO
 rintro e w4 ⟨v4, rfl, ho4, hb4⟩
 have hO4 := pw_own_below (pw_own_below HO.out hB3) hb4
 have hB4 : Below w1.heap.size w1 w4 := (HB.out.trans (hB3.mono HB.out.size)).trans (hb4.mono (Nat.le_trans HB.out.size hB3.size))
 have hR4 := Kd.R_of_own (enc := Value.int .i64) (h1 := fun _ => rfl) (ok := fun q => w1.heap.size ≤ q) hO4 (fun q hq => own_base hO4 q hq)
 obtain ⟨A4, c4, rfl, _, hC4⟩ := Kd.R_reads (Kd.R_of_own (enc := Value.int .i64) (h1 := fun _ => rfl) (ok := fun _ => True) ho4 (fun _ _ => trivial))
 have hat := atTo_length r.has (k : Int) r.has.length
 rw [show atTo r.has (k : Int) r.has.length = atOf r.has (k : Int) from rfl, HHAS.out] at hat
 have hfr : ∀ q, w4.heap.size ≤ q → w1.heap.size ≤ q := fun q hq => Nat.le_trans hB4.size hq
 have hll := HHLL.out k
 have hkk : k * 1000 ≤ 1000000 := by have := Nat.mul_le_mul_right 1000 (show k ≤ 1000 by omega); omega
 have hsum : ((hallTo (find : Int) r.seen r.has k).length + (atOf r.has (k : Int)).length) * 8 ≤ 140737488355328 := by omega
 have HR4 := Go.Lib.hid hR4
 have HC4 := Go.Lib.hid hC4
 have HB4 := Go.Lib.hid hB4
 have HFR := Go.Lib.hid hfr
 have hb4s := hB4.size
 have HSUM := Go.Lib.hid hsum
 clear hR4 hC4 hB4 hfr hO4 ho4 hb4 bT bS hlen8 hB3 hat hll hkk hsum c1 c2
 go_wp2_with (at_builtin; refine Kd.R_append_row (Value.int .i64) 0 (w0 := w1) w1.heap.size rfl _ _ 22 3 (.int .i64 0) 8 rfl Try.underlying22 itinfo3 rfl (by omega) _ (hallTo (find : Int) r.seen r.has k) (atOf r.has (k : Int)) A4 _ c4 (fun q => w1.heap.size ≤ q) rfl rfl HFR.out HR4.out HC4.out HB4.out hb4s HSUM.out ?_; intro v5 w5 hR5 hB5 _ _; have HR5 := Go.Lib.hid hR5; have HB5 := Go.Lib.hid hB5; clear hR5 hB5)
 go_roundw
 case rel => exact ⟨k + 1, by omega, by simp, by rw [hallTo_yes HSN.out]; exact Kd.own_of_R HR5.out, HB5.out⟩
 case measure => simp [intOf]; omega
end Go.Proofs.Ytkmmihadcbfkoaa
end

section
namespace Go.Proofs.Ytkmmihadcbfkoaa
open Go.RowKit Go.Proofs.YtkmmihadcbfkoaaW.PrintWords PM
set_option linter.unusedVariables false
set_option linter.unusedSimpArgs false
def FillPost (t : TL) (r : FR) (w : World) (e : Ending) (w' : World) : Prop :=
 ∃ v, e = .returned (.tuple #[v, .bool r.ok]) ∧ Agree t.bh t.bh w w' ∧ RowAt w' t.bh 3 (Value.int .i64) r.has ∧ w'.ownsRow w.heap.size 3 1 v r.hall.length (r.hall.map (Value.int .i64))
set_option maxRecDepth 100000 in
set_option maxHeartbeats 4000000 in
theorem fill_calls (t : TL) (fits : List (List Int)) (room : List Int) (hF : TFit t fits room) (out : Int) (has : List Int) (hlh : has.length = t.nh) (w : World)
  (hS : TStands t fits room w) (hH : RowAt w t.bh 3 (Value.int .i64) has) :
  Calls Try.prog 61 #[.pointer (some ⟨t.g, 0, none⟩), .int .i64 out] w (FillPost t (fillF fits room t.n1 out has) w) := by
 have hst := hS.still
 have f2 := hst.f2
 have hfl : (fits.length : Int) ≤ 9223372036854775807 := by have h1 := hF.finds; have h2 := hF.nh; omega
 obtain ⟨r, hr⟩ : ∃ r, fillF fits room t.n1 out has = r := ⟨_, rfl⟩
 rw [hr]
 unfold fillF at hr
 have HS := Go.Lib.hid hS
 have HH := Go.Lib.hid hH
 have HF := Go.Lib.hid hF
 have HLH := Go.Lib.hid hlh
 have HR := Go.Lib.hid hr
 clear hst hS hH hF hlh hr
 go_enter Try.func61, Try.ntmps61
 go_wp2_with fail
 go_loopw [16] (fun i wr => ∃ k : Nat, k ≤ fits.length ∧ i = .int .i64 k ∧ Hid (∃ hs, fillL fits room t.n1 out ((List.range fits.length).drop k) hs = r ∧ hs.length = t.nh ∧ RowAt wr t.bh 3 (Value.int .i64) hs ∧ Agree t.bh t.bh w wr)) (fun i _ => fits.length - (intOf i).toNat)
 case atStart => exact ⟨0, Nat.zero_le _, rfl, has, HR.out, HLH.out, HH.out, Agree.refl _ _ _⟩
 obtain ⟨k, hk, rfl, HID⟩ := hrel
 obtain ⟨hs, hre, hhl, hrow, hag⟩ := HID.out
 by_cases hlt : k < fits.length
 rotate_left
 ·
  obtain rfl : k = fits.length := by omega
  rw [List.drop_of_length_le (by simp)] at hre
  unfold fillL at hre
  have HRE := Go.Lib.hid hre
  have HRO := Go.Lib.hid hrow
  have HAG := Go.Lib.hid hag
  clear hre hrow hag hhl HID
  go_wp2_with fail
  go_ret2
  have hfin := HRE.out
  subst hfin
  exact ⟨_, rfl, HAG.out, HRO.out, World.ownsRow_nil _ _ _ _⟩
 have hdrop : (List.range fits.length).drop k = k :: (List.range fits.length).drop (k + 1) := by
  rw [List.drop_eq_getElem_cons (by simpa using hlt)]
  simp
 rw [hdrop] at hre
 unfold fillL at hre
 have hSr := HS.out.later hag
 obtain ⟨a2, e2, hx2, _⟩ := hSr.still.fits k hlt
 have g2 := hSr.still.f4
 have hkh : k < hs.length := by have := HF.out.finds; omega
 have g3 := hrow.cellD 0 (k : Int) (by omega) (by omega)
 rw [Int.toNat_natCast] at g3
 have hkn : (k : Int) < (t.nh : Int) := by omega
 obtain ⟨row, hrw⟩ : ∃ row, fits.getD k [] = row := ⟨_, rfl⟩
 rw [hrw] at hx2 hre
 have hrl := HF.out.row k hlt
 rw [hrw] at hrl
 have HRW := Go.Lib.hid hrw
 have HRE := Go.Lib.hid hre
 have HHL := Go.Lib.hid hhl
 have HRO := Go.Lib.hid hrow
 have HAG := Go.Lib.hid hag
 have HSR := Go.Lib.hid hSr
 clear hrw hre hhl hrow hag hSr hdrop HID
 rw [e2] at f2 ⊢
 clear e2
 by_cases hr0 : row.length = 0
 ·
  have q0 : ((row.length : Int) == 0) = true := by simpa using hr0
  have HR0 := Go.Lib.hid hr0
  clear hr0
  go_wp2_with fail
  go_roundw
  case rel => exact ⟨k + 1, by omega, by simp, hs, by have h := HRE.out; rw [if_pos (.inl HR0.out)] at h; exact h, HHL.out, HRO.out, HAG.out⟩
  case measure => simp [intOf]; omega
 have q0 : ((row.length : Int) == 0) = false := by simpa using hr0
 have HR0 := Go.Lib.hid hr0
 clear hr0
 by_cases hko : (k : Int) = out
 ·
  have q1 : ((k : Int) == out) = true := by simpa using hko
  have HKO := Go.Lib.hid hko
  clear hko
  go_wp2_with fail
  go_roundw
  case rel => exact ⟨k + 1, by omega, by simp, hs, by have h := HRE.out; rw [if_pos (.inr (.inl HKO.out))] at h; exact h, HHL.out, HRO.out, HAG.out⟩
  case measure => simp [intOf]; omega
 have q1 : ((k : Int) == out) = false := by simpa using hko
 have HKO := Go.Lib.hid hko
 clear hko
 obtain ⟨x, hx⟩ : ∃ x, hs.getD k 0 = x := ⟨_, rfl⟩
 have hre := HRE.out
 rw [hx] at g3 hre
 have HX := Go.Lib.hid hx
 clear hx
 by_cases hx0 : 0 ≤ x
 ·
  rw [if_pos (.inr (.inr hx0))] at hre
  have HRE2 := Go.Lib.hid hre
  clear hre
  go_wp2_with fail
  go_roundw
  case rel => exact ⟨k + 1, by omega, by simp, hs, HRE2.out, HHL.out, HRO.out, HAG.out⟩
  case measure => simp [intOf]; omega
 rw [if_neg (by intro h; rcases h with h | h | h; exact HR0.out h; exact HKO.out h; exact hx0 h)] at hre
 have GC := give_calls t fits room HF.out k (by omega) hs HHL.out wr HSR.out HRO.out
 obtain ⟨gr, hgr⟩ : ∃ gr, giveR fits room t.n1 (k : Int) hs = gr := ⟨_, rfl⟩
 obtain ⟨gh, hgh⟩ : ∃ gh, giveH fits room t.n1 (k : Int) hs = gh := ⟨_, rfl⟩
 have hgl := giveR_len fits room t.n1 (k : Int) hs
 rw [hgr, hgh] at GC hre
 rw [hgr] at hgl
 have HRE2 := Go.Lib.hid hre
 have HGL := Go.Lib.hid hgl
 clear hre hgr hgh hgl
 go_wp2_with fail
 refine GC.mono ?_
 clear GC
 rintro e w1 ⟨v, rfl, hag1, hrow1, hown1⟩
 have HAG1 := Go.Lib.hid (HAG.out.trans hag1)
 have HRO1 := Go.Lib.hid hrow1
 have HO1 := Go.Lib.hid hown1
 clear hag1 hrow1 hown1
 by_cases hok : gr.ok = true
 ·
  have hre := HRE2.out
  rw [if_pos hok] at hre
  have HRE3 := Go.Lib.hid hre
  rw [hok]
  clear hre hok
  go_wp2_with fail
  go_roundw
  case rel => exact ⟨k + 1, by omega, by simp, gr.has, HRE3.out, HGL.out.trans HHL.out, HRO1.out, HAG1.out⟩
  case measure => simp [intOf]; omega
 have hok' : gr.ok = false := by simpa using hok
 have hre := HRE2.out
 rw [if_neg hok] at hre
 have HRE3 := Go.Lib.hid hre
 rw [hok']
 clear hre hok hok'
 go_wp2_with fail
 go_ret2
 have hfin := HRE3.out
 subst hfin
 exact ⟨v, rfl, HAG1.out, HRO1.out, own_weaken HO1.out HAG.out.size⟩
end Go.Proofs.Ytkmmihadcbfkoaa
end

section
namespace Go.Proofs.Ytkmmihadcbfkoaa
open Go.RowKit Go.Proofs.YtkmmihadcbfkoaaW.PrintWords PM
set_option linter.unusedVariables false
set_option linter.unusedSimpArgs false
/-- What a board that is as said brings: sizes, and slots that there are. -/
structure BOK (F : List Int) (S : List S50) (T : List (List Int)) : Prop where
 nf : F.length ≤ 60
 ns : S.length ≤ 200
 nt : T.length = F.length
 row : ∀ i : Nat, i < T.length → (T.getD i []).length ≤ 1000
 slot : ∀ i : Nat, i < T.length → ∀ j : Nat, j < (T.getD i []).length → 0 ≤ (T.getD i []).getD j 0 ∧ (T.getD i []).getD j 0 < S.length
theorem mk_stands {w0 w : World} {g bh nh ch n1 c1 c2 : Nat} {s0 vr : Value} {A1 A2 : Option Addr} {fits : List (List Int)} {room has : List Int} {ra : Nat → Option Addr} {rc : Nat → Nat}
  (hB : Below w0.heap.size w0 w) (hg : w.heap[g]? = some (.cells #[s0, .slice A1 n1 c1, .slice A2 fits.length c2, vr, .slice (some ⟨bh, 0, none⟩) nh ch] 80 (0, 0))) (hbl : w0.heap.size ≤ bh)
  (hrow : RowAt w bh 3 (Value.int .i64) has) (hroom : w.ownsRow w0.heap.size 3 1 vr room.length (room.map (Value.int .i64))) (hne : vr.ownBlock ≠ some bh) (hra : RowsAt w0 A2 ra rc fits) :
  ∃ Ar cr, vr = .slice Ar room.length cr ∧ TStands { g := g, bh := bh, s0 := s0, A1 := A1, n1 := n1, c1 := c1, A2 := A2, c2 := c2, ra := ra, rc := rc, Ar := Ar, cr := cr, nh := nh, ch := ch } fits room w := by
 obtain ⟨Ar, cr, rfl, _, _⟩ := Kd.R_reads (Kd.R_of_own (enc := Value.int .i64) (h1 := fun _ => rfl) (ok := fun _ => True) hroom (fun _ _ => trivial))
 refine ⟨Ar, cr, rfl, fun w' a => ?_⟩
 have hgl := (Array.getElem?_eq_some_iff.1 hg).1
 have hgb : g ≠ bh := by
  rintro rfl
  obtain ⟨cs, hc, _⟩ := hrow
  rw [hg] at hc
  injection hc with hc
  injection hc with _ hc
  exact absurd hc (by decide)
 have hg' := (a.block g hgl hgb hgb).trans hg
 have hB' : Below w0.heap.size w0 w' := a.below hB hB.size hbl hbl
 have hroom' := own_move (w1 := w') hroom (fun k hk => a.block k (own_lt hroom k hk) (fun e => hne (by rw [hk, e])) (fun e => hne (by rw [hk, e])))
 obtain ⟨Ar', cr', e, _, hC⟩ := Kd.R_reads (Kd.R_of_own (enc := Value.int .i64) (h1 := fun _ => rfl) (ok := fun _ => True) hroom' (fun _ _ => trivial))
 injection e with e1 e2 e3
 subst e1
 exact ⟨cell_of_heap hg' rfl, cell_of_heap hg' rfl, cell_of_heap hg' rfl, cell_of_heap hg' rfl, cell_of_heap hg' rfl, hra.below hB', hC⟩
/-- A trial that lies in memory from block b0 on, its finds' slots being has. -/
structure TIn (b0 : Nat) (t : TL) (fits : List (List Int)) (room has : List Int) (w : World) : Prop where
 fit : TFit t fits room
 st : TStands t fits room w
 row : RowAt w t.bh 3 (Value.int .i64) has
 len : has.length = t.nh
 bl : b0 ≤ t.bh
 capr : room.length ≤ t.cr
 caph : t.nh ≤ t.ch
 caps : ∀ i : Nat, i < fits.length → (fits.getD i []).length ≤ t.rc i
theorem RowsAt.of_C2 {w : World} {A2 : Option Addr} {fits : List (List Int)} (h : Kd.C (Kd.slice 3 (Kd.int .i64)) w A2 fits.length fits) : ∃ ra rc, RowsAt w A2 ra rc fits ∧ ∀ i : Nat, i < fits.length → (fits.getD i []).length ≤ rc i := by
 have hx : ∀ i : Nat, ∃ p : Option Addr × Nat, i < fits.length → ∃ a, A2 = some a ∧ w.cell? (a.add i) = some (.slice p.1 (fits.getD i []).length p.2) ∧ (fits.getD i []).length ≤ p.2 ∧ Kd.C (Kd.int .i64) w p.1 (fits.getD i []).length (fits.getD i []) := fun i => by
  by_cases hi : i < fits.length
  ·
   obtain ⟨a, A0, c0, e, hc, hl, hk⟩ := rows_at h (i : Int) (by omega) (by omega)
   exact ⟨(A0, c0), fun _ => ⟨a, e, by simpa using hc, by simpa using hl, by simpa using hk⟩⟩
  ·
   exact ⟨(none, 0), fun h => absurd h hi⟩
 refine ⟨fun i => (Classical.choose (hx i)).1, fun i => (Classical.choose (hx i)).2, fun i hi => ?_, fun i hi => ?_⟩
 ·
  obtain ⟨a, e, hc, _, hk⟩ := Classical.choose_spec (hx i) hi
  exact ⟨a, e, hc, hk⟩
 obtain ⟨a, e, hc, hl, hk⟩ := Classical.choose_spec (hx i) hi
 exact hl
def SomePost (F : List Int) (S : List S50) (T : List (List Int)) (s0 : Value) (w : World) (e : Ending) (w' : World) : Prop :=
 ∃ t : TL, e = .returned (.tuple #[.pointer (some ⟨t.g, 0, none⟩), .bool (fillF T (rooms S) S.length (-1) (List.replicate F.length (-1))).ok]) ∧ t.n1 = S.length ∧ t.nh = F.length ∧ t.s0 = s0 ∧
  TIn w.heap.size t T (rooms S) (fillF T (rooms S) S.length (-1) (List.replicate F.length (-1))).has w' ∧ Below w.heap.size w w'
/-- A trial of a board, as 'tried' makes it. -/
def TriedPost (F : List Int) (S : List S50) (T : List (List Int)) (s0 : Value) (w : World) (e : Ending) (w' : World) : Prop :=
 ∃ t : TL, e = .returned (.pointer (some ⟨t.g, 0, none⟩)) ∧ t.n1 = S.length ∧ t.nh = F.length ∧ t.s0 = s0 ∧ TIn w.heap.size t T (rooms S) (List.replicate F.length (-1)) w' ∧ Below w.heap.size w w' ∧
  (∃ cells, w'.heap[t.g]? = some (.cells cells 80 (0, 0))) ∧ w.heap.size ≤ t.g ∧ w'.ownsRow w.heap.size 3 1 (.slice t.Ar S.length t.cr) S.length ((rooms S).map (Value.int .i64)) ∧ (Value.slice t.Ar S.length t.cr).ownBlock ≠ some t.bh
theorem tried_calls2 (A0 : Option Addr) (c0 : Nat) (F : List Int) (A1 : Option Addr) (c1 : Nat) (S : List S50) (A2 : Option Addr) (c2 : Nat) (T : List (List Int)) (w : World)
  (hk : BOK F S T) (hr1 : Kd.C k50 w A1 S.length S) (hr2 : Kd.C (Kd.slice 3 (Kd.int .i64)) w A2 T.length T) :
  Calls Try.prog 60 #[.agg #[.slice A0 F.length c0, .slice A1 S.length c1, .slice A2 T.length c2]] w (TriedPost F S T (.slice A0 F.length c0) w) := by
 have h1 := hk.nf
 have h2 := hk.ns
 obtain ⟨ra, rc, hra, hcaps⟩ := RowsAt.of_C2 hr2
 refine (tried_calls A0 F.length c0 A1 c1 S A2 T.length c2 w (by omega) (by omega) hr1).mono ?_
 rintro e w' ⟨g, bh, vr, rfl, hT, hrow, hB⟩
 have hlr : (rooms S).length = S.length := by simp [rooms]
 obtain ⟨Ar, cr, rfl, hst⟩ := mk_stands hB hT.gb hT.hl hrow hT.room hT.ne hra
 refine ⟨_, rfl, rfl, rfl, rfl, ⟨⟨hk.slot, hlr, fun i hi => Nat.le_trans (hk.row i hi) (by omega), hk.nt, by show S.length ≤ _; omega, by show F.length ≤ _; omega⟩, hst, hrow, by simp, hT.hl, (Kd.R_reads' (Kd.R_of_own (enc := Value.int .i64) (h1 := fun _ => rfl) (ok := fun _ => True) hT.room (fun _ _ => trivial))).2.1, Nat.le_refl _, hcaps⟩, hB, ⟨_, hT.gb⟩, hT.gl, ?_, ?_⟩
 ·
  have := hT.room
  rw [hlr] at this
  exact this
 have := hT.ne
 rw [hlr] at this
 exact this
set_option maxRecDepth 100000 in
set_option maxHeartbeats 2000000 in
theorem some_calls (A0 : Option Addr) (c0 : Nat) (F : List Int) (A1 : Option Addr) (c1 : Nat) (S : List S50) (A2 : Option Addr) (c2 : Nat) (T : List (List Int)) (w : World)
  (hk : BOK F S T) (hr1 : Kd.C k50 w A1 S.length S) (hr2 : Kd.C (Kd.slice 3 (Kd.int .i64)) w A2 T.length T) :
  Calls Try.prog 52 #[.agg #[.slice A0 F.length c0, .slice A1 S.length c1, .slice A2 T.length c2]] w (SomePost F S T (.slice A0 F.length c0) w) := by
 have hB0 := (Below.refl w.heap.size w).alloc (Nat.le_refl _) (.cells #[.slice A0 F.length c0, .slice A1 S.length c1, .slice A2 T.length c2] 26)
 have TC := tried_calls2 A0 c0 F A1 c1 S A2 c2 T _ hk (Kd.C_below hr1 hB0) (Kd.C_below hr2 hB0)
 have HB0 := Go.Lib.hid hB0
 clear hr1 hr2 hB0
 go_enter Try.func52, Try.ntmps52
 go_wp2_with fail
 refine TC.mono ?_
 clear TC
 rintro e w1 ⟨t, rfl, e1, e2, e3, hT, hB, _⟩
 have FC := fill_calls t T (rooms S) hT.fit (-1) _ hT.len w1 hT.st hT.row
 rw [e1] at FC
 have HE1 := Go.Lib.hid e1
 have HE2 := Go.Lib.hid e2
 have HE3 := Go.Lib.hid e3
 have HT := Go.Lib.hid hT
 have HB := Go.Lib.hid hB
 clear hT hB e1 e2 e3
 go_wp2_with fail
 refine FC.mono ?_
 clear FC
 rintro e w2 ⟨v, rfl, hag, hrow, _⟩
 have HAG := Go.Lib.hid hag
 have HRO := Go.Lib.hid hrow
 clear hag hrow
 go_wp2_with fail
 go_ret2
 have hb1 : Below w.heap.size w w1 := HB0.out.trans (HB.out.mono HB0.out.size)
 have hbl : w.heap.size ≤ t.bh := Nat.le_trans HB0.out.size HT.out.bl
 exact ⟨t, rfl, HE1.out, HE2.out, HE3.out, ⟨HT.out.fit, HT.out.st.later HAG.out, HRO.out, by rw [fillF, fillL_len]; exact HT.out.len, hbl, HT.out.capr, HT.out.caph, HT.out.caps⟩, HAG.out.below hb1 hb1.size hbl hbl⟩
/-- Is there an assignment? -/
def isF (F : List Int) (S : List S50) (T : List (List Int)) : Bool := (fillF T (rooms S) S.length (-1) (List.replicate F.length (-1))).ok
/-- The assignment that is found first. -/
def hasF (F : List Int) (S : List S50) (T : List (List Int)) : List Int := (fillF T (rooms S) S.length (-1) (List.replicate F.length (-1))).has
/-- What 'matched' comes to, if there is an assignment. -/
def MatchedPost (F : List Int) (S : List S50) (T : List (List Int)) (s0 : Value) (w : World) (e : Ending) (w' : World) : Prop :=
  ∃ t : TL, e = .returned (.tuple #[.pointer (some ⟨t.g, 0, none⟩), .int .i64 0]) ∧ t.n1 = S.length ∧ t.nh = F.length ∧ t.s0 = s0 ∧
   TIn w.heap.size t T (rooms S) (hasF F S T) w' ∧ Below w.heap.size w w'
set_option maxRecDepth 100000 in
set_option maxHeartbeats 2000000 in
theorem matched_yes (A0 : Option Addr) (c0 : Nat) (F : List Int) (A1 : Option Addr) (c1 : Nat) (S : List S50) (A2 : Option Addr) (c2 : Nat) (T : List (List Int)) (w : World)
  (hk : BOK F S T) (hr1 : Kd.C k50 w A1 S.length S) (hr2 : Kd.C (Kd.slice 3 (Kd.int .i64)) w A2 T.length T) (hok : isF F S T = true) :
  Calls Try.prog 56 #[.agg #[.slice A0 F.length c0, .slice A1 S.length c1, .slice A2 T.length c2]] w (MatchedPost F S T (.slice A0 F.length c0) w) := by
 have hB0 := (Below.refl w.heap.size w).alloc (Nat.le_refl _) (.cells #[.slice A0 F.length c0, .slice A1 S.length c1, .slice A2 T.length c2] 26)
 have TC := some_calls A0 c0 F A1 c1 S A2 c2 T _ hk (Kd.C_below hr1 hB0) (Kd.C_below hr2 hB0)
 unfold SomePost at TC
 unfold MatchedPost hasF
 unfold isF at hok
 generalize fillF T (rooms S) S.length (-1) (List.replicate F.length (-1)) = q at *
 have HB0 := Go.Lib.hid hB0
 rw [hok] at TC
 clear hr1 hr2 hB0 hok
 go_enter Try.func56, Try.ntmps56
 go_wp2_with fail
 refine TC.mono ?_
 clear TC
 rintro e w1 ⟨t, rfl, e1, e2, e3, hT, hB⟩
 have HE := Go.Lib.hid (And.intro e1 (And.intro e2 e3))
 have HT := Go.Lib.hid hT
 have HB := Go.Lib.hid hB
 clear hT hB e1 e2 e3
 go_wp2_with fail
 go_ret2
 have hb1 : Below w.heap.size w w1 := HB0.out.trans (HB.out.mono HB0.out.size)
 exact ⟨t, rfl, HE.out.1, HE.out.2.1, HE.out.2.2, ⟨HT.out.fit, HT.out.st, HT.out.row, HT.out.len, Nat.le_trans HB0.out.size HT.out.bl, HT.out.capr, HT.out.caph, HT.out.caps⟩, hb1⟩
set_option maxRecDepth 100000 in
set_option maxHeartbeats 2000000 in
theorem matched_no (A0 : Option Addr) (c0 : Nat) (F : List Int) (A1 : Option Addr) (c1 : Nat) (S : List S50) (A2 : Option Addr) (c2 : Nat) (T : List (List Int)) (w : World)
  (hk : BOK F S T) (hr1 : Kd.C k50 w A1 S.length S) (hr2 : Kd.C (Kd.slice 3 (Kd.int .i64)) w A2 T.length T) (hok : isF F S T = false) :
  Calls Try.prog 56 #[.agg #[.slice A0 F.length c0, .slice A1 S.length c1, .slice A2 T.length c2]] w fun e w' => e = .returned (.tuple #[.pointer none, .int .i64 40]) ∧ Below w.heap.size w w' := by
 have hB0 := (Below.refl w.heap.size w).alloc (Nat.le_refl _) (.cells #[.slice A0 F.length c0, .slice A1 S.length c1, .slice A2 T.length c2] 26)
 have TC := some_calls A0 c0 F A1 c1 S A2 c2 T _ hk (Kd.C_below hr1 hB0) (Kd.C_below hr2 hB0)
 unfold SomePost at TC
 unfold isF at hok
 generalize fillF T (rooms S) S.length (-1) (List.replicate F.length (-1)) = q at *
 have HB0 := Go.Lib.hid hB0
 rw [hok] at TC
 clear hr1 hr2 hB0 hok
 go_enter Try.func56, Try.ntmps56
 go_wp2_with fail
 refine TC.mono ?_
 clear TC
 rintro e w1 ⟨t, rfl, e1, e2, e3, hT, hB⟩
 have HB := Go.Lib.hid hB
 clear hT hB e1 e2 e3
 go_wp2_with fail
 go_ret2
 exact ⟨rfl, HB0.out.trans (HB.out.mono HB0.out.size)⟩
end Go.Proofs.Ytkmmihadcbfkoaa
end

section
namespace Go.Proofs.Ytkmmihadcbfkoaa
open PM
theorem risB_at {l : List Int} {a b : Int} (h : risB l a b = true) : ∀ i, i < l.length → a ≤ l.getD i 0 ∧ l.getD i 0 ≤ b ∧ (0 < i → l.getD (i - 1) 0 < l.getD i 0) := by
 intro i hi
 have := List.all_eq_true.1 h i (List.mem_range.2 hi)
 unfold risAt inB at this
 simp only [Bool.and_eq_true, Bool.or_eq_true, decide_eq_true_eq] at this
 exact ⟨this.1.1, this.1.2, fun h0 => by rcases this.2 with h | h; exact absurd h (by omega); exact h⟩
theorem risB_low {l : List Int} {a b : Int} (h : risB l a b = true) : ∀ i : Nat, i < l.length → a + i ≤ l.getD i 0
 | 0, hi => by have := (risB_at h 0 hi).1; omega
 | i + 1, hi => by
  have ih := risB_low h i (by omega)
  have := (risB_at h (i + 1) hi).2.2 (by omega)
  rw [Nat.add_sub_cancel] at this
  omega
theorem risB_len {l : List Int} {b : Int} (h : risB l 0 b = true) : (l.length : Int) ≤ b + 1 ∨ l = [] := by
 cases hl : l.length with
 | zero => exact Or.inr (List.length_eq_zero_iff.1 hl)
 | succ n =>
  have h1 := risB_low h n (by omega)
  have h2 := (risB_at h n (by omega)).2.1
  exact Or.inl (by omega)
theorem check_parts {F : List Int} {S : List S50} {T : List (List Int)} (h : checkB F S T = 0) : F.length ≤ 60 ∧ S.length ≤ 200 ∧ risB F 10 10000007 = true ∧ T.length = F.length ∧ slotsB S = true ∧ fitsB S T = true := by
 unfold checkB at h
 split at h
 ·
  exact absurd h (by decide)
 split at h
 ·
  exact absurd h (by decide)
 rename_i h1 h2
 split at h
 ·
  exact absurd h (by decide)
 split at h
 ·
  exact absurd h (by decide)
 rename_i h3 h4
 refine ⟨by omega, by omega, ?_, ?_, by simpa using h3, by simpa using h4⟩
 ·
  cases hr : risB F 10 10000007 with
  | true => rfl
  | false => exact absurd (Or.inl hr) h2
 exact Decidable.byContradiction fun hn => h2 (Or.inr hn)
theorem fits_row {S : List S50} {T : List (List Int)} (h : fitsB S T = true) (i : Nat) (hi : i < T.length) : risB (T.getD i []) 0 ((S.length : Int) - 1) = true := by
 have := List.all_eq_true.1 h (T.getD i []) (by rw [List.getD_eq_getElem?_getD, List.getElem?_eq_getElem hi]; exact List.getElem_mem hi)
 exact this
theorem bok_of_check {F : List Int} {S : List S50} {T : List (List Int)} (h : checkB F S T = 0) : BOK F S T := by
 obtain ⟨h1, h2, h3, h4, h5, h6⟩ := check_parts h
 refine ⟨h1, h2, h4, fun i hi => ?_, fun i hi j hj => ?_⟩
 ·
  rcases risB_len (fits_row h6 i hi) with h | h
  ·
   omega
  rw [h]; simp
 have := risB_at (fits_row h6 i hi) j hj
 omega
theorem room_bound {F : List Int} {S : List S50} {T : List (List Int)} (h : checkB F S T = 0) (i : Nat) (hi : i < S.length) : 1 ≤ (rooms S).getD i 0 ∧ (rooms S).getD i 0 ≤ 20 := by
 have h5 := (check_parts h).2.2.2.2.1
 have := List.all_eq_true.1 h5 i (List.mem_range.2 hi)
 unfold slotAt slotIn inB at this
 simp only [Bool.and_eq_true, decide_eq_true_eq] at this
 have e : (rooms S).getD i 0 = (S.getD i z50).f2 := by
  simp [rooms, List.getD_eq_getElem?_getD, List.getElem?_eq_getElem hi]
 rw [e]
 exact this.1.1.2
end Go.Proofs.Ytkmmihadcbfkoaa
end

section
namespace Go.Proofs.Ytkmmihadcbfkoaa
open Go.RowKit Go.Proofs.YtkmmihadcbfkoaaW.PrintWords PM
set_option linter.unusedVariables false
set_option linter.unusedSimpArgs false
/-- From some fuel on it comes to r. -/
def Ev {α : Type} (f : Nat → Option α) (r : α) : Prop := ∃ K, ∀ k, K ≤ k → f k = some r
theorem Ev.step {α : Type} {f g : Nat → Option α} {r : α} (h : Ev g r) (hs : ∀ k, f (k + 1) = g k) : Ev f r := by
 obtain ⟨K, hK⟩ := h
 refine ⟨K + 1, fun k hk => ?_⟩
 obtain ⟨k, rfl⟩ : ∃ m, k = m + 1 := ⟨k - 1, by omega⟩
 rw [hs, hK k (by omega)]
theorem Ev.const {α : Type} (r : α) : Ev (fun _ => some r) r := ⟨0, fun _ _ => rfl⟩
theorem Ev.bind {α β : Type} {f : Nat → Option α} {g : Nat → α → Option β} {r : α} {s : β} (h : Ev f r) (h2 : Ev (fun k => g k r) s) : Ev (fun k => (f k).bind (g k)) s := by
 obtain ⟨K, hK⟩ := h
 obtain ⟨L, hL⟩ := h2
 refine ⟨max K L, fun k hk => ?_⟩
 show (f k).bind (g k) = _
 rw [hK k (by omega), Option.bind_some]
 exact hL k (by omega)
theorem Ev.congr {α : Type} {f g : Nat → Option α} {r : α} (h : Ev g r) (hs : ∀ k, f k = g k) : Ev f r := by
 obtain ⟨K, hK⟩ := h
 exact ⟨K, fun k hk => by rw [hs, hK k hk]⟩
end Go.Proofs.Ytkmmihadcbfkoaa
end

section
namespace Go.Proofs.Ytkmmihadcbfkoaa
open Go.RowKit Go.Proofs.YtkmmihadcbfkoaaW.PrintWords PM
set_option linter.unusedVariables false
set_option linter.unusedSimpArgs false
/-- Behind the slots. -/
def behind (F : List Int) (S : List S50) (T : List (List Int)) : Int := if T.length = F.length then (if fitsB S T then 0 else 1) else 1
end Go.Proofs.Ytkmmihadcbfkoaa
end

section
namespace Go.Proofs.Ytkmmihadcbfkoaa
open Go.RowKit Go.Proofs.YtkmmihadcbfkoaaW.PrintWords PM
set_option linter.unusedVariables false
set_option linter.unusedSimpArgs false
abbrev Key := Int × Int × Int
def keyV (k : Key) : Value := .agg #[.int .i64 k.1, .int .i64 k.2.1, .int .i64 k.2.2]
theorem run_checkKey (empty : Bool) (k : Key) (w : World) : (Instr.checkKey empty 10000 50 (keyV k)).run Try.prog w = .ok () w := by kernel_rfl
theorem run_equal_key (k q : Key) (w : World) : (Op.equal 50 (keyV k) (keyV q)).run Try.prog w = .ok (decide (k = q)) w := by
 have h := eqA50 9998 w k.1 q.1 k.2.1 q.2.1 k.2.2 q.2.2
 have e : (k.1 == q.1 && (k.2.1 == q.2.1 && k.2.2 == q.2.2)) = decide (k = q) := by
  obtain ⟨a, b, c⟩ := k
  obtain ⟨a', b', c'⟩ := q
  rw [Bool.eq_iff_iff]
  simp
 rw [← e]
 exact h
/-- Block m is a map that is the set of these keys. -/
def SetMap (w : World) (m : Nat) (ks : List Key) : Prop := ∃ es clock, w.heap[m]? = some (.map es clock) ∧ es.toList.map (fun e => (e.key, e.val)) = ks.map fun k => (keyV k, Value.bool true)
theorem run_findAsking (k : Key) : ∀ (es : List MapEntry) (ks : List Key) (i : Nat) (w : World), es.map (fun e => (e.key, e.val)) = ks.map (fun k => (keyV k, Value.bool true)) →
  (k ∈ ks → ∃ j, (Instr.findAsking 50 (keyV k) es i).run Try.prog w = .ok (some (j, .bool true)) w) ∧ (k ∉ ks → (Instr.findAsking 50 (keyV k) es i).run Try.prog w = .ok none w)
 | [], ks, i, w, h => by
  have : ks = [] := by cases ks with | nil => rfl | cons _ _ => simp at h
  subst this
  exact ⟨fun h => absurd h (by simp), fun _ => rfl⟩
 | e :: es, [], i, w, h => by simp at h
 | e :: es, q :: ks, i, w, h => by
  simp only [List.map_cons, List.cons.injEq, Prod.mk.injEq] at h
  obtain ⟨⟨h1, h2⟩, h3⟩ := h
  have ih := run_findAsking k es ks (i + 1) w h3
  have hq := run_equal_key k q w
  by_cases e0 : k = q
  ·
   refine ⟨fun _ => ⟨i, ?_⟩, fun hn => absurd (by simp [e0]) hn⟩
   subst e0
   simp only [Instr.findAsking, h1, h2]
   simp [hq, go_sem]
  ·
   refine ⟨fun hm => ?_, fun hn => ?_⟩
   ·
    obtain ⟨j, hj⟩ := ih.1 (by simpa [e0] using hm)
    refine ⟨j, ?_⟩
    simp only [Instr.findAsking, h1, h2]
    simp [hq, e0, hj, go_sem]
   ·
    have hj := ih.2 (by simpa [e0] using hn)
    simp only [Instr.findAsking, h1, h2]
    simp [hq, e0, hj, go_sem]
theorem run_findKey (k : Key) (es : List MapEntry) (ks : List Key) (w : World) (h : es.map (fun e => (e.key, e.val)) = ks.map (fun k => (keyV k, Value.bool true))) :
  (k ∈ ks → ∃ j, (Instr.findKey 50 (keyV k) es).run Try.prog w = .ok (some (j, .bool true)) w) ∧ (k ∉ ks → (Instr.findKey 50 (keyV k) es).run Try.prog w = .ok none w) := by
 cases es with
 | nil =>
  have : ks = [] := by cases ks with | nil => rfl | cons _ _ => simp at h
  subst this
  refine ⟨fun h => absurd h (by simp), fun _ => ?_⟩
  simp [Instr.findKey, Instr.findNow, run_underlying Try.underlying50]
 | cons e es =>
  have hf := run_findAsking k (e :: es) ks 0 w h
  have key : (Instr.findKey 50 (keyV k) (e :: es)).run Try.prog w = (Instr.findAsking 50 (keyV k) (e :: es)).run Try.prog w := by
   simp [Instr.findKey, Instr.findNow, Instr.sameNow, run_underlying Try.underlying50]
  rw [key]
  exact hf
theorem run_getMap {w : World} {m : Nat} {es : Array MapEntry} {clock : Nat} (h : w.heap[m]? = some (.map es clock)) : (getObj m).run Try.prog w = .ok (.map es clock) w := by
 simp [getObj, Sem.run, h]
theorem run_setMap {w : World} {m : Nat} {es : Array MapEntry} {clock : Nat} (h : w.heap[m]? = some (.map es clock)) (o : Obj) : (setObj m o).run Try.prog w = .ok () (w.putObj m o) := by
 simp [setObj, Sem.run, h, World.putObj]
theorem run_lookup_set (m : Nat) (ks : List Key) (k : Key) (w : World) (h : SetMap w m ks) : (Instr.lookup 97 (.map (some m)) (keyV k) false).run Try.prog w = .ok (.bool (decide (k ∈ ks))) w := by
 obtain ⟨es, clock, hm, he⟩ := h
 have hf := run_findKey k es.toList ks w he
 have hc := run_checkKey es.isEmpty k w
 by_cases hk : k ∈ ks
 rotate_left
 ·
  have hj := hf.2 hk
  simp [Instr.lookup, run_underlying Try.underlying97, run_getMap hm, hc, hj, hk, go_sem]
 obtain ⟨j, hj⟩ := hf.1 hk
 simp [Instr.lookup, run_underlying Try.underlying97, run_getMap hm, hc, hj, hk, go_sem]
theorem run_update_set (m : Nat) (ks : List Key) (k : Key) (w : World) (h : SetMap w m ks) (hk : k ∉ ks) : ∃ w', (Instr.mapUpdate 97 (.map (some m)) (keyV k) (.bool true)).run Try.prog w = .ok () w' ∧ SetMap w' m (ks ++ [k]) ∧ w.grownBy w' (some m) ∧ w'.heap.size = w.heap.size := by
 obtain ⟨es, clock, hm, he⟩ := h
 have hf := run_findKey k es.toList ks w he
 have hc := run_checkKey false k w
 have hj := hf.2 hk
 have hml := (Array.getElem?_eq_some_iff.1 hm).1
 refine ⟨w.putObj m (.map (es.push { key := keyV k, val := .bool true, born := clock }) (clock + 1)), ?_, ⟨_, _, World.putObj_heap_same hml, ?_⟩, grownBy_putObj' _ _ _, ?_⟩
 ·
  simp [Instr.mapUpdate, run_underlying Try.underlying97, run_getMap hm, hc, hj, run_setMap hm, go_sem]
 ·
  simp [he]
 simp [World.putObj]
theorem run_make_set (w : World) : (Instr.makeMap 97 none).run Try.prog w = .ok (.map (some w.heap.size)) (w.alloc (.map #[] 0)) := by
 simp [Instr.makeMap, run_underlying Try.underlying97, go_sem]
end Go.Proofs.Ytkmmihadcbfkoaa
end

section
namespace Go.Proofs.Ytkmmihadcbfkoaa
open Go.RowKit Go.Proofs.YtkmmihadcbfkoaaW.PrintWords PM
set_option linter.unusedVariables false
set_option linter.unusedSimpArgs false
def CbPost (r : Int) (w : World) (e : Ending) (w' : World) : Prop := e = .returned (.int .i64 r) ∧ Below w.heap.size w w'
/-- Between two rounds of the loop over the slots: the board's box, the map of the keys seen. -/
structure CbRel (S : List S50) (s0 s1 s2 : Value) (m : Nat) (w : World) (k : Nat) (wr : World) : Prop where
 ok : ∀ j, j < k → slotAt S j = true
 box : wr.heap[w.heap.size]? = some (.cells #[s0, s1, s2] 26 (0, 0))
 set : SetMap wr m ((S.take k).map slotKey)
 bl : Below w.heap.size w wr
set_option maxRecDepth 100000 in
set_option maxHeartbeats 8000000 in
theorem checkboard_calls (A0 : Option Addr) (c0 : Nat) (F : List Int) (A1 : Option Addr) (c1 : Nat) (S : List S50) (A2 : Option Addr) (c2 : Nat) (T : List (List Int)) (w : World)
  (hr0 : Kd.C (Kd.int .i64) w A0 F.length F) (hc0 : F.length ≤ c0) (hr1 : Kd.C k50 w A1 S.length S) (hr2 : Kd.C (Kd.slice 3 (Kd.int .i64)) w A2 T.length T) :
  Calls Try.prog 47 #[.agg #[.slice A0 F.length c0, .slice A1 S.length c1, .slice A2 T.length c2]] w (CbPost (checkB F S T) w) := by
 have hB0 := (Below.refl w.heap.size w).alloc (Nat.le_refl _) (.cells #[.slice A0 F.length c0, .slice A1 S.length c1, .slice A2 T.length c2] 26)
 have b0 := World.alloc_heap_new w (.cells #[.slice A0 F.length c0, .slice A1 S.length c1, .slice A2 T.length c2] 26)
 have lF : F.length ≤ 9223372036854775807 := hr0.2.1
 have lS : S.length ≤ 9223372036854775807 := hr1.2.1
 have lT : T.length ≤ 9223372036854775807 := hr2.2.1
 obtain ⟨q, hq⟩ : ∃ q, checkB F S T = q := ⟨_, rfl⟩
 rw [hq]
 unfold checkB at hq
 by_cases h1 : 60 < F.length ∨ 200 < S.length
 ·
  rw [if_pos h1] at hq
  subst hq
  by_cases h2 : 60 < F.length
  ·
   have g1 : decide ((60 : Int) < (F.length : Int)) = true := by simp; omega
   go_enter Try.func47, Try.ntmps47
   go_wp2_with fail
   go_ret
   exact ⟨rfl, hB0⟩
  have h3 : 200 < S.length := by omega
  have g1 : decide ((60 : Int) < (F.length : Int)) = false := by simp; omega
  have g2 : decide ((200 : Int) < (S.length : Int)) = true := by simp; omega
  go_enter Try.func47, Try.ntmps47
  go_wp2_with fail
  go_ret
  exact ⟨rfl, hB0⟩
 rw [if_neg h1] at hq
 have g1 : decide ((60 : Int) < (F.length : Int)) = false := by simp; omega
 have g2 : decide ((200 : Int) < (S.length : Int)) = false := by simp; omega
 have HQ := Go.Lib.hid hq
 have HR0 := Go.Lib.hid hr0
 have HR1 := Go.Lib.hid hr1
 have HR2 := Go.Lib.hid hr2
 have HB0 := Go.Lib.hid hB0
 have hl1 : F.length ≤ 60 := by omega
 have hl2 : S.length ≤ 200 := by omega
 have RC := rising_calls A0 c0 F 10 10000007 _ (Kd.C_below hr0 hB0) hc0 lF
 clear hq hr0 hr1 hr2 hB0 h1
 clear b0
 go_enter Try.func47, Try.ntmps47
 go_wp2_with fail
 refine RC.mono ?_
 clear RC
 rintro e w1 ⟨rfl, hd1⟩
 have b1 : w1.heap[w.heap.size]? = some (.cells #[.slice A0 F.length c0, .slice A1 S.length c1, .slice A2 T.length c2] 26 (0, 0)) := by
  rw [hd1.below.block w.heap.size (by simp)]
  exact World.alloc_heap_new w _
 have k0 := cell_of_heap b1 (j := 0) rfl
 have k1 := cell_of_heap b1 (j := 1) rfl
 have k2 := cell_of_heap b1 (j := 2) rfl
 have hB1 : Below w.heap.size w w1 := HB0.out.trans (hd1.below.mono HB0.out.size)
 have HB1 := Go.Lib.hid hB1
 have BX1 := Go.Lib.hid b1
 clear hB1 b1 hd1
 cases hrs : risB F 10 10000007 with
 | false =>
  have HQ1 : q = 1 := by have := HQ.out; rw [if_pos (Or.inl hrs)] at this; exact this.symm
  subst HQ1
  clear hrs
  go_wp2_with fail
  go_ret
  exact ⟨rfl, HB1.out⟩
 | true =>
  have HRS := Go.Lib.hid hrs
  clear hrs
  by_cases hn : T.length = F.length
  rotate_left
  ·
   have g3 : decide ((T.length : Int) = (F.length : Int)) = false := by simp; omega
   have HQ1 : q = 1 := by have := HQ.out; rw [if_pos (Or.inr hn)] at this; exact this.symm
   subst HQ1
   go_wp2_with fail
   go_ret
   exact ⟨rfl, HB1.out⟩
  obtain ⟨m, W2, hm, hset, hB2, hml, b2⟩ : ∃ m W2, (Instr.makeMap 97 none).run Try.prog w1 = .ok (.map (some m)) W2 ∧ SetMap W2 m [] ∧ Below w.heap.size w W2 ∧ w.heap.size < m ∧ W2.heap[w.heap.size]? = w1.heap[w.heap.size]? :=
   ⟨_, _, run_make_set w1, ⟨#[], 0, World.alloc_heap_new _ _, rfl⟩, HB1.out.alloc HB1.out.size _, (Array.getElem?_eq_some_iff.1 BX1.out).1, ((Below.refl w1.heap.size w1).alloc (Nat.le_refl _) _).block _ (Array.getElem?_eq_some_iff.1 BX1.out).1⟩
  rw [BX1.out] at b2
  have j1 := cell_of_heap b2 (j := 1) rfl
  have g3 : decide ((T.length : Int) = (F.length : Int)) = true := by simp; omega
  have REL0 : CbRel S (.slice A0 F.length c0) (.slice A1 S.length c1) (.slice A2 T.length c2) m w 0 W2 := ⟨fun j hj => absurd hj (by omega), b2, hset, hB2⟩
  have REL := Go.Lib.hid REL0
  clear hset hB2 b2 REL0
  go_wp2_with fail
  go_loopw [34] (fun i wr => ∃ k : Nat, k ≤ S.length ∧ i = .int .i64 k ∧ Hid (CbRel S (.slice A0 F.length c0) (.slice A1 S.length c1) (.slice A2 T.length c2) m w k wr)) (fun i _ => S.length - (intOf i).toNat)
  case atStart => exact ⟨0, Nat.zero_le _, rfl, REL⟩
  obtain ⟨k, hk, rfl, HID⟩ := hrel
  by_cases hlt : k < S.length
  rotate_left
  ·
   obtain rfl : k = S.length := by omega
   obtain ⟨hok, hbx, hset, hbl⟩ := HID.out
   have hsB : slotsB S = true := by
    unfold slotsB
    rw [List.all_eq_true]
    exact fun j hj => hok j (List.mem_range.1 hj)
   have j2 := cell_of_heap hbx (j := 2) rfl
   have j1 := cell_of_heap hbx (j := 1) rfl
   have CC := contfunc_calls A2 c2 T w.heap.size A1 S.length c1 wr j1 hl2 (Kd.C_below HR2.out hbl) (by omega)
   have hq := HQ.out
   rw [if_neg (by rw [HRS.out, hn]; simp), if_neg (by rw [hsB]; simp)] at hq
   obtain ⟨f, hf⟩ : ∃ f, fitsB S T = f := ⟨_, rfl⟩
   rw [hf] at hq
   unfold fitsB at hf
   rw [hf] at CC
   have HBL := Go.Lib.hid hbl
   clear hok hbx hset hbl hsB hf HID
   rw [hn] at CC j2
   cases f with
   | true =>
    obtain rfl : q = 0 := by simpa using hq.symm
    rw [Bool.not_true] at CC
    clear hq
    go_wp2_with fail
    refine CC.mono ?_
    clear CC
    rintro e w9 ⟨rfl, hd⟩
    have hB9 := HBL.out.trans (hd.below.mono HBL.out.size)
    have HB9 := Go.Lib.hid hB9
    clear hB9 hd
    go_wp2_with fail
    go_ret
    exact ⟨rfl, HB9.out⟩
   | false =>
    obtain rfl : q = 1 := by simpa using hq.symm
    rw [Bool.not_false] at CC
    clear hq
    go_wp2_with fail
    refine CC.mono ?_
    clear CC
    rintro e w9 ⟨rfl, hd⟩
    have hB9 := HBL.out.trans (hd.below.mono HBL.out.size)
    have HB9 := Go.Lib.hid hB9
    clear hB9 hd
    go_wp2_with fail
    go_ret
    exact ⟨rfl, HB9.out⟩
  obtain ⟨hok, hbx, hset, hbl⟩ := HID.out
  obtain ⟨a9, e9, x0, x1, x2⟩ := at_T50 (Kd.C_below HR1.out hbl) (k : Int) (by omega) (by omega)
  rw [Int.toNat_natCast] at x0 x1 x2
  obtain ⟨s9, hs9⟩ : ∃ s9, rd_T50 S (k : Int) = s9 := ⟨_, rfl⟩
  rw [hs9] at x0 x1 x2
  have hs9' : S.getD k z50 = s9 := by rw [← hs9]; simp [rd_T50]
  have b4 := World.alloc_heap_new wr (.cells #[.int .i64 s9.f0, .int .i64 s9.f1, .int .i64 s9.f2] 50)
  have y0 := cell_of_heap b4 (j := 0) rfl
  have y1 := cell_of_heap b4 (j := 1) rfl
  have y2 := cell_of_heap b4 (j := 2) rfl
  have IC0 := in_calls s9.f0 1 20 (wr.alloc (.cells #[.int .i64 s9.f0, .int .i64 s9.f1, .int .i64 s9.f2] 50))
  have HS9 := Go.Lib.hid hs9'
  have HOK := Go.Lib.hid hok
  have HBX := Go.Lib.hid hbx
  have HSET := Go.Lib.hid hset
  have HBL := Go.Lib.hid hbl
  have hbad : slotAt S k = false → slotsB S = false := fun e => by
   unfold slotsB
   rw [List.all_eq_false]
   exact ⟨k, List.mem_range.2 hlt, by rw [e]; decide⟩
  have hq1 : slotAt S k = false → q = 1 := fun e => by
   have := HQ.out
   rw [if_neg (by rw [HRS.out, hn]; simp), if_pos (hbad e)] at this
   exact this.symm
  have HQ1 := Go.Lib.hid hq1
  clear hs9 hs9' hok hbx hset hbl HID hbad hq1
  subst e9
  go_wp2_with fail
  refine IC0.mono ?_
  clear IC0
  rintro e w5 ⟨rfl, hd5⟩
  have hB5 : Below w.heap.size w w5 ∧ Below wr.heap.size wr w5 ∧ w5.heap[wr.heap.size]? = some (.cells #[.int .i64 s9.f0, .int .i64 s9.f1, .int .i64 s9.f2] 50 (0, 0)) := by
   have h1 := ((Below.refl wr.heap.size wr).alloc (Nat.le_refl _) (.cells #[.int .i64 s9.f0, .int .i64 s9.f1, .int .i64 s9.f2] 50)).trans (hd5.below.mono (by simp))
   exact ⟨HBL.out.trans (h1.mono HBL.out.size), h1, (hd5.below.block _ (by simp)).trans (World.alloc_heap_new _ _)⟩
  have y1 := cell_of_heap hB5.2.2 (j := 1) rfl
  have IC1 := in_calls s9.f1 1 200 w5
  have HB5 := Go.Lib.hid hB5
  clear hB5 hd5 y0
  cases hi0 : inB s9.f0 1 20 with
  | false =>
   have hq : q = 1 := HQ1.out (by unfold slotAt slotIn; rw [HS9.out, hi0]; simp)
   subst hq
   clear hi0
   go_wp2_with fail
   go_ret
   exact ⟨rfl, HB5.out.1⟩
  | true =>
   have HI0 := Go.Lib.hid hi0
   clear hi0
   go_wp2_with fail
   refine IC1.mono ?_
   clear IC1
   rintro e w6 ⟨rfl, hd6⟩
   have hB6 : Below w.heap.size w w6 ∧ Below wr.heap.size wr w6 ∧ w6.heap[wr.heap.size]? = some (.cells #[.int .i64 s9.f0, .int .i64 s9.f1, .int .i64 s9.f2] 50 (0, 0)) :=
    ⟨HB5.out.1.trans (hd6.below.mono HB5.out.1.size), HB5.out.2.1.trans (hd6.below.mono HB5.out.2.1.size), (hd6.below.block _ (Array.getElem?_eq_some_iff.1 HB5.out.2.2).1).trans HB5.out.2.2⟩
   have y2 := cell_of_heap hB6.2.2 (j := 2) rfl
   have IC2 := in_calls s9.f2 1 20 w6
   have HB6 := Go.Lib.hid hB6
   clear hB6 hd6 y1
   cases hi1 : inB s9.f1 1 200 with
   | false =>
    have hq : q = 1 := HQ1.out (by unfold slotAt slotIn; rw [HS9.out, hi1]; simp)
    subst hq
    clear hi1
    go_wp2_with fail
    go_ret
    exact ⟨rfl, HB6.out.1⟩
   | true =>
    have HI1 := Go.Lib.hid hi1
    clear hi1
    go_wp2_with fail
    refine IC2.mono ?_
    clear IC2
    rintro e w7 ⟨rfl, hd7⟩
    have hB7 : Below w.heap.size w w7 ∧ Below wr.heap.size wr w7 ∧ w7.heap[wr.heap.size]? = some (.cells #[.int .i64 s9.f0, .int .i64 s9.f1, .int .i64 s9.f2] 50 (0, 0)) :=
     ⟨HB6.out.1.trans (hd7.below.mono HB6.out.1.size), HB6.out.2.1.trans (hd7.below.mono HB6.out.2.1.size), (hd7.below.block _ (Array.getElem?_eq_some_iff.1 HB6.out.2.2).1).trans HB6.out.2.2⟩
    have y0 := cell_of_heap hB7.2.2 (j := 0) rfl
    have y1 := cell_of_heap hB7.2.2 (j := 1) rfl
    have HB7 := Go.Lib.hid hB7
    clear hB7 hd7 y2
    cases hi2 : inB s9.f2 1 20 with
    | false =>
     have hq : q = 1 := HQ1.out (by unfold slotAt slotIn; rw [HS9.out, hi2]; simp)
     subst hq
     clear hi2
     go_wp2_with fail
     go_ret
     exact ⟨rfl, HB7.out.1⟩
    | true =>
     have HI2 := Go.Lib.hid hi2
     clear hi2
     go_wp2_with fail
     obtain ⟨W8, hW8⟩ : ∃ W8, w7.alloc (.cells #[.int .i64 s9.f0, .int .i64 s9.f1, .int .i64 0] 50) = W8 := ⟨_, rfl⟩
     have hB8 : Below w.heap.size w W8 ∧ Below wr.heap.size wr W8 ∧ W8.heap[wr.heap.size]? = some (.cells #[.int .i64 s9.f0, .int .i64 s9.f1, .int .i64 s9.f2] 50 (0, 0)) ∧ W8.heap[w7.heap.size]? = some (.cells #[.int .i64 s9.f0, .int .i64 s9.f1, .int .i64 0] 50 (0, 0)) := by
      rw [← hW8]
      exact ⟨HB7.out.1.alloc HB7.out.1.size _, HB7.out.2.1.alloc HB7.out.2.1.size _, (Below.heap_alloc _ _ _ (Array.getElem?_eq_some_iff.1 HB7.out.2.2).1).trans HB7.out.2.2, World.alloc_heap_new _ _⟩
     have hbx8 := (hB8.2.1.block w.heap.size (Array.getElem?_eq_some_iff.1 HBX.out).1).trans HBX.out
     obtain ⟨d, hd⟩ : ∃ d, decide (slotKey s9 ∈ (S.take k).map slotKey) = d := ⟨_, rfl⟩
     have hset8 : ∀ n, SetMap (W8.drewN n) m ((S.take k).map slotKey) := by
      intro n
      obtain ⟨es, ck, h1, h2⟩ := HSET.out
      exact ⟨es, ck, (hB8.2.1.block m (Array.getElem?_eq_some_iff.1 h1).1).trans h1, h2⟩
     have hL : ∀ n, (Instr.lookup 97 (.map (some m)) (.agg #[.int .i64 s9.f0, .int .i64 s9.f1, .int .i64 0]) false).run Try.prog (W8.drewN n) = .ok (.bool d) (W8.drewN n) := by
      intro n
      rw [← hd]
      exact run_lookup_set m _ (slotKey s9) _ (hset8 n)
     have y0 := cell_of_heap hB8.2.2.1 (j := 0) rfl
     have y1 := cell_of_heap hB8.2.2.1 (j := 1) rfl
     have z0 := cell_of_heap hB8.2.2.2 (j := 0) rfl
     have z1 := cell_of_heap hB8.2.2.2 (j := 1) rfl
     have z2 := cell_of_heap hB8.2.2.2 (j := 2) rfl
     have j1 := cell_of_heap hbx8 (j := 1) rfl
     have HC8 := Go.Lib.hid (Kd.C_below HR1.out hB8.1)
     have HB8 := Go.Lib.hid hB8
     have HBX8 := Go.Lib.hid hbx8
     have HSET8 := Go.Lib.hid hset8
     have HD := Go.Lib.hid hd
     obtain ⟨b7, hb7⟩ : ∃ b7, w7.heap.size = b7 := ⟨_, rfl⟩
     rw [hW8, hb7]
     rw [hb7] at z0 z1 z2
     clear hb7 hW8 hB8 hbx8 hset8 hd
     cases d with
     | true =>
      have hq : q = 1 := HQ1.out (by unfold slotAt; rw [HS9.out, HD.out]; simp)
      subst hq
      go_quiet (fail)
      go_wp2_with fail
      go_ret
      exact ⟨rfl, (pw_below_drewN HB8.out.1 _)⟩
     | false =>
      have hnk : slotKey s9 ∉ (S.take k).map slotKey := by simpa using HD.out
      obtain ⟨U, hUU⟩ := Classical.axiomOfChoice (fun n => run_update_set m _ (slotKey s9) _ (HSET8.out n) hnk)
      have hU := fun n => (hUU n).1
      have hUs := fun n => (hUU n).2.1
      have hUg := fun n => (hUU n).2.2.1
      have htk : (S.take (k + 1)).map slotKey = (S.take k).map slotKey ++ [slotKey s9] := by
       rw [List.take_succ_eq_append_getElem hlt, List.map_append, ← HS9.out]
       simp [List.getD_eq_getElem?_getD, List.getElem?_eq_getElem hlt]
      have hnext : ∀ n, slotAt S k = true → CbRel S (.slice A0 F.length c0) (.slice (some a9) S.length c1) (.slice A2 T.length c2) m w (k + 1) (U n) := by
       intro n hs
       have hBn := pw_below_drewN HB8.out.1 n
       refine ⟨fun j hj => ?_, ?_, ?_, hBn.grown (hUg n) hBn.size (fun j hj => by cases hj; omega)⟩
       ·
        rcases Nat.lt_succ_iff_lt_or_eq.1 hj with h | h
        ·
         exact HOK.out j h
        ·
         rw [h]; exact hs
       ·
        rw [(hUg n).block w.heap.size (Array.getElem?_eq_some_iff.1 HBX8.out).1 (by simp; omega)]
        exact HBX8.out
       ·
        rw [htk]; exact hUs n
      have hU' : ∀ n, (Instr.mapUpdate 97 (.map (some m)) (.agg #[.int .i64 s9.f0, .int .i64 s9.f1, .int .i64 0]) (.bool true)).run Try.prog (W8.drewN n) = .ok () (U n) := hU
      have NEXT := Go.Lib.hid hnext
      have hsl : slotIn s9 = true := by unfold slotIn; rw [HI0.out, HI1.out, HI2.out]; rfl
      have HSL := Go.Lib.hid hsl
      clear hnk hUU hU hUs hUg htk hnext hsl
      by_cases hk0 : k = 0
      ·
       have g5 : decide ((0 : Int) < (k : Int)) = false := by simp; omega
       go_quiet (fail)
       go_wp2_with fail
       go_roundw
       case rel => exact ⟨k + 1, by omega, by subst hk0; rfl, NEXT.out _ (by unfold slotAt slotBack; rw [HS9.out, HD.out, HSL.out, decide_eq_false (by omega)]; rfl)⟩
       case measure => simp [intOf]; omega
      have g5 : decide ((0 : Int) < (k : Int)) = true := by simp; omega
      have hkp : 0 < k := by omega
      have g6 : IntKind.i64.wrap ((k : Int) - 1) = ((k - 1 : Nat) : Int) := by
       rw [IntKind.wrap_i64]; omega
      have hlt7 : k - 1 < S.length := by omega
      obtain ⟨a7, e7, v0, v1, v2⟩ := at_T50 HC8.out ((k - 1 : Nat) : Int) (by omega) (by omega)
      injection e7 with e7
      subst e7
      rw [Int.toNat_natCast] at v0 v1 v2
      obtain ⟨s7, hs7⟩ : ∃ s7, rd_T50 S ((k - 1 : Nat) : Int) = s7 := ⟨_, rfl⟩
      rw [hs7] at v0 v1 v2
      have hs7' : S.getD (k - 1) z50 = s7 := by rw [← hs7]; simp [rd_T50]
      have HS7 := Go.Lib.hid hs7'
      clear hs7 hs7'
      by_cases hlt0 : s9.f0 < s7.f0
      ·
       have g7 : decide (s9.f0 < s7.f0) = true := by simpa using hlt0
       have hq : q = 1 := HQ1.out (by unfold slotAt slotBack; rw [HS9.out, HS7.out, HD.out, HSL.out, g7, decide_eq_true (show 0 < k from by omega)]; rfl)
       subst hq
       go_quiet (fail)
       go_wp2_with fail
       go_ret
       exact ⟨rfl, (pw_below_drewN HB8.out.1 _)⟩
      have g7 : decide (s9.f0 < s7.f0) = false := by simpa using hlt0
      by_cases heq0 : s9.f0 = s7.f0
      rotate_left
      ·
       have g8 : decide (s9.f0 = s7.f0) = false := by simpa using heq0
       go_quiet (fail)
       go_wp2_with fail
       go_roundw
       case rel => exact ⟨k + 1, by omega, by simp, NEXT.out _ (by unfold slotAt slotBack; rw [HS9.out, HS7.out, HD.out, HSL.out, g7, g8]; simp)⟩
       case measure => simp [intOf]; omega
      have g8 : decide (s9.f0 = s7.f0) = true := by simpa using heq0
      rw [← heq0] at v0
      clear heq0
      by_cases hlt1 : s9.f1 < s7.f1
      rotate_left
      ·
       have g9 : decide (s9.f1 < s7.f1) = false := by simpa using hlt1
       go_quiet (fail)
       go_wp2_with fail
       go_roundw
       case rel => exact ⟨k + 1, by omega, by simp, NEXT.out _ (by unfold slotAt slotBack; rw [HS9.out, HS7.out, HD.out, HSL.out, g7, g8, g9]; simp)⟩
       case measure => simp [intOf]; omega
      have g9 : decide (s9.f1 < s7.f1) = true := by simpa using hlt1
      have hq : q = 1 := HQ1.out (by unfold slotAt slotBack; rw [HS9.out, HS7.out, HD.out, HSL.out, g7, g8, g9, decide_eq_true (show 0 < k from by omega)]; rfl)
      subst hq
      go_quiet (fail)
      go_wp2_with fail
      go_ret
      exact ⟨rfl, (pw_below_drewN HB8.out.1 _)⟩
end Go.Proofs.Ytkmmihadcbfkoaa
end

section
namespace Go.Proofs.Ytkmmihadcbfkoaa
open Go.RowKit Go.Proofs.YtkmmihadcbfkoaaW.PrintWords PM
set_option linter.unusedVariables false
set_option linter.unusedSimpArgs false
/-- A trial that is new since world w0: its block, the row of its finds' slots, the row of its rooms. -/
structure TNew (w0 : World) (t : TL) (T : List (List Int)) (room has : List Int) (w : World) : Prop where
 gb : w.heap[t.g]? = some (.cells #[t.s0, .slice t.A1 t.n1 t.c1, .slice t.A2 T.length t.c2, .slice t.Ar room.length t.cr, .slice (some ⟨t.bh, 0, none⟩) t.nh t.ch] 80 (0, 0))
 row : RowAt w t.bh 3 (Value.int .i64) has
 own : w.ownsRow w0.heap.size 3 1 (.slice t.Ar room.length t.cr) room.length (room.map (Value.int .i64))
 ne : (Value.slice t.Ar room.length t.cr).ownBlock ≠ some t.bh
 B : Below w0.heap.size w0 w
 rows : RowsAt w0 t.A2 t.ra t.rc T
 gl : w0.heap.size ≤ t.g
 hl : w0.heap.size ≤ t.bh
 fit : TFit t T room
 len : has.length = t.nh
theorem TNew.stands {w0 w : World} {t : TL} {T : List (List Int)} {room has : List Int} (h : TNew w0 t T room has w) : TStands t T room w := by
 obtain ⟨Ar, cr, e, hs⟩ := mk_stands h.B h.gb h.hl h.row h.own h.ne h.rows
 injection e with e1 e2 e3
 subst e1; subst e3
 exact hs
theorem tried_calls3 (A0 : Option Addr) (c0 : Nat) (F : List Int) (A1 : Option Addr) (c1 : Nat) (S : List S50) (A2 : Option Addr) (c2 : Nat) (T : List (List Int)) (w : World)
  (hk : BOK F S T) (hr1 : Kd.C k50 w A1 S.length S) (hr2 : Kd.C (Kd.slice 3 (Kd.int .i64)) w A2 T.length T) :
  Calls Try.prog 60 #[.agg #[.slice A0 F.length c0, .slice A1 S.length c1, .slice A2 T.length c2]] w fun e w' => ∃ t : TL, e = .returned (.pointer (some ⟨t.g, 0, none⟩)) ∧ TNew w t T (rooms S) (List.replicate F.length (-1)) w' ∧ t.n1 = S.length ∧ t.nh = F.length := by
 have h1 := hk.nf
 have h2 := hk.ns
 obtain ⟨ra, rc, hra⟩ := RowsAt.of_C hr2
 refine (tried_calls A0 F.length c0 A1 c1 S A2 T.length c2 w (by omega) (by omega) hr1).mono ?_
 rintro e w' ⟨g, bh, vr, rfl, hT, hrow, hB⟩
 have hlr : (rooms S).length = S.length := by simp [rooms]
 obtain ⟨Ar, cr, rfl, hst⟩ := mk_stands hB hT.gb hT.hl hrow hT.room hT.ne hra
 exact ⟨{ g := g, bh := bh, s0 := .slice A0 F.length c0, A1 := A1, n1 := S.length, c1 := c1, A2 := A2, c2 := c2, ra := ra, rc := rc, Ar := Ar, cr := cr, nh := F.length, ch := F.length }, rfl,
  ⟨hT.gb, hrow, hT.room, hT.ne, hB, hra, hT.gl, hT.hl, ⟨hk.slot, hlr, fun i hi => Nat.le_trans (hk.row i hi) (by omega), hk.nt, by show S.length ≤ _; omega, by show F.length ≤ _; omega⟩, by simp⟩, rfl, rfl⟩
theorem setCell_below {B : Nat} {a w : World} (h : Below B a w) {p : Addr} (hp : B ≤ p.block) (u : Value) : Below B a (w.setCell p u) :=
 h.trans ⟨rfl, rfl, rfl, by simp [World.setCell], fun k hk => Below.heap_setCell w p u k (by omega)⟩
/-- A slot's room is written. -/
theorem TNew.set {w0 w : World} {t : TL} {T : List (List Int)} {room has : List Int} (h : TNew w0 t T room has w) (i : Int) (h0 : 0 ≤ i) (h1 : i < room.length) (x : Int) :
  ∃ Ab, t.Ar = some ⟨Ab, 0, none⟩ ∧ w.cell? ⟨Ab, i.toNat, none⟩ = some (.int .i64 (room.getD i.toNat 0)) ∧ w.frozen? ⟨Ab, i.toNat, none⟩ = false ∧ TNew w0 t T (room.set i.toNat x) has (w.setCell ⟨Ab, i.toNat, none⟩ (.int .i64 x)) := by
 have hown := h.own
 rcases hown.2 with ⟨e, hz⟩ | ⟨Ab, cap, cur, e, hb, hh, hle, hmx, hsz, htk⟩
 ·
  omega
 injection e with e1 e2 e3
 have hneb : Ab ≠ t.bh := fun e => h.ne (by rw [e1, e]; rfl)
 have hneg : Ab ≠ t.g := by
  rintro rfl
  rw [h.gb] at hh
  injection hh with hh
  injection hh with _ hh
  exact absurd hh (by decide)
 have hlt : i.toNat < room.length := by omega
 have hc : cur[i.toNat]? = some (.int .i64 (room.getD i.toNat 0)) := by
  have h2 : (cur.toList.take (room.length * 1))[i.toNat]? = (room.map (Value.int .i64))[i.toNat]? := by rw [htk]
  rw [List.getElem?_take_of_lt (by omega), List.getElem?_map, List.getElem?_eq_getElem hlt] at h2
  rw [← Array.getElem?_toList, h2]
  simp [List.getD_eq_getElem?_getD, List.getElem?_eq_getElem hlt]
 refine ⟨Ab, e1, ?_, ?_, ?_⟩
 ·
  simp [World.cell?, hh, hc]
 ·
  simp [World.frozen?, hh]
 have hown2 := Go.Proofs.YtkmmihadcbfkoaaW.PrintWords.own_put (k := .i64) (by rw [e1] at hown; exact hown) i x
 have hlen : (room.set i.toNat x).length = room.length := by simp
 have hfit := h.fit
 refine ⟨?_, h.row.same (Below.heap_setCell _ _ _ _ (Ne.symm hneb)), ?_, ?_, setCell_below h.B hb _, h.rows, h.gl, h.hl, ⟨hfit.slot, by rw [hlen]; exact hfit.room, hfit.row, hfit.finds, hfit.ns, hfit.nh⟩, h.len⟩
 ·
  rw [hlen, Below.heap_setCell _ _ _ _ (Ne.symm hneg)]
  exact h.gb
 ·
  rw [hlen, e1]
  rw [hlen] at hown2
  exact hown2
 rw [hlen]
 exact h.ne
end Go.Proofs.Ytkmmihadcbfkoaa
end

section
namespace Go.Proofs.Ytkmmihadcbfkoaa
open Go.RowKit Go.Proofs.YtkmmihadcbfkoaaW.PrintWords PM
set_option linter.unusedVariables false
set_option linter.unusedSimpArgs false
theorem index_loop (l : List Int) (x : Int) (hl : l.length ≤ 9223372036854775807) (d : Nat) : ∀ (k i : Nat), l.length - i = d → i ≤ l.length → d < k →
  ∃ r, slices_Index_int_int.l0 k l x (l.length : Int) (i : Int) = some r ∧ decide (r ≥ 0) = decide (x ∈ l.drop i) := by
 induction d with
 | zero =>
  intro k i hd hi hk
  obtain ⟨k, rfl⟩ : ∃ m, k = m + 1 := ⟨k - 1, by omega⟩
  simp only [slices_Index_int_int.l0]
  rw [if_neg (by omega), List.drop_of_length_le (by omega)]
  exact ⟨-1, rfl, by simp⟩
 | succ d ih =>
  intro k i hd hi hk
  obtain ⟨k, rfl⟩ : ∃ m, k = m + 1 := ⟨k - 1, by omega⟩
  have hlt : i < l.length := by omega
  simp only [slices_Index_int_int.l0]
  rw [if_pos (by omega), if_pos (by omega), if_pos (by omega), List.drop_eq_getElem_cons hlt]
  have e1 : rd l (i : Int) = l[i] := by simp [rd, List.getD_eq_getElem?_getD, List.getElem?_eq_getElem hlt]
  rw [e1, (wrap_pm (i := (i : Int)) (by omega) (by omega)).1]
  by_cases h : x = l[i]
  ·
   rw [if_pos h]
   exact ⟨(i : Int), rfl, by rw [decide_eq_true (List.mem_cons.2 (Or.inl h)), decide_eq_true (by omega)]⟩
  rw [if_neg h]
  obtain ⟨r, h1, h2⟩ := ih k (i + 1) (by omega) (by omega) (by omega)
  exact ⟨r, by rw [← h1, show (((i + 1 : Nat)) : Int) = (i : Int) + 1 from by omega], by rw [h2]; exact decide_eq_decide.2 ⟨fun hm => List.mem_cons.2 (Or.inr hm), fun hm => (List.mem_cons.1 hm).resolve_left h⟩⟩
theorem contains_f (l : List Int) (x : Int) (hl : l.length ≤ 9223372036854775807) : slices_Contains_int_int.f (l.length + 1) l x = some (decide (x ∈ l)) := by
 obtain ⟨r, h1, h2⟩ := index_loop l x hl l.length (l.length + 1) 0 (by omega) (by omega) (by omega)
 unfold slices_Contains_int_int.f slices_Index_int_int.f
 rw [show ((0 : Nat) : Int) = 0 from rfl] at h1
 rw [h1, Option.bind_some, h2]
 rfl
theorem contains_calls (A : Option Addr) (c : Nat) (l : List Int) (x : Int) (w : World) (hr : Kd.C (Kd.int .i64) w A l.length l) (hc : l.length ≤ c) :
  Calls Try.prog 59 #[.slice A l.length c, .int .i64 x] w fun e w' => e = .returned (.bool (decide (x ∈ l))) ∧ Drawn0 w w' :=
 slices_Contains_int_int.calls (l.length + 1) A c l x _ w hr hc (contains_f l x hr.2.1)
end Go.Proofs.Ytkmmihadcbfkoaa
end

section
namespace Go.Proofs.Ytkmmihadcbfkoaa
open Go.RowKit Go.Proofs.YtkmmihadcbfkoaaW.PrintWords PM
set_option linter.unusedVariables false
set_option linter.unusedSimpArgs false
/-- The first error of a board, a find and a slot; true: there is no such argument. -/
def askB (F : List Int) (S : List S50) (T : List (List Int)) (find slot : Int) (g0 g1 : Bool) : Int :=
 if checkB F S T ≠ 0 then checkB F S T
 else if (!g0 && !inB find 0 ((F.length : Int) - 1) || !g1 && !inB slot 0 ((S.length : Int) - 1)) = true then 1 else 0
set_option maxRecDepth 100000 in
set_option maxHeartbeats 8000000 in
theorem asked_calls (A0 : Option Addr) (c0 : Nat) (F : List Int) (A1 : Option Addr) (c1 : Nat) (S : List S50) (A2 : Option Addr) (c2 : Nat) (T : List (List Int)) (find slot : Int) (g : Nat) (g0 g1 : Bool) (w : World)
  (hr0 : Kd.C (Kd.int .i64) w A0 F.length F) (hc0 : F.length ≤ c0) (hr1 : Kd.C k50 w A1 S.length S) (hr2 : Kd.C (Kd.slice 3 (Kd.int .i64)) w A2 T.length T)
  (hg0 : w.cell? ⟨g, 0, none⟩ = some (.bool g0)) (hg1 : w.cell? ⟨g, 1, none⟩ = some (.bool g1)) :
  Calls Try.prog 58 #[.agg #[.slice A0 F.length c0, .slice A1 S.length c1, .slice A2 T.length c2], .int .i64 find, .int .i64 slot, .slice (some ⟨g, 0, none⟩) 2 2] w (CbPost (askB F S T find slot g0 g1) w) := by
 have hB0 := (Below.refl w.heap.size w).alloc (Nat.le_refl _) (.cells #[.slice A0 F.length c0, .slice A1 S.length c1, .slice A2 T.length c2] 26)
 have lF : F.length ≤ 9223372036854775807 := hr0.2.1
 have lS : S.length ≤ 9223372036854775807 := hr1.2.1
 have CB := checkboard_calls A0 c0 F A1 c1 S A2 c2 T _ (Kd.C_below hr0 hB0) hc0 (Kd.C_below hr1 hB0) (Kd.C_below hr2 hB0)
 obtain ⟨q, hq⟩ : ∃ q, checkB F S T = q := ⟨_, rfl⟩
 obtain ⟨r, hr⟩ : ∃ r, askB F S T find slot g0 g1 = r := ⟨_, rfl⟩
 rw [hq] at CB
 rw [hr]
 unfold askB at hr
 rw [hq] at hr
 have hgl := World.block_lt_of_cell? w _ hg0
 have HB0 := Go.Lib.hid hB0
 have HR := Go.Lib.hid hr
 have HG := Go.Lib.hid (And.intro hg0 hg1)
 clear hq hr0 hr1 hr2 hB0 hr hg0 hg1
 go_enter Try.func58, Try.ntmps58
 go_wp2_with fail
 refine CB.mono ?_
 clear CB
 rintro e w1 ⟨rfl, hB1⟩
 have b1 : w1.heap[w.heap.size]? = some (.cells #[.slice A0 F.length c0, .slice A1 S.length c1, .slice A2 T.length c2] 26 (0, 0)) := by
  rw [hB1.block w.heap.size (by simp)]
  exact World.alloc_heap_new w _
 have hW1 : Below w.heap.size w w1 := HB0.out.trans (hB1.mono HB0.out.size)
 have y0 := (hW1.cell (p := ⟨g, 0, none⟩) hgl).trans HG.out.1
 have y1 := (hW1.cell (p := ⟨g, 1, none⟩) hgl).trans HG.out.2
 have k0 := cell_of_heap b1 (j := 0) rfl
 have k1 := cell_of_heap b1 (j := 1) rfl
 have HW1 := Go.Lib.hid hW1
 have BX := Go.Lib.hid b1
 clear hB1 b1 hW1
 by_cases hq0 : q = 0
 rotate_left
 ·
  have g9 : decide (q = 0) = false := by simpa using hq0
  have hr0 : r = q := by have := HR.out; rw [if_pos hq0] at this; exact this.symm
  subst hr0
  go_wp2_with fail
  go_ret
  exact ⟨rfl, HW1.out⟩
 subst hq0
 have hr' := HR.out
 rw [if_neg (by simp)] at hr'
 have HR := Go.Lib.hid hr'
 have IC0 := in_calls find 0 ((F.length : Int) - 1) w1
 clear hr'
 cases g0 with
 | true =>
  cases g1 with
  | true =>
   have hr0 : r = 0 := by have := HR.out; simpa [] using this.symm
   subst hr0
   go_wp2_with fail
   go_ret
   exact ⟨rfl, HW1.out⟩
  | false =>
   have IC1 := in_calls slot 0 ((S.length : Int) - 1) w1
   go_wp2_with fail
   refine IC1.mono ?_
   clear IC1
   rintro e w3 ⟨rfl, hd3⟩
   have hW3 : Below w.heap.size w w3 := HW1.out.trans (hd3.below.mono HW1.out.size)
   have HW3 := Go.Lib.hid hW3
   clear hW3 hd3
   cases hi1 : inB slot 0 ((S.length : Int) - 1) with
   | false =>
    have HI1 := Go.Lib.hid hi1
    clear hi1
    have hr0 : r = 1 := by have := HR.out; simpa [HI1.out] using this.symm
    subst hr0
    go_wp2_with fail
    go_ret
    exact ⟨rfl, HW3.out⟩
   | true =>
    have HI1 := Go.Lib.hid hi1
    clear hi1
    have hr0 : r = 0 := by have := HR.out; simpa [HI1.out] using this.symm
    subst hr0
    go_wp2_with fail
    go_ret
    exact ⟨rfl, HW3.out⟩
 | false =>
  go_wp2_with fail
  refine IC0.mono ?_
  clear IC0
  rintro e w2 ⟨rfl, hd2⟩
  have hW2 : Below w.heap.size w w2 := HW1.out.trans (hd2.below.mono HW1.out.size)
  have y1 := (hW2.cell (p := ⟨g, 1, none⟩) hgl).trans HG.out.2
  have k1 := cell_of_heap ((hd2.below.block w.heap.size (Array.getElem?_eq_some_iff.1 BX.out).1).trans BX.out) (j := 1) rfl
  have HW2 := Go.Lib.hid hW2
  clear hW2 hd2
  cases hi0 : inB find 0 ((F.length : Int) - 1) with
  | false =>
   have HI0 := Go.Lib.hid hi0
   clear hi0
   have hr0 : r = 1 := by have := HR.out; simpa [HI0.out] using this.symm
   subst hr0
   go_wp2_with fail
   go_ret
   exact ⟨rfl, HW2.out⟩
  | true =>
   have HI0 := Go.Lib.hid hi0
   clear hi0
   cases g1 with
   | true =>
    have hr0 : r = 0 := by have := HR.out; simpa [HI0.out] using this.symm
    subst hr0
    go_wp2_with fail
    go_ret
    exact ⟨rfl, HW2.out⟩
   | false =>
    have IC1 := in_calls slot 0 ((S.length : Int) - 1) w2
    go_wp2_with fail
    refine IC1.mono ?_
    clear IC1
    rintro e w3 ⟨rfl, hd3⟩
    have hW3 : Below w.heap.size w w3 := HW2.out.trans (hd3.below.mono HW2.out.size)
    have HW3 := Go.Lib.hid hW3
    clear hW3 hd3
    cases hi1 : inB slot 0 ((S.length : Int) - 1) with
    | false =>
     have HI1 := Go.Lib.hid hi1
     clear hi1
     have hr0 : r = 1 := by have := HR.out; simpa [HI0.out, HI1.out] using this.symm
     subst hr0
     go_wp2_with fail
     go_ret
     exact ⟨rfl, HW3.out⟩
    | true =>
     have HI1 := Go.Lib.hid hi1
     clear hi1
     have hr0 : r = 0 := by have := HR.out; simpa [HI0.out, HI1.out] using this.symm
     subst hr0
     go_wp2_with fail
     go_ret
     exact ⟨rfl, HW3.out⟩
/-- asked, the two bools new. -/
theorem asked_new (A0 : Option Addr) (c0 : Nat) (F : List Int) (A1 : Option Addr) (c1 : Nat) (S : List S50) (A2 : Option Addr) (c2 : Nat) (T : List (List Int)) (find slot : Int) (g0 g1 : Bool) (w : World)
  (hr0 : Kd.C (Kd.int .i64) w A0 F.length F) (hc0 : F.length ≤ c0) (hr1 : Kd.C k50 w A1 S.length S) (hr2 : Kd.C (Kd.slice 3 (Kd.int .i64)) w A2 T.length T) :
  Calls Try.prog 58 #[.agg #[.slice A0 F.length c0, .slice A1 S.length c1, .slice A2 T.length c2], .int .i64 find, .int .i64 slot, .slice (some ⟨w.heap.size, 0, none⟩) 2 2] (w.alloc (.cells #[.bool g0, .bool g1] 4)) (CbPost (askB F S T find slot g0 g1) w) := by
 have hB := (Below.refl w.heap.size w).alloc (Nat.le_refl _) (.cells #[.bool g0, .bool g1] 4)
 have b0 := World.alloc_heap_new w (.cells #[.bool g0, .bool g1] 4)
 refine (asked_calls A0 c0 F A1 c1 S A2 c2 T find slot w.heap.size g0 g1 _ (Kd.C_below hr0 hB) hc0 (Kd.C_below hr1 hB) (Kd.C_below hr2 hB) (cell_of_heap b0 rfl) (cell_of_heap b0 rfl)).mono ?_
 rintro e w' ⟨rfl, h⟩
 exact ⟨rfl, hB.trans (h.mono hB.size)⟩
/-- asked, the board boxed ahead and the two bools new: as each caller that has a box calls it. -/
theorem asked_boxed (A0 : Option Addr) (c0 : Nat) (F : List Int) (A1 : Option Addr) (c1 : Nat) (S : List S50) (A2 : Option Addr) (c2 : Nat) (T : List (List Int)) (find slot : Int) (g0 g1 : Bool) (w : World)
  (hr0 : Kd.C (Kd.int .i64) w A0 F.length F) (hc0 : F.length ≤ c0) (hr1 : Kd.C k50 w A1 S.length S) (hr2 : Kd.C (Kd.slice 3 (Kd.int .i64)) w A2 T.length T) (o : Obj) :
  Calls Try.prog 58 #[.agg #[.slice A0 F.length c0, .slice A1 S.length c1, .slice A2 T.length c2], .int .i64 find, .int .i64 slot, .slice (some ⟨w.heap.size + 1, 0, none⟩) 2 2] ((w.alloc o).alloc (.cells #[.bool g0, .bool g1] 4)) (fun e w' => CbPost (askB F S T find slot g0 g1) w e w' ∧ w'.heap[w.heap.size]? = some o) := by
 have hB := (Below.refl w.heap.size w).alloc (Nat.le_refl _) o
 have AN := asked_new A0 c0 F A1 c1 S A2 c2 T find slot g0 g1 (w.alloc o) (Kd.C_below hr0 hB) hc0 (Kd.C_below hr1 hB) (Kd.C_below hr2 hB)
 rw [show (w.alloc o).heap.size = w.heap.size + 1 from by simp] at AN
 refine AN.mono ?_
 rintro e w' ⟨rfl, h⟩
 exact ⟨⟨rfl, hB.trans (h.mono hB.size)⟩, (h.block _ (by simp)).trans (World.alloc_heap_new w o)⟩
set_option maxRecDepth 100000 in
set_option maxHeartbeats 8000000 in
theorem both_calls (A0 : Option Addr) (c0 : Nat) (F : List Int) (A1 : Option Addr) (c1 : Nat) (S : List S50) (A2 : Option Addr) (c2 : Nat) (T : List (List Int)) (find slot : Int) (w : World)
  (hr0 : Kd.C (Kd.int .i64) w A0 F.length F) (hc0 : F.length ≤ c0) (hr1 : Kd.C k50 w A1 S.length S) (hr2 : Kd.C (Kd.slice 3 (Kd.int .i64)) w A2 T.length T) :
  Calls Try.prog 66 #[.agg #[.slice A0 F.length c0, .slice A1 S.length c1, .slice A2 T.length c2], .int .i64 find, .int .i64 slot] w (CbPost (askB F S T find slot false false) w) := by
 have AC := asked_boxed A0 c0 F A1 c1 S A2 c2 T find slot false false w hr0 hc0 hr1 hr2 (.cells #[.slice A0 F.length c0, .slice A1 S.length c1, .slice A2 T.length c2] 26)
 obtain ⟨r, hr⟩ : ∃ r, askB F S T find slot false false = r := ⟨_, rfl⟩
 rw [hr] at AC ⊢
 clear hr hr0 hr1 hr2
 go_enter Try.func66, Try.ntmps66
 go_wp2_with fail
 refine AC.mono ?_
 clear AC
 rintro e w1 ⟨⟨rfl, hB1⟩, _⟩
 have HB1 := Go.Lib.hid hB1
 clear hB1
 go_wp2_with fail
 go_ret
 exact ⟨rfl, HB1.out⟩
end Go.Proofs.Ytkmmihadcbfkoaa
end

section
namespace Go.Proofs.Ytkmmihadcbfkoaa
open PM
theorem ask_parts {F : List Int} {S : List S50} {T : List (List Int)} {find slot : Int} {g0 g1 : Bool} (h : askB F S T find slot g0 g1 = 0) :
  checkB F S T = 0 ∧ (g0 = false → 0 ≤ find ∧ find < F.length) ∧ (g1 = false → 0 ≤ slot ∧ slot < S.length) := by
 unfold askB at h
 split at h
 ·
  rename_i h1; exact absurd h h1
 rename_i h1
 split at h
 ·
  exact absurd h (by decide)
 rename_i h2
 refine ⟨by simpa using h1, fun e => ?_, fun e => ?_⟩
 ·
  have hi : inB find 0 ((F.length : Int) - 1) = true := by
   cases hh : inB find 0 ((F.length : Int) - 1) with
   | false => exact absurd (by rw [hh, e]; rfl) h2
   | true => rfl
  unfold inB at hi
  simp only [Bool.and_eq_true, decide_eq_true_eq] at hi
  omega
 have hi : inB slot 0 ((S.length : Int) - 1) = true := by
  cases hh : inB slot 0 ((S.length : Int) - 1) with
  | false => exact absurd (by rw [hh, e]; cases (!g0 && !inB find 0 ((F.length : Int) - 1)) <;> rfl) h2
  | true => rfl
 unfold inB at hi
 simp only [Bool.and_eq_true, decide_eq_true_eq] at hi
 omega
end Go.Proofs.Ytkmmihadcbfkoaa
end

section
namespace Go.Proofs.Ytkmmihadcbfkoaa
open Go.RowKit Go.Proofs.YtkmmihadcbfkoaaW.PrintWords PM
set_option linter.unusedVariables false
set_option linter.unusedSimpArgs false
theorem Ev.pos {α : Type} {c : Prop} [Decidable c] {f g : Nat → Option α} {r : α} (h : c) (hf : Ev f r) : Ev (fun k => if c then f k else g k) r := hf.congr fun _ => if_pos h
theorem Ev.neg {α : Type} {c : Prop} [Decidable c] {f g : Nat → Option α} {r : α} (h : ¬ c) (hg : Ev g r) : Ev (fun k => if c then f k else g k) r := hg.congr fun _ => if_neg h
theorem Ev.into {α : Type} {f g : Nat → Option α} {r : α} (hs : ∀ k, f (k + 1) = g k) (h : Ev g r) : Ev f r := h.step hs
end Go.Proofs.Ytkmmihadcbfkoaa
end

section
namespace Go.Proofs.Ytkmmihadcbfkoaa
open Go.RowKit Go.Proofs.YtkmmihadcbfkoaaW.PrintWords PM
set_option linter.unusedVariables false
set_option linter.unusedSimpArgs false
theorem same_ev (a b : List Int) (hl : a.length ≤ 9223372036854775807) (he : a.length = b.length) (d : Nat) : ∀ i : Nat, a.length - i = d → i ≤ a.length → Ev (fun k => laganref04_SameInts.l0 k a b (i : Int)) (decide (a.drop i = b.drop i)) := by
 induction d with
 | zero =>
  intro i hd hi
  rw [List.drop_of_length_le (by omega), List.drop_of_length_le (by omega), decide_eq_true (rfl : ([] : List Int) = [])]
  exact Ev.into (fun k => by rw [laganref04_SameInts.l0]) (Ev.neg (by omega) (Ev.const _))
 | succ d ih =>
  intro i hd hi
  have hlt : i < a.length := by omega
  have hlb : i < b.length := by omega
  have hw := wrap_pm (i := (i : Int)) (by omega) (by omega)
  refine Ev.into (fun k => by rw [laganref04_SameInts.l0]) (Ev.pos (by omega) (Ev.pos (by omega) (Ev.pos (by omega) ?_)))
  rw [hw.1, show (i : Int) + 1 = ((i + 1 : Nat) : Int) by omega, List.drop_eq_getElem_cons hlt, List.drop_eq_getElem_cons hlb]
  have e1 : rd a (i : Int) = a[i] := by simp [rd, List.getD_eq_getElem?_getD, List.getElem?_eq_getElem hlt]
  have e2 : rd b (i : Int) = b[i] := by simp [rd, List.getD_eq_getElem?_getD, List.getElem?_eq_getElem hlb]
  rw [e1, e2]
  by_cases e : a[i] = b[i]
  rotate_left
  ·
   refine Ev.neg e ?_
   rw [decide_eq_false (fun h : a[i] :: a.drop (i + 1) = b[i] :: b.drop (i + 1) => e (List.cons.inj h).1)]
   exact Ev.const false
  refine Ev.pos e ?_
  have := ih (i + 1) (by omega) (by omega)
  rw [decide_eq_decide.2 (⟨fun h => (List.cons.inj h).2, fun h => by rw [e, h]⟩ : a[i] :: a.drop (i + 1) = b[i] :: b.drop (i + 1) ↔ a.drop (i + 1) = b.drop (i + 1))]
  exact this
theorem same_is (a b : List Int) (hl : a.length ≤ 9223372036854775807) : Ev (fun k => laganref04_SameInts.f k a b) (decide (a = b)) := by
 by_cases he : a.length = b.length
 rotate_left
 ·
  rw [decide_eq_false (fun e => he (by rw [e]))]
  exact Ev.neg (by omega) (Ev.const _)
 have := same_ev a b hl he a.length 0 (by omega) (by omega)
 exact Ev.pos (by omega) (by simpa using this)
theorem wide_ev {F : List Int} {S : List S50} {T : List (List Int)} (hT : T.length ≤ 9223372036854775807) (d : Nat) : ∀ i : Nat, T.length - i = d → i ≤ T.length → ∃ b, Ev (fun k => laganlaw04_wide.l0 k (i : Int) F S T) b := by
 induction d with
 | zero =>
  intro i hd hi
  have h : ∃ b : Bool, Ev (fun _ => if (F.length : Int) ≤ 30 then (if (S.length : Int) ≤ 40 then (some true) else (if (F.length : Int) > 60 then (some true) else (some (decide ((S.length : Int) > 200))))) else (if (F.length : Int) > 60 then (some true) else (some (decide ((S.length : Int) > 200))))) b := by
   by_cases h1 : (F.length : Int) ≤ 30
   ·
    by_cases h2 : (S.length : Int) ≤ 40
    ·
     exact ⟨_, Ev.pos h1 (Ev.pos h2 (Ev.const _))⟩
    ·
     by_cases h3 : (F.length : Int) > 60
     ·
      exact ⟨_, Ev.pos h1 (Ev.neg h2 (Ev.pos h3 (Ev.const _)))⟩
     ·
      exact ⟨_, Ev.pos h1 (Ev.neg h2 (Ev.neg h3 (Ev.const _)))⟩
   ·
    by_cases h3 : (F.length : Int) > 60
    ·
     exact ⟨_, Ev.neg h1 (Ev.pos h3 (Ev.const _))⟩
    ·
     exact ⟨_, Ev.neg h1 (Ev.neg h3 (Ev.const _))⟩
  obtain ⟨b, hb⟩ := h
  exact ⟨b, Ev.into (fun k => by rw [laganlaw04_wide.l0]) (Ev.neg (by omega) hb)⟩
 | succ d ih =>
  intro i hd hi
  have hw := wrap_pm (i := (i : Int)) (by omega) (by omega)
  obtain ⟨b, hb⟩ := ih (i + 1) (by omega) (by omega)
  rw [show ((i + 1 : Nat) : Int) = (i : Int) + 1 by omega, ← hw.1] at hb
  by_cases h : ((rd_L1 T (i : Int)).length : Int) > 60
  rotate_left
  ·
   exact ⟨b, Ev.into (fun k => by rw [laganlaw04_wide.l0]) (Ev.pos (by omega) (Ev.pos (by omega) (Ev.neg h hb)))⟩
  exact ⟨_, Ev.into (fun k => by rw [laganlaw04_wide.l0]) (Ev.pos (by omega) (Ev.pos (by omega) (Ev.pos h (Ev.const _))))⟩
end Go.Proofs.Ytkmmihadcbfkoaa
end

section
namespace Go.Proofs.Ytkmmihadcbfkoaa
open Go.RowKit Go.Proofs.YtkmmihadcbfkoaaW.PrintWords PM
set_option linter.unusedVariables false
set_option linter.unusedSimpArgs false
def bdF : List Int := [10, 20, 30]
def bdS (p : Int) : List S50 := [⟨1, 1, p⟩, ⟨1, 2, 1⟩, ⟨1, 3, 1⟩]
def bdT : List (List Int) := [[0], [0, 1], [0, 1, 2]]
theorem rowC {W : World} {b t : Nat} {cs : Array Value} {fr : Nat × Nat} {l : List Int} (h : W.heap[b]? = some (.cells cs t fr)) (hl : l.length ≤ 9223372036854775807) (hc : ∀ (j : Nat) (v : Int), l[j]? = some v → cs[j]? = some (Value.int .i64 v)) : Kd.C (Kd.int .i64) W (some ⟨b, 0, none⟩) l.length l :=
 Kd.C_of_reads (enc := Value.int .i64) (d := (0 : Int)) (h1 := fun _ => rfl) ⟨rfl, hl, fun _ => ⟨⟨b, 0, none⟩, rfl, fun j hj => by
  rw [add_plain]
  have := hc j l[j] (List.getElem?_eq_getElem hj)
  simp [World.cell?, h, this, List.getD_eq_getElem?_getD, List.getElem?_eq_getElem hj]⟩⟩
theorem rowsC {W : World} {b t : Nat} {cs : Array Value} {fr : Nat × Nat} {T : List (List Int)} (h : W.heap[b]? = some (.cells cs t fr)) (hl : T.length ≤ 9223372036854775807)
  (hc : ∀ (j : Nat) (l : List Int), T[j]? = some l → ∃ A c, cs[j]? = some (Value.slice A l.length c) ∧ l.length ≤ c ∧ Kd.C (Kd.int .i64) W A l.length l) : Kd.C (Kd.slice 3 (Kd.int .i64)) W (some ⟨b, 0, none⟩) T.length T :=
 ⟨rfl, hl, fun _ => ⟨⟨b, 0, none⟩, rfl, fun j l hj => by
  obtain ⟨A, c, h1, h2, h3⟩ := hc j l hj
  refine ⟨[.slice A l.length c], rfl, ⟨A, c, rfl, h2, h3⟩, fun i u hu => ?_⟩
  have hi : i = 0 := by
   have := (List.getElem?_eq_some_iff.1 hu).1
   simpa using this
  subst hi
  have hu : Value.slice A l.length c = u := by simpa using hu
  subst hu
  show W.cell? ((⟨b, 0, none⟩ : Addr).add (j * 1 + 0)) = _
  rw [add_plain]
  simp [World.cell?, h, h1]⟩⟩
theorem slotsC {W : World} {b t : Nat} {cs : Array Value} {fr : Nat × Nat} {S : List S50} (h : W.heap[b]? = some (.cells cs t fr)) (hl : S.length ≤ 9223372036854775807)
  (hc : ∀ (j : Nat) (s : S50), S[j]? = some s → cs[j * 3]? = some (Value.int .i64 s.f0) ∧ cs[j * 3 + 1]? = some (Value.int .i64 s.f1) ∧ cs[j * 3 + 2]? = some (Value.int .i64 s.f2)) : Kd.C k50 W (some ⟨b, 0, none⟩) S.length S :=
 ⟨rfl, hl, fun _ => ⟨⟨b, 0, none⟩, rfl, fun j s hj => by
  obtain ⟨h0, h1, h2⟩ := hc j s hj
  refine ⟨[.int .i64 s.f0, .int .i64 s.f1, .int .i64 s.f2], rfl, k50_mk W s, fun i u hu => ?_⟩
  show W.cell? ((⟨b, 0, none⟩ : Addr).add (j * 3 + i)) = _
  rw [add_plain]
  have hi := (List.getElem?_eq_some_iff.1 hu).1
  match i, hi, hu with
  | 0, _, hu =>
   have hu : Value.int .i64 s.f0 = u := by simpa using hu
   subst hu
   simp [World.cell?, h, h0]
  | 1, _, hu =>
   have hu : Value.int .i64 s.f1 = u := by simpa using hu
   subst hu
   simp [World.cell?, h, h1]
  | 2, _, hu =>
   have hu : Value.int .i64 s.f2 = u := by simpa using hu
   subst hu
   simp [World.cell?, h, h2]⟩⟩
def BoardPost (F : List Int) (S : List S50) (T : List (List Int)) (w : World) (e : Ending) (w' : World) : Prop :=
 ∃ A0 c0 A1 c1 A2 c2, e = .returned (.agg #[.slice A0 F.length c0, .slice A1 S.length c1, .slice A2 T.length c2]) ∧ F.length ≤ c0 ∧ S.length ≤ c1 ∧ T.length ≤ c2 ∧ Kd.C (Kd.int .i64) w' A0 F.length F ∧ Kd.C k50 w' A1 S.length S ∧ Kd.C (Kd.slice 3 (Kd.int .i64)) w' A2 T.length T ∧ Below w.heap.size w w'
set_option maxRecDepth 100000 in
set_option maxHeartbeats 8000000 in
theorem board_calls (p : Int) (w : World) : Calls Try.prog 51 #[.int .i64 p] w (BoardPost bdF (bdS p) bdT w) := by
  go_enter Try.func51, Try.ntmps51
  go_wp2_with fail
  have hB : Below w.heap.size w (((((((w.alloc (.cells #[.slice (some ⟨w.heap.size + 1, 0, none⟩) 3 3, .slice (some ⟨w.heap.size + 1 + 1, 0, none⟩) 3 3, .slice (some ⟨w.heap.size + 1 + 1 + 1 + 1 + 1 + 1, 0, none⟩) 3 3] 26)).alloc (.cells #[.int .i64 10, .int .i64 20, .int .i64 30] 3)).alloc
      (.cells #[.int .i64 1, .int .i64 1, .int .i64 p, .int .i64 1, .int .i64 2, .int .i64 1, .int .i64 1, .int .i64 3, .int .i64 1] 50)).alloc (.cells #[.int .i64 0] 3)).alloc (.cells #[.int .i64 0, .int .i64 1] 3)).alloc (.cells #[.int .i64 0, .int .i64 1, .int .i64 2] 3)).alloc
      (.cells #[.slice (some ⟨w.heap.size + 1 + 1 + 1, 0, none⟩) 1 1, .slice (some ⟨w.heap.size + 1 + 1 + 1 + 1, 0, none⟩) 2 2, .slice (some ⟨w.heap.size + 1 + 1 + 1 + 1 + 1, 0, none⟩) 3 3] 22)) := by
    repeat (first | exact Below.refl _ _ | refine below_alloc ?_ _)
  obtain ⟨W, hW⟩ : ∃ W, (((((((w.alloc (.cells #[.slice (some ⟨w.heap.size + 1, 0, none⟩) 3 3, .slice (some ⟨w.heap.size + 1 + 1, 0, none⟩) 3 3, .slice (some ⟨w.heap.size + 1 + 1 + 1 + 1 + 1 + 1, 0, none⟩) 3 3] 26)).alloc (.cells #[.int .i64 10, .int .i64 20, .int .i64 30] 3)).alloc
      (.cells #[.int .i64 1, .int .i64 1, .int .i64 p, .int .i64 1, .int .i64 2, .int .i64 1, .int .i64 1, .int .i64 3, .int .i64 1] 50)).alloc (.cells #[.int .i64 0] 3)).alloc (.cells #[.int .i64 0, .int .i64 1] 3)).alloc (.cells #[.int .i64 0, .int .i64 1, .int .i64 2] 3)).alloc
      (.cells #[.slice (some ⟨w.heap.size + 1 + 1 + 1, 0, none⟩) 1 1, .slice (some ⟨w.heap.size + 1 + 1 + 1 + 1, 0, none⟩) 2 2, .slice (some ⟨w.heap.size + 1 + 1 + 1 + 1 + 1, 0, none⟩) 3 3] 22)) = W := ⟨_, rfl⟩
  have e0 : W.heap[w.heap.size]? = some (.cells #[.slice (some ⟨w.heap.size + 1, 0, none⟩) 3 3, .slice (some ⟨w.heap.size + 1 + 1, 0, none⟩) 3 3, .slice (some ⟨w.heap.size + 1 + 1 + 1 + 1 + 1 + 1, 0, none⟩) 3 3] 26 (0, 0)) := by
    rw [← hW]
    repeat (first | exact blk_new _ _ | (refine (congrArg _ ?_).trans (blk_new _ _); simp only [World.size_alloc]; done) | refine blk_alloc ?_ _)
  have e1 : W.heap[w.heap.size + 1]? = some (.cells #[.int .i64 10, .int .i64 20, .int .i64 30] 3 (0, 0)) := by
    rw [← hW]
    repeat (first | exact blk_new _ _ | (refine (congrArg _ ?_).trans (blk_new _ _); simp only [World.size_alloc]; done) | refine blk_alloc ?_ _)
  have e2 : W.heap[w.heap.size + 1 + 1]? = some (.cells #[.int .i64 1, .int .i64 1, .int .i64 p, .int .i64 1, .int .i64 2, .int .i64 1, .int .i64 1, .int .i64 3, .int .i64 1] 50 (0, 0)) := by
    rw [← hW]
    repeat (first | exact blk_new _ _ | (refine (congrArg _ ?_).trans (blk_new _ _); simp only [World.size_alloc]; done) | refine blk_alloc ?_ _)
  have e3 : W.heap[w.heap.size + 1 + 1 + 1]? = some (.cells #[.int .i64 0] 3 (0, 0)) := by
    rw [← hW]
    repeat (first | exact blk_new _ _ | (refine (congrArg _ ?_).trans (blk_new _ _); simp only [World.size_alloc]; done) | refine blk_alloc ?_ _)
  have e4 : W.heap[w.heap.size + 1 + 1 + 1 + 1]? = some (.cells #[.int .i64 0, .int .i64 1] 3 (0, 0)) := by
    rw [← hW]
    repeat (first | exact blk_new _ _ | (refine (congrArg _ ?_).trans (blk_new _ _); simp only [World.size_alloc]; done) | refine blk_alloc ?_ _)
  have e5 : W.heap[w.heap.size + 1 + 1 + 1 + 1 + 1]? = some (.cells #[.int .i64 0, .int .i64 1, .int .i64 2] 3 (0, 0)) := by
    rw [← hW]
    repeat (first | exact blk_new _ _ | (refine (congrArg _ ?_).trans (blk_new _ _); simp only [World.size_alloc]; done) | refine blk_alloc ?_ _)
  have e6 : W.heap[w.heap.size + 1 + 1 + 1 + 1 + 1 + 1]? = some (.cells #[.slice (some ⟨w.heap.size + 1 + 1 + 1, 0, none⟩) 1 1, .slice (some ⟨w.heap.size + 1 + 1 + 1 + 1, 0, none⟩) 2 2, .slice (some ⟨w.heap.size + 1 + 1 + 1 + 1 + 1, 0, none⟩) 3 3] 22 (0, 0)) := by
    rw [← hW]
    repeat (first | exact blk_new _ _ | (refine (congrArg _ ?_).trans (blk_new _ _); simp only [World.size_alloc]; done) | refine blk_alloc ?_ _)
  rw [hW] at hB ⊢
  refine bodyPost_ret (results_cell_row rfl _ _ w.heap.size 26 _ (0, 0) _ rfl e0 Try.underlying26 rfl (by kernel_rfl)) rfl ?_
  have r0 := rowC (l := [0]) e3 (by decide) (fun j v hv => by
    match j, hv with
    | 0, hv => have : (0 : Int) = v := by simpa using hv
               subst this; rfl)
  have r1 := rowC (l := [0, 1]) e4 (by decide) (fun j v hv => by
    match j, hv with
    | 0, hv => have : (0 : Int) = v := by simpa using hv
               subst this; rfl
    | 1, hv => have : (1 : Int) = v := by simpa using hv
               subst this; rfl)
  have r2 := rowC (l := [0, 1, 2]) e5 (by decide) (fun j v hv => by
    match j, hv with
    | 0, hv => have : (0 : Int) = v := by simpa using hv
               subst this; rfl
    | 1, hv => have : (1 : Int) = v := by simpa using hv
               subst this; rfl
    | 2, hv => have : (2 : Int) = v := by simpa using hv
               subst this; rfl)
  refine ⟨_, _, _, _, _, _, rfl, by decide, by simp [bdS], by decide, rowC (l := bdF) e1 (by decide) (fun j v hv => ?_), slotsC e2 (by simp [bdS]) (fun j v hv => ?_), rowsC e6 (by decide) (fun j v hv => ?_), hB⟩
  · match j, hv with
    | 0, hv => have : (10 : Int) = v := by simpa [bdF] using hv
               subst this; rfl
    | 1, hv => have : (20 : Int) = v := by simpa [bdF] using hv
               subst this; rfl
    | 2, hv => have : (30 : Int) = v := by simpa [bdF] using hv
               subst this; rfl
    | n + 3, hv => simp [bdF] at hv
  · match j, hv with
    | 0, hv => have : (⟨1, 1, p⟩ : S50) = v := by simpa [bdS] using hv
               subst this; exact ⟨rfl, rfl, rfl⟩
    | 1, hv => have : (⟨1, 2, 1⟩ : S50) = v := by simpa [bdS] using hv
               subst this; exact ⟨rfl, rfl, rfl⟩
    | 2, hv => have : (⟨1, 3, 1⟩ : S50) = v := by simpa [bdS] using hv
               subst this; exact ⟨rfl, rfl, rfl⟩
    | n + 3, hv => simp [bdS] at hv
  · match j, hv with
    | 0, hv => have : ([0] : List Int) = v := by simpa [bdT] using hv
               subst this; exact ⟨_, _, rfl, by decide, r0⟩
    | 1, hv => have : ([0, 1] : List Int) = v := by simpa [bdT] using hv
               subst this; exact ⟨_, _, rfl, by decide, r1⟩
    | 2, hv => have : ([0, 1, 2] : List Int) = v := by simpa [bdT] using hv
               subst this; exact ⟨_, _, rfl, by decide, r2⟩
    | n + 3, hv => simp [bdT] at hv
end Go.Proofs.Ytkmmihadcbfkoaa
end

section
namespace Go.Proofs.Ytkmmihadcbfkoaa
open Go.RowKit Go.Proofs.YtkmmihadcbfkoaaW.PrintWords PM
set_option linter.unusedVariables false
set_option linter.unusedSimpArgs false
/-- The slots of one find are tried one after another. -/
def tryRow (F : List Int) (S : List S50) (f : Nat) : List Int → List (List Int) → List Int → List (List Int) × List Int
 | [], T, out => (T, out)
 | s :: ss, T, out => if isF F S (T.set f [s]) = true then (T.set f [s], out.set f s) else tryRow F S f ss (T.set f [s]) out
def nextF (F : List Int) (S : List S50) (T0 : List (List Int)) : Nat → Nat → List (List Int) → List Int → List Int
 | 0, _, _, out => out
 | n + 1, f, T, out => nextF F S T0 n (f + 1) (tryRow F S f (T0.getD f []) T out).1 (tryRow F S f (T0.getD f []) T out).2
/-- Apart from the rows of the fits and of the slots found, what lay lies as it lay. -/
structure AG (Cf Bo : Nat) (w w' : World) : Prop where
 os : w'.os = w.os
 tape : w'.tape = w.tape
 output : w'.output = w.output
 size : w.heap.size ≤ w'.heap.size
 block : ∀ k, k < w.heap.size → k ≠ Cf → k ≠ Bo → w'.heap[k]? = w.heap[k]?
 cells : szOf (w'.heap[Bo]?) = szOf (w.heap[Bo]?)
theorem AG.refl (Cf Bo : Nat) (w : World) : AG Cf Bo w w := ⟨rfl, rfl, rfl, Nat.le_refl _, fun _ _ _ _ => rfl, rfl⟩
theorem AG.trans {Cf Bo : Nat} {a b c : World} (h : AG Cf Bo a b) (k : AG Cf Bo b c) : AG Cf Bo a c :=
 ⟨k.os.trans h.os, k.tape.trans h.tape, k.output.trans h.output, Nat.le_trans h.size k.size, fun i hi h1 h2 => (k.block i (Nat.lt_of_lt_of_le hi h.size) h1 h2).trans (h.block i hi h1 h2), k.cells.trans h.cells⟩
theorem AG.of_below {Cf Bo : Nat} {w w' : World} (h : Below w.heap.size w w') (hB : Bo < w.heap.size) : AG Cf Bo w w' := ⟨h.os, h.tape, h.output, h.size, fun k hk _ _ => h.block k hk, by rw [h.block Bo hB]⟩
theorem AG.of_grown {Cf Bo : Nat} {w w' : World} (h : w.grownBy w' (some Cf)) (hB : Bo < w.heap.size) (hne : Bo ≠ Cf) : AG Cf Bo w w' := ⟨h.os, h.tape, h.output, h.size, fun k hk h1 _ => h.block k hk (by simpa using h1), by rw [h.block Bo hB (by simpa using hne)]⟩
theorem AG.put {Cf Bo : Nat} (w : World) (o : Nat) (v : Value) : AG Cf Bo w (w.setCell ⟨Bo, o, none⟩ v) := ⟨rfl, rfl, rfl, by simp [World.setCell], fun k _ _ h => Below.heap_setCell _ _ _ _ h, szOf_setCell _ _ _ _⟩
structure AL where
 A0 : Option Addr
 c0 : Nat
 A1 : Option Addr
 c1 : Nat
 A2 : Option Addr
 c2 : Nat
 Bc : Nat
 Bb : Nat
 Bq : Nat
 Bn : Nat
 Cf : Nat
 cf : Nat
 Bo : Nat
 base : Nat
 ra : Nat → Option Addr
 rc : Nat → Nat
structure AStill (L : AL) (F : List Int) (S : List S50) (T : List (List Int)) (w : World) : Prop where
 cb : w.heap[L.Bb]? = some (.cells #[.slice L.A0 F.length L.c0, .slice L.A1 S.length L.c1, .slice L.A2 T.length L.c2] 26 (0, 0))
 cc : w.heap[L.Bc]? = some (.cells #[.slice L.A0 F.length L.c0, .slice L.A1 S.length L.c1, .slice (some ⟨L.Cf, 0, none⟩) T.length L.cf] 26 (0, 0))
 cq : w.heap[L.Bq]? = some (.cells #[.slice (some ⟨L.Bo, 0, none⟩) F.length F.length] 22 (0, 0))
 cn : w.heap[L.Bn]? = some (.cells #[.func (.func 55) #[] #[.pointer (some ⟨L.Bc, 0, none⟩), .pointer (some ⟨L.Bb, 0, none⟩), .pointer (some ⟨L.Bq, 0, none⟩), .pointer (some ⟨L.Bn, 0, none⟩)]] 73 (0, 0))
 slots : Kd.C k50 w L.A1 S.length S
 fits : RowsAt w L.A2 L.ra L.rc T
def AStands (L : AL) (F : List Int) (S : List S50) (T : List (List Int)) (w : World) : Prop := ∀ w', AG L.Cf L.Bo w w' → AStill L F S T w'
theorem AStands.still {L : AL} {F : List Int} {S : List S50} {T : List (List Int)} {w : World} (h : AStands L F S T w) : AStill L F S T w := h w (AG.refl _ _ _)
theorem AStands.later {L : AL} {F : List Int} {S : List S50} {T : List (List Int)} {w w' : World} (h : AStands L F S T w) (a : AG L.Cf L.Bo w w') : AStands L F S T w' := fun w2 k => h w2 (a.trans k)
/-- The fits as they stand now, and the slots found. -/
structure ATurn (L : AL) (F : List Int) (S : List S50) (T0 T : List (List Int)) (out : List Int) (w : World) : Prop where
 fits : Kd.N (Kd.slice 3 (Kd.int .i64)) 22 w L.base (fun k => k ≠ L.Bo) (.slice (some ⟨L.Cf, 0, none⟩) T0.length L.cf) T
 row : RowAt w L.Bo 3 (Value.int .i64) out
 lt : T.length = T0.length
 lo : out.length = F.length
 ok : BOK F S T
theorem BOK.set {F : List Int} {S : List S50} {T : List (List Int)} (h : BOK F S T) (f : Nat) (s : Int) (h0 : 0 ≤ s) (h1 : s < S.length) : BOK F S (T.set f [s]) := by
 have hg : ∀ i : Nat, i < T.length → (T.set f [s]).getD i [] = if f = i then [s] else T.getD i [] := fun i hi => by
  rw [List.getD_eq_getElem?_getD, List.getElem?_set]
  by_cases e : f = i
  ·
   rw [if_pos e, if_pos e, if_pos (by omega)]; rfl
  ·
   rw [if_neg e, if_neg e, List.getD_eq_getElem?_getD]
 refine ⟨h.nf, h.ns, by rw [List.length_set]; exact h.nt, fun i hi => ?_, fun i hi j hj => ?_⟩
 ·
  rw [List.length_set] at hi
  rw [hg i hi]
  split
  ·
   simp
  exact h.row i hi
 rw [List.length_set] at hi
 rw [hg i hi] at hj ⊢
 split at hj
 ·
  rename_i e
  rw [if_pos e]
  have : j = 0 := by simpa using hj
  subst this
  exact ⟨h0, h1⟩
 rename_i e
 rw [if_neg e]
 exact h.slot i hi j hj
theorem C_of_row' {w : World} {b n : Nat} {xs : List Int} (h : RowAt w b 3 (Value.int .i64) xs) (hl : xs.length = n) (hn : n ≤ 9223372036854775807) : Kd.C (Kd.int .i64) w (some ⟨b, 0, none⟩) n xs :=
 Kd.C_of_reads (enc := Value.int .i64) (d := (0 : Int)) (h1 := fun _ => rfl) ⟨hl, hn, fun _ => ⟨⟨b, 0, none⟩, rfl, fun j hj => by
  rw [add_plain, h.cell j (by omega)]
  simp [List.getD_eq_getElem?_getD, List.getElem?_eq_getElem (show j < xs.length by omega)]⟩⟩
theorem ATurn.below {L : AL} {F : List Int} {S : List S50} {T0 T : List (List Int)} {out : List Int} {w w' : World} (h : ATurn L F S T0 T out w) (hb : Below w.heap.size w w') : ATurn L F S T0 T out w' :=
 ⟨Kd.N_below h.fits hb, h.row.below hb, h.lt, h.lo, h.ok⟩
theorem ATurn.put {L : AL} {F : List Int} {S : List S50} {T0 T : List (List Int)} {out : List Int} {w : World} (h : ATurn L F S T0 T out w) (f : Nat) (s : Int) : ATurn L F S T0 T (out.set f s) (w.setCell ⟨L.Bo, f, none⟩ (.int .i64 s)) :=
 ⟨Kd.N_far (p := ⟨L.Bo, f, none⟩) h.fits (fun k hk => hk) _, h.row.set f s, h.lt, by rw [List.length_set]; exact h.lo, h.ok⟩
def NextPost (L : AL) (F : List Int) (S : List S50) (r : List Int) (w : World) (e : Ending) (w' : World) : Prop := e = .returned (.tuple #[]) ∧ AG L.Cf L.Bo w w' ∧ RowAt w' L.Bo 3 (Value.int .i64) r
set_option maxRecDepth 100000 in
set_option maxHeartbeats 8000000 in
theorem next_calls (L : AL) (F : List Int) (S : List S50) (T0 : List (List Int)) (hne : L.Bo ≠ L.Cf) (hk0 : BOK F S T0) (n : Nat) : ∀ (f : Nat) (T : List (List Int)) (out : List Int) (w : World), f + n = T0.length → AStands L F S T0 w → ATurn L F S T0 T out w →
  Calls Try.prog 55 #[.int .i64 f, .pointer (some ⟨L.Bc, 0, none⟩), .pointer (some ⟨L.Bb, 0, none⟩), .pointer (some ⟨L.Bq, 0, none⟩), .pointer (some ⟨L.Bn, 0, none⟩)] w (NextPost L F S (nextF F S T0 n f T out) w) := by
 induction n with
 | zero =>
  intro f T out w hfn hS hT
  have hst := hS.still
  have d2 := cell_of_heap hst.cc (j := 2) rfl
  obtain rfl : f = T0.length := by omega
  have HT := Go.Lib.hid hT
  clear hst hS hT hfn
  unfold nextF
  go_enter Try.func55, Try.ntmps55
  go_wp2_with fail
  go_step3
  go_wp2_with fail
  rw [Exit.noGoto_ret]
  go_end0
  exact ⟨rfl, AG.refl _ _ _, HT.out.row⟩
 | succ n ih =>
  intro f T out w hfn hS hT
  have hst := hS.still
  have d2 := cell_of_heap hst.cc (j := 2) rfl
  have b2 := cell_of_heap hst.cb (j := 2) rfl
  have hft : f < T0.length := by omega
  have g1 : ((f : Int) == (T0.length : Int)) = false := by
   rw [beq_eq_false_iff_ne]; omega
  obtain ⟨a8, e8, hx8, hC⟩ := hst.fits f hft
  obtain ⟨res, hres⟩ : ∃ res, nextF F S T0 (n + 1) f T out = res := ⟨_, rfl⟩
  rw [hres]
  unfold nextF at hres
  have hslot := hk0.slot f hft
  have hrl := hk0.row f hft
  have hno := hk0.nt
  have lT0 : T0.length ≤ 60 := by rw [hno]; exact hk0.nf
  obtain ⟨row, hrw⟩ : ∃ row, T0.getD f [] = row := ⟨_, rfl⟩
  rw [hrw] at hx8 hC hslot hres hrl
  rw [e8] at b2
  have hSt : ∀ w', AG L.Cf L.Bo w w' → Kd.C (Kd.int .i64) w' (L.ra f) row.length row := by
   intro w' a
   obtain ⟨_, _, _, hC'⟩ := (hS w' a).fits f hft
   rwa [hrw] at hC'
  have HT := Go.Lib.hid hT
  have HS := Go.Lib.hid hS
  have HRES := Go.Lib.hid hres
  have HSL := Go.Lib.hid hslot
  have HST := Go.Lib.hid hSt
  have IH := Go.Lib.hid ih
  have HK0 := Go.Lib.hid hk0
  have HFN := Go.Lib.hid hfn
  have HNO := Go.Lib.hid hno
  have hfn1 : f + 1 ≤ T0.length := by omega
  clear hst hS hT hfn hres hslot ih hk0 hC hrw e8 hno hSt
  go_enter Try.func55, Try.ntmps55
  go_wp2_with fail
  go_step3
  go_wp2_with fail
  go_step3
  go_wp2_with fail
  go_loopw [21] (fun i wr => ∃ k : Nat, k ≤ row.length ∧ i = .int .i64 k ∧ Hid (∃ T' out', nextF F S T0 n (f + 1) (tryRow F S f (row.drop k) T' out').1 (tryRow F S f (row.drop k) T' out').2 = res ∧ ATurn L F S T0 T' out' wr ∧ AG L.Cf L.Bo w wr)) (fun i _ => row.length - (intOf i).toNat)
  case atStart => exact ⟨0, Nat.zero_le _, rfl, T, out, HRES.out, HT.out, AG.refl _ _ _⟩
  obtain ⟨k, hk, rfl, HID⟩ := hrel
  obtain ⟨T', out', hre, hT, hag⟩ := HID.out
  by_cases hlt : k < row.length
  rotate_left
  ·
   obtain rfl : k = row.length := by omega
   rw [List.drop_length] at hre
   have hst := (HS.out.later hag).still
   have q4 := cell_of_heap hst.cn (j := 0) rfl
   have NC := IH.out (f + 1) T' out' wr (by have := HFN.out; omega) (HS.out.later hag) hT
   rw [show nextF F S T0 n (f + 1) T' out' = res from hre, show ((f + 1 : Nat) : Int) = (f : Int) + 1 from by omega] at NC
   have HAG := Go.Lib.hid hag
   clear hre hT hag hst HID
   go_wp2_with fail
   refine NC.mono ?_
   clear NC
   rintro e w5 ⟨rfl, hag5, hrow5⟩
   have HX5 := Go.Lib.hid (And.intro hag5 hrow5)
   clear hag5 hrow5
   go_wp2_with fail
   change bodyPost Try.prog Try.f55 (NextPost L F S res w) Exit.normal _ _
   go_end0
   exact ⟨rfl, HAG.out.trans HX5.out.1, HX5.out.2⟩
  obtain ⟨a9, e9, x9⟩ := Kd.at_int (HST.out wr hag) (k : Int) (by omega) (by omega)
  rw [Int.toNat_natCast, show rd row (k : Int) = row.getD k 0 from by simp [rd]] at x9
  rw [show row.drop k = row.getD k 0 :: row.drop (k + 1) from by rw [List.drop_eq_getElem_cons hlt]; simp [List.getD_eq_getElem?_getD, List.getElem?_eq_getElem hlt]] at hre
  have hsb := HSL.out k hlt
  obtain ⟨s9, hs9⟩ : ∃ s9, row.getD k 0 = s9 := ⟨_, rfl⟩
  rw [hs9] at x9 hre hsb
  obtain ⟨hs0, hs1⟩ := hsb
  unfold tryRow at hre
  have hst := (HS.out.later hag).still
  have d2 := cell_of_heap hst.cc (j := 2) rfl
  have hBl := hT.row.lt
  have hal := (Below.refl wr.heap.size wr).alloc (Nat.le_refl _) (.cells #[.int .i64 s9] 3)
  have dd2 := pw_cell_below hal d2
  have hN1 := Kd.N_alloc hT.fits (.cells #[.int .i64 s9] 3)
  have hbase : L.base ≤ wr.heap.size := Nat.le_trans (Kd.N_base hT.fits L.Cf rfl) (Nat.le_of_lt (Kd.N_lt hT.fits L.Cf rfl))
  obtain ⟨c, hcl, _, hcc⟩ := Kd.N_get hN1 ([] : List Int) (f : Int) (by omega) (by omega)
  have hcl : c.length = 1 := hcl
  obtain ⟨c0, rfl⟩ : ∃ c0, c = [c0] := List.length_eq_one_iff.1 hcl
  have hcc : ∀ j u, [c0][j]? = some u → (wr.alloc (.cells #[.int .i64 s9] 3)).cell? ⟨L.Cf, (f : Int).toNat * (Kd.slice 3 (Kd.int .i64)).sz + j, none⟩ = some u := fun j u hu => by
   have := hcc j u hu
   rwa [add_plain] at this
  have hrow1 : RowAt (wr.alloc (.cells #[.int .i64 s9] 3)) wr.heap.size 3 (Value.int .i64) [s9] := ⟨_, World.alloc_heap_new _ _, fun j hj => by
   have : j = 0 := by simpa using hj
   subst this; rfl⟩
  have hM : Kd.FK (Kd.slice 3 (Kd.int .i64)) (wr.alloc (.cells #[.int .i64 s9] 3)) (fun q => q = wr.heap.size) [s9] [.slice (some ⟨wr.heap.size, 0, none⟩) 1 1] :=
   Kd.FK_slice_mk (c := 1) (by simp) (fun W' hW => C_of_row' (hrow1.same (hW wr.heap.size rfl (by simp))) rfl (by simp))
  have HP := Go.Lib.hid (And.intro hN1 (And.intro hM (And.intro hcc hbase)))
  have HRE := Go.Lib.hid hre
  have HT' := Go.Lib.hid hT
  have HAG := Go.Lib.hid hag
  have HAL := Go.Lib.hid hal
  have hclf : L.Cf < wr.heap.size := Kd.N_lt hT.fits L.Cf rfl
  have PREP : ∀ w2, Kd.N (Kd.slice 3 (Kd.int .i64)) 22 w2 L.base (fun k => k ≠ L.Bo) (.slice (some ⟨L.Cf, 0, none⟩) T0.length L.cf) (T'.set f [s9]) → (wr.alloc (.cells #[.int .i64 s9] 3)).grownBy w2 (some L.Cf) →
    w2.cell? ⟨L.Bc, 0, none⟩ = some (.slice L.A0 F.length L.c0) ∧ w2.cell? ⟨L.Bc, 1, none⟩ = some (.slice L.A1 S.length L.c1) ∧ w2.cell? ⟨L.Bc, 2, none⟩ = some (.slice (some ⟨L.Cf, 0, none⟩) T0.length L.cf) ∧
    Calls Try.prog 52 #[.agg #[.slice L.A0 F.length L.c0, .slice L.A1 S.length L.c1, .slice (some ⟨L.Cf, 0, none⟩) T0.length L.cf]] w2 (SomePost F S (T'.set f [s9]) (.slice L.A0 F.length L.c0) w2) ∧
    Hid (ATurn L F S T0 (T'.set f [s9]) out' w2 ∧ AG L.Cf L.Bo wr w2) := by
   intro w2 hN2 hg2
   have hag2 : AG L.Cf L.Bo wr w2 := (AG.of_below hal hBl).trans (AG.of_grown hg2 (by simp; omega) hne)
   have hst2 := (HS.out.later (hag.trans hag2)).still
   have hbok := BOK.set hT.ok f s9 hs0 hs1
   have hlen2 : (T'.set f [s9]).length = T0.length := by rw [List.length_set, hT.lt]
   have hC2 := (Kd.N_reads' hN2).2.2
   have SC := some_calls L.A0 L.c0 F L.A1 L.c1 S (some ⟨L.Cf, 0, none⟩) L.cf (T'.set f [s9]) w2 hbok hst2.slots hC2
   rw [hlen2] at SC
   exact ⟨cell_of_heap hst2.cc rfl, cell_of_heap hst2.cc rfl, cell_of_heap hst2.cc rfl, SC, ⟨hN2, hT.row.same ((hg2.block L.Bo (by simp; omega) (by simpa using hne)).trans (hal.block L.Bo hBl)), hlen2, hT.lo, hbok⟩, hag2⟩
  clear hre hT hag hst hal hN1 hM hcc hrow1 hs9 hbase HID hcl
  rw [e9] at *
  go_wp2_with (first | (refine Kd.N_store (Kd.slice 3 (Kd.int .i64)) (w0 := wr) L.base rfl rfl 22 (.tmp 30) (.tmp 29) rfl 22 (g := L.Cf) (n := T0.length) (cap := L.cf) (o' := f) (f : Int) 0 T' [s9] (.slice (some ⟨wr.heap.size, 0, none⟩) 1 1) [.slice (some ⟨wr.heap.size, 0, none⟩) 1 1] [c0] (fun q => q ≠ L.Bo) (fun q => q = wr.heap.size) rfl (by show f = (f : Int).toNat * 1 + 0; omega) rfl rfl rfl (by intro q hq; rw [List.mem_singleton.1 hq]; rfl) HP.out.1 (by omega) (by omega) rfl HP.out.2.2.1 (by show 0 + 1 ≤ 1; omega) HP.out.2.1 (fun q hq => ⟨by omega, by omega⟩) (HAL.out.mono HP.out.2.2.2) ?_; intro w2 hN2 hb2 hg2; obtain ⟨p0, p1, p2, SC, HX2⟩ := PREP w2 hN2 hg2; clear hN2 hb2 hg2))
  refine SC.mono ?_
  clear SC
  rintro e w3 ⟨t, rfl, _, _, _, _, hb3⟩
  have hT3 := HX2.out.1.below hb3
  have hbo2 : L.Bo < w2.heap.size := HX2.out.1.row.lt
  have hag3 := HAG.out.trans (HX2.out.2.trans (AG.of_below hb3 hbo2))
  have hst3 := (HS.out.later hag3).still
  have q0 := cell_of_heap hst3.cq (j := 0) rfl
  have q1 := cell_of_heap hst3.cn (j := 0) rfl
  obtain ⟨ok, hok⟩ : ∃ ok, (fillF (T'.set f [s9]) (rooms S) S.length (-1) (List.replicate F.length (-1))).ok = ok := ⟨_, rfl⟩
  rw [hok]
  have hre := HRE.out
  rw [show isF F S (T'.set f [s9]) = ok from hok] at hre
  have HAG3 := Go.Lib.hid hag3
  have HT3 := Go.Lib.hid hT3
  clear hok hT3 hag3 hst3 hb3 p0 p1 p2 PREP HX2 HRE
  cases ok with
  | false =>
   rw [if_neg (by simp)] at hre
   have HRE2 := Go.Lib.hid hre
   clear hre
   go_wp2_with fail
   go_roundw
   case rel => exact ⟨k + 1, by omega, by simp, _, _, HRE2.out, HT3.out, HAG3.out⟩
   case measure => simp [intOf]; omega
  | true =>
   rw [if_pos rfl] at hre
   have HRE2 := Go.Lib.hid hre
   clear hre
   have hfF : (f : Int) < (F.length : Int) := by have := HNO.out; omega
   have fz := HT3.out.row.frozen f
   have cf := HT3.out.row.cellD 0 (f : Int) (by omega) (by rw [HT3.out.lo]; exact hfF)
   rw [Int.toNat_natCast] at cf
   have hT4 := HT3.out.put f s9
   have hag4 : AG L.Cf L.Bo w3 (w3.setCell ⟨L.Bo, f, none⟩ (.int .i64 s9)) := AG.put _ _ _
   have hst4 := (HS.out.later (HAG3.out.trans hag4)).still
   have q4 := cell_of_heap hst4.cn (j := 0) rfl
   have NC := IH.out (f + 1) _ _ _ (by have := HFN.out; omega) (HS.out.later (HAG3.out.trans hag4)) hT4
   rw [HRE2.out, show ((f + 1 : Nat) : Int) = (f : Int) + 1 from by omega] at NC
   have HAG4 := Go.Lib.hid (HAG3.out.trans hag4)
   clear hT4 hag4 hst4
   go_wp2_with fail
   refine NC.mono ?_
   clear NC
   rintro e w5 ⟨rfl, hag5, hrow5⟩
   have HX5 := Go.Lib.hid (And.intro hag5 hrow5)
   clear hag5 hrow5
   go_wp2_with fail
   change bodyPost Try.prog Try.f55 (NextPost L F S res w) Exit.normal _ _
   go_end0
   exact ⟨rfl, HAG4.out.trans HX5.out.1, HX5.out.2⟩
end Go.Proofs.Ytkmmihadcbfkoaa
end
