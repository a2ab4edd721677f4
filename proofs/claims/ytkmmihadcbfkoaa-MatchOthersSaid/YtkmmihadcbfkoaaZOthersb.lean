/-
  MatchOthers holds: for every board, find and slot, the law returns true and what it is given reads as it did. (part 2 of 6 of the texts that it stands on)
-/
import Derived.Test.YtkmmihadcbfkoaaProg
import Derived.Below
import Derived.Deep.Draws
import Derived.Deep.AppendLies
import Derived.Maps.AppendAt
import Derived.OwnWalk
import Derived.Laws.BytesArg
import Derived.Laws.MakeOwn
import Derived.Laws.OwnMore
import Derived.Deep.OwnRows
import Derived.Tactics
import Derived.Lib.ConvBytes
import Derived.Laws.Slices
import Derived.WalkKit
import Derived.KernelRfl
import Derived.RowKit3
import Derived.Deep.LoopGhost
import Derived.Deep.QuietTactic
import Derived.BigQuiet
import Derived.WideLaws
import Derived.Deep.DeepCutAuto
import Derived.Deep.CutBlock
import Derived.Deep.RegionHeld3
import Derived.Laws.Rows
import Derived.Lib.AppendStr
import Derived.ArgAppend
import Derived.Laws.IdiomCopy
import Derived.OrdersHeld
import Derived.Laws.BitsLemmas
import Derived.RowKit
import Derived.Lib.SlicesCompact
import Derived.RangeFuncBox
import Derived.RangeFuncNested
import Derived.RangeFuncLeaves
import Derived.Shelf.Abstract
import Derived.OwnWalkIn
import Derived.TacticsInMore
import Derived.LoopNIn
import Derived.LoopIn
import Derived.Lib.Hide
import Derived.ChangeSlices
import Derived.WalkMore
import Derived.Shelf.Small.Bits
import Derived.Shelf.Small.Wraps
import Derived.Shelf.Strconv.Itoa0
import Derived.Shelf.Sort.Plain
import Derived.Shelf.Bits.Mul64
import Derived.Shelf.Slices.Turned
import Derived.Ground.Names2Prog
import Derived.Shelf.Slices.CompactI
import Derived.Shelf.Slices.SearchI
import Derived.Shelf.Slices.Delete
import Derived.Shelf.Slices.Cells
import Derived.Shelf.Slices.In.SortNone
import Derived.Shelf.Slices.Empties
import Derived.Test.YtkmmihadcbfkoaaZOthersa
section
namespace Go.Proofs.Ytkmmihadcbfkoaa.PM
open Go.RowKit Go.Proofs.YtkmmihadcbfkoaaW.PrintWords Go.Proofs.YtkmmihadcbfkoaaW.PrintLast Go.Proofs.YtkmmihadcbfkoaaW.PrintMore
set_option linter.unusedVariables false
set_option linter.unusedSimpArgs false
def errW : Option Int → Value
 | none => .nilIface
 | some c => .iface 0 (.int .i64 c)
theorem errW_none : errW none = .nilIface := rfl
theorem errW_some (c : Int) : errW (some c) = .iface 0 (.int .i64 c) := rfl
theorem info3 : (Try.prog.info? 3).map (fun i => (i.zero, i.size, i.bytes)) = some (some (.int .i64 0), 1, 8) := by kernel_rfl
theorem info22 : (Try.prog.info? 22).map (fun i => (i.zero, i.size, i.bytes)) = some (some (.slice none 0 0), 1, 24) := by kernel_rfl
theorem info50 : (Try.prog.info? 50).map (fun i => (i.zero, i.size, i.bytes)) = some (some (.agg #[(.int .i64 0), (.int .i64 0), (.int .i64 0)]), 3, 24) := by kernel_rfl
def rd_L1 (xs : List (List Int)) (i : Int) : (List Int) := xs.getD i.toNat ([] : List Int)
theorem at_L1 {w : World} {A : Option Addr} {n : Nat} {xs : List (List Int)} (h : Kd.C (Kd.slice 3 (Kd.int .i64)) w A n xs) (i : Int) (h0 : 0 ≤ i) (h1 : i < n) : ∃ ad A0 c0, A = some ad ∧ w.cell? (ad.add i.toNat) = some (.slice A0 (rd_L1 xs i).length c0) ∧ (rd_L1 xs i).length ≤ c0 ∧ (Kd.int .i64).C w A0 (rd_L1 xs i).length (rd_L1 xs i) := by
 obtain ⟨ad, c, e, _, hK, hc0⟩ := Kd.C_get h ([] : List Int) i h0 h1
 have hc : ∀ j u, c[j]? = some u → w.cell? (ad.add (i.toNat * 1 + j)) = some u := hc0
 obtain ⟨A0, c0, rfl, l0, g0⟩ := hK
 exact ⟨ad, A0, c0, e, by have hq := hc 0 _ rfl; rwa [Nat.mul_one, Nat.add_zero] at hq, l0, g0⟩
structure S50 where
 f0 : Int
 f1 : Int
 f2 : Int
def z50 : S50 := ⟨(0 : Int), (0 : Int), (0 : Int)⟩
def k50 : Kd S50 := Kd.iso (Kd.pair (Kd.int .i64) (Kd.pair (Kd.int .i64) (Kd.int .i64))) (fun x : S50 => (x.f0, x.f1, x.f2))
theorem k50_open {w : World} {x : S50} {cs : List Value} (h : k50.K w x cs) : cs = [.int .i64 x.f0, .int .i64 x.f1, .int .i64 x.f2] := by
 obtain ⟨_, _, rfl, rfl, ⟨_, _, rfl, rfl, rfl⟩⟩ := h
 exact rfl
theorem k50_mk (w : World) (x : S50)  : k50.K w x [.int .i64 x.f0, .int .i64 x.f1, .int .i64 x.f2] := ⟨[.int .i64 x.f0], [.int .i64 x.f1, .int .i64 x.f2], rfl, rfl, ⟨[.int .i64 x.f1], [.int .i64 x.f2], rfl, rfl, rfl⟩⟩
def rd_T50 (xs : List S50) (i : Int) : S50 := xs.getD i.toNat z50
theorem at_T50 {w : World} {A : Option Addr} {n : Nat} {xs : List S50} (h : Kd.C k50 w A n xs) (i : Int) (h0 : 0 ≤ i) (h1 : i < n) : ∃ ad , A = some ad ∧ w.cell? (ad.add (i.toNat * 3)) = some (.int .i64 (rd_T50 xs i).f0) ∧ w.cell? ⟨(ad.add (i.toNat * 3)).block, (ad.add (i.toNat * 3)).off + 1, none⟩ = some (.int .i64 (rd_T50 xs i).f1) ∧ w.cell? ⟨(ad.add (i.toNat * 3)).block, (ad.add (i.toNat * 3)).off + 2, none⟩ = some (.int .i64 (rd_T50 xs i).f2) := by
 obtain ⟨ad, c, e, _, hK, hc0⟩ := Kd.C_get h z50 i h0 h1
 have hc : ∀ j u, c[j]? = some u → w.cell? (ad.add (i.toNat * 3 + j)) = some u := hc0
 obtain rfl := k50_open hK
 exact ⟨ad, e, hc 0 _ rfl, by rw [← add_field _ _ 1 (by omega)]; exact hc 1 _ rfl, by rw [← add_field _ _ 2 (by omega)]; exact hc 2 _ rfl⟩
theorem eqA50 (d : Nat) (w : World) (x0 y0 : Int) (x1 y1 : Int) (x2 y2 : Int) :
  (Op.equalIn (d + 2) 50 (.agg #[.int .i64 x0, .int .i64 x1, .int .i64 x2]) (.agg #[.int .i64 y0, .int .i64 y1, .int .i64 y2])).run Try.prog w = .ok (x0 == y0 && (x1 == y1 && (x2 == y2))) w := by
 refine eqA_of Try.underlying50 (by kernel_rfl) ?_
 refine eqf_cons (by rfl) (by go_simp; rfl) (by go_simp; rfl) (by go_simp) ?_
 refine eqf_cons (by rfl) (by go_simp; rfl) (by go_simp; rfl) (by go_simp) ?_
 exact eqf_last (by rfl) (by go_simp; rfl) (by go_simp; rfl) (by go_simp)
end Go.Proofs.Ytkmmihadcbfkoaa.PM
end

section
namespace Go.Proofs.Ytkmmihadcbfkoaa.PM
open Go.RowKit Go.Proofs.YtkmmihadcbfkoaaW.PrintWords Go.Proofs.YtkmmihadcbfkoaaW.PrintLast Go.Proofs.YtkmmihadcbfkoaaW.PrintMore
set_option linter.unusedVariables false
set_option linter.unusedSimpArgs false
def laganref04_ascending.l0 : Nat → List Int → Int → Int → Option (Bool)
 | 0, _, _, _ => none
 | k + 1, x0, x1, x5 => if x5 < (x0.length : Int) then (if 0 ≤ x5 then (if (rd x0 x5) < 0 then (some false) else (if (rd x0 x5) ≥ x1 then (some false) else (if x5 > 0 then (if 0 ≤ (wrap64 (x5 - 1)) then (if (wrap64 (x5 - 1)) < (x0.length : Int) then (if (rd x0 x5) ≤ (rd x0 (wrap64 (x5 - 1))) then (some false) else (laganref04_ascending.l0 k x0 x1 (wrap64 (x5 + 1)))) else (none)) else (none)) else (laganref04_ascending.l0 k x0 x1 (wrap64 (x5 + 1)))))) else (none)) else (some true)
def laganref04_ascending.f (k : Nat) (l0 : List Int) (a1 : Int) : Option (Bool) := laganref04_ascending.l0 k l0 a1 0
set_option maxHeartbeats 8000000 in
set_option maxRecDepth 100000 in
theorem laganref04_ascending.calls (k : Nat) (A0 : Option Addr) (c0 : Nat) (l0 : List Int) (a1 : Int) (r : Bool) (w : World) (hr0 : Kd.C (Kd.int .i64) w A0 l0.length l0) (hc0 : l0.length ≤ c0) (h : laganref04_ascending.f k l0 a1 = some r) :
  Calls Try.prog 62 #[.slice A0 l0.length c0, .int .i64 a1] w fun e w' => e = .returned (.bool r) ∧ Drawn0 w w' := by
 have HR0 := Aside0.mk hr0
 have HC0 := Aside0.mk hc0
 clear hr0 hc0
 have H : (laganref04_ascending.l0 k l0 a1 0) = some r := h
 clear h
 have H' := Aside0.mk H
 clear H
 go_enter Try.func62, Try.ntmps62
 go_wp2
 repeat (go_quiet (fail); try go_wp2)
 go_loopg [5] k (fun kq v5 w' => ∃ (x5_1 : Int), v5 = .int .i64 x5_1 ∧ Aside0 (laganref04_ascending.l0 kq l0 a1 x5_1 = some r) ∧ Aside0 (kq ≤ k) ∧ Drawn0 w w')
 case atStart => exact ⟨(0), (by first | rfl | (simp; done) | (simp [*]; done)), H', ⟨Nat.le_refl _⟩, by repeat (first | exact Drawn0.refl _ | apply Drawn0.step)⟩
 clear H'
 try clear p2
 obtain ⟨x5_1, rfl, HA, HK1, ⟨m1, rfl⟩⟩ := hrel
 cases gk with
 | zero => exact absurd HA.out (by simp [laganref04_ascending.l0])
 | succ k1 =>
  have H := HA.out
  clear HA
  simp only [laganref04_ascending.l0] at H
  by_cases c3 : x5_1 < (l0.length : Int)
  rotate_left
  ·
   rw [if_neg c3] at H
   have c3b0 : decide (x5_1 < (l0.length : Int)) = false := decide_eq_false c3
   clear c3
   obtain rfl := Option.some.inj H
   go_wp2
   repeat (go_quiet (fail); try go_wp2)
   go_ret
   exact ⟨by first | rfl | (simp; done) | (simp [*]; done), by repeat (first | exact Drawn0.refl _ | apply Drawn0.step)⟩
  rw [if_pos c3] at H
  have c3b0 : decide (x5_1 < (l0.length : Int)) = true := decide_eq_true c3
  clear c3
  by_cases c4 : 0 ≤ x5_1
  rotate_left
  ·
   rw [if_neg c4] at H
   exact absurd H (by simp)
  rw [if_pos c4] at H
  have c4b0 : decide (0 ≤ x5_1) = true := decide_eq_true c4
  clear c4
  by_cases c5 : (rd l0 x5_1) < 0
  ·
   rw [if_pos c5] at H
   have c5b0 : decide ((rd l0 x5_1) < 0) = true := decide_eq_true c5
   clear c5
   obtain rfl := Option.some.inj H
   have p128 : 0 ≤ (x5_1 : Int) := of_decide_eq_true (by first | (with_reducible assumption) | assumption)
   have q128 : x5_1 < (l0.length : Int) := of_decide_eq_true (by first | (with_reducible assumption) | assumption)
   obtain ⟨ad128, e128, hx128_0⟩ := Kd.at_int HR0.out x5_1 p128 q128
   cases e128
   replace p128 := eq_true p128
   replace q128 := eq_true q128
   go_wp2
   repeat (go_quiet (fail); try go_wp2)
   go_ret
   exact ⟨by first | rfl | (simp; done) | (simp [*]; done), by repeat (first | exact Drawn0.refl _ | apply Drawn0.step)⟩
  rw [if_neg c5] at H
  have c5b0 : decide ((rd l0 x5_1) < 0) = false := decide_eq_false c5
  clear c5
  by_cases c6 : (rd l0 x5_1) ≥ a1
  ·
   rw [if_pos c6] at H
   have c6b0 : decide (a1 ≤ (rd l0 x5_1)) = true := decide_eq_true c6
   clear c6
   obtain rfl := Option.some.inj H
   have p128 : 0 ≤ (x5_1 : Int) := of_decide_eq_true (by first | (with_reducible assumption) | assumption)
   have q128 : x5_1 < (l0.length : Int) := of_decide_eq_true (by first | (with_reducible assumption) | assumption)
   obtain ⟨ad128, e128, hx128_0⟩ := Kd.at_int HR0.out x5_1 p128 q128
   cases e128
   replace p128 := eq_true p128
   replace q128 := eq_true q128
   have p129 : 0 ≤ (x5_1 : Int) := of_decide_eq_true (by first | (with_reducible assumption) | assumption)
   have q129 : x5_1 < (l0.length : Int) := of_decide_eq_true (by first | (with_reducible assumption) | assumption)
   obtain ⟨ad129, e129, hx129_0⟩ := Kd.at_int HR0.out x5_1 p129 q129
   obtain rfl : ad128 = ad129 := (by injection e129)
   replace p129 := eq_true p129
   replace q129 := eq_true q129
   go_wp2
   repeat (go_quiet (fail); try go_wp2)
   go_ret
   exact ⟨by first | rfl | (simp; done) | (simp [*]; done), by repeat (first | exact Drawn0.refl _ | apply Drawn0.step)⟩
  rw [if_neg c6] at H
  have c6b0 : decide (a1 ≤ (rd l0 x5_1)) = false := decide_eq_false c6
  clear c6
  by_cases c7 : x5_1 > 0
  rotate_left
  ·
   rw [if_neg c7] at H
   have c7b0 : decide (0 < x5_1) = false := decide_eq_false c7
   clear c7
   have H' := Aside0.mk H
   clear H
   have p128 : 0 ≤ (x5_1 : Int) := of_decide_eq_true (by first | (with_reducible assumption) | assumption)
   have q128 : x5_1 < (l0.length : Int) := of_decide_eq_true (by first | (with_reducible assumption) | assumption)
   obtain ⟨ad128, e128, hx128_0⟩ := Kd.at_int HR0.out x5_1 p128 q128
   cases e128
   replace p128 := eq_true p128
   replace q128 := eq_true q128
   have p129 : 0 ≤ (x5_1 : Int) := of_decide_eq_true (by first | (with_reducible assumption) | assumption)
   have q129 : x5_1 < (l0.length : Int) := of_decide_eq_true (by first | (with_reducible assumption) | assumption)
   obtain ⟨ad129, e129, hx129_0⟩ := Kd.at_int HR0.out x5_1 p129 q129
   obtain rfl : ad128 = ad129 := (by injection e129)
   replace p129 := eq_true p129
   replace q129 := eq_true q129
   go_wp2
   repeat (go_quiet (fail); try go_wp2)
   go_roundg k1
   case measure => have := HK1.out; omega
   case rel => exact ⟨(wrap64 (x5_1 + 1)), (by first | rfl | (simp; done) | (simp [*]; done)), H', ⟨by have := HK1.out; omega⟩, by repeat (first | exact Drawn0.refl _ | apply Drawn0.step)⟩
  rw [if_pos c7] at H
  have c7b0 : decide (0 < x5_1) = true := decide_eq_true c7
  clear c7
  obtain ⟨ji8, hji8⟩ : ∃ j_ : Int, (wrap64 (x5_1 - 1)) = j_ := ⟨_, rfl⟩
  replace H : (if 0 ≤ (ji8) then (if (ji8) < (l0.length : Int) then (if (rd l0 x5_1) ≤ (rd l0 (ji8)) then (some false) else (laganref04_ascending.l0 k1 l0 a1 (wrap64 (x5_1 + 1)))) else (none)) else (none)) = some r := by first | (rw [hji8] at H; exact H) | (simp only [hji8] at H ⊢; exact H)
  have hji8w : (IntKind.i64.wrap (x5_1 - 1)) = ji8 := (i64_w _).trans hji8
  by_cases c9 : 0 ≤ (ji8)
  rotate_left
  ·
   rw [if_neg c9] at H
   exact absurd H (by simp)
  rw [if_pos c9] at H
  have c9b0 : decide (0 ≤ (ji8)) = true := decide_eq_true c9
  clear c9
  by_cases c10 : (ji8) < (l0.length : Int)
  rotate_left
  ·
   rw [if_neg c10] at H
   exact absurd H (by simp)
  rw [if_pos c10] at H
  have c10b0 : decide ((ji8) < (l0.length : Int)) = true := decide_eq_true c10
  clear c10
  by_cases c11 : (rd l0 x5_1) ≤ (rd l0 (ji8))
  ·
   rw [if_pos c11] at H
   have c11b0 : decide ((rd l0 x5_1) ≤ (rd l0 (ji8))) = true := decide_eq_true c11
   clear c11
   obtain rfl := Option.some.inj H
   have p128 : 0 ≤ (x5_1 : Int) := of_decide_eq_true (by first | (with_reducible assumption) | assumption)
   have q128 : x5_1 < (l0.length : Int) := of_decide_eq_true (by first | (with_reducible assumption) | assumption)
   obtain ⟨ad128, e128, hx128_0⟩ := Kd.at_int HR0.out x5_1 p128 q128
   cases e128
   replace p128 := eq_true p128
   replace q128 := eq_true q128
   have p129 : 0 ≤ (x5_1 : Int) := of_decide_eq_true (by first | (with_reducible assumption) | assumption)
   have q129 : x5_1 < (l0.length : Int) := of_decide_eq_true (by first | (with_reducible assumption) | assumption)
   obtain ⟨ad129, e129, hx129_0⟩ := Kd.at_int HR0.out x5_1 p129 q129
   obtain rfl : ad128 = ad129 := (by injection e129)
   replace p129 := eq_true p129
   replace q129 := eq_true q129
   have p130 : 0 ≤ (x5_1 : Int) := of_decide_eq_true (by first | (with_reducible assumption) | assumption)
   have q130 : x5_1 < (l0.length : Int) := of_decide_eq_true (by first | (with_reducible assumption) | assumption)
   obtain ⟨ad130, e130, hx130_0⟩ := Kd.at_int HR0.out x5_1 p130 q130
   obtain rfl : ad128 = ad130 := (by injection e130)
   replace p130 := eq_true p130
   replace q130 := eq_true q130
   have p131 : 0 ≤ ((ji8) : Int) := of_decide_eq_true (by first | (with_reducible assumption) | assumption)
   have q131 : (ji8) < (l0.length : Int) := of_decide_eq_true (by first | (with_reducible assumption) | assumption)
   obtain ⟨ad131, e131, hx131_0⟩ := Kd.at_int HR0.out (ji8) p131 q131
   obtain rfl : ad128 = ad131 := (by injection e131)
   replace p131 := eq_true p131
   replace q131 := eq_true q131
   go_wp2
   repeat (go_quiet (fail); try go_wp2)
   go_ret
   exact ⟨by first | rfl | (simp; done) | (simp only [← hji8] <;> (first | rfl | simp)) | (simp [*]; done), by repeat (first | exact Drawn0.refl _ | apply Drawn0.step)⟩
  rw [if_neg c11] at H
  have c11b0 : decide ((rd l0 x5_1) ≤ (rd l0 (ji8))) = false := decide_eq_false c11
  clear c11
  have H' := Aside0.mk H
  clear H
  have p128 : 0 ≤ (x5_1 : Int) := of_decide_eq_true (by first | (with_reducible assumption) | assumption)
  have q128 : x5_1 < (l0.length : Int) := of_decide_eq_true (by first | (with_reducible assumption) | assumption)
  obtain ⟨ad128, e128, hx128_0⟩ := Kd.at_int HR0.out x5_1 p128 q128
  cases e128
  replace p128 := eq_true p128
  replace q128 := eq_true q128
  have p129 : 0 ≤ (x5_1 : Int) := of_decide_eq_true (by first | (with_reducible assumption) | assumption)
  have q129 : x5_1 < (l0.length : Int) := of_decide_eq_true (by first | (with_reducible assumption) | assumption)
  obtain ⟨ad129, e129, hx129_0⟩ := Kd.at_int HR0.out x5_1 p129 q129
  obtain rfl : ad128 = ad129 := (by injection e129)
  replace p129 := eq_true p129
  replace q129 := eq_true q129
  have p130 : 0 ≤ (x5_1 : Int) := of_decide_eq_true (by first | (with_reducible assumption) | assumption)
  have q130 : x5_1 < (l0.length : Int) := of_decide_eq_true (by first | (with_reducible assumption) | assumption)
  obtain ⟨ad130, e130, hx130_0⟩ := Kd.at_int HR0.out x5_1 p130 q130
  obtain rfl : ad128 = ad130 := (by injection e130)
  replace p130 := eq_true p130
  replace q130 := eq_true q130
  have p131 : 0 ≤ ((ji8) : Int) := of_decide_eq_true (by first | (with_reducible assumption) | assumption)
  have q131 : (ji8) < (l0.length : Int) := of_decide_eq_true (by first | (with_reducible assumption) | assumption)
  obtain ⟨ad131, e131, hx131_0⟩ := Kd.at_int HR0.out (ji8) p131 q131
  obtain rfl : ad128 = ad131 := (by injection e131)
  replace p131 := eq_true p131
  replace q131 := eq_true q131
  go_wp2
  repeat (go_quiet (fail); try go_wp2)
  go_roundg k1
  case measure => have := HK1.out; omega
  case rel => exact ⟨(wrap64 (x5_1 + 1)), (by first | rfl | (simp; done) | (simp [*]; done)), H', ⟨by have := HK1.out; omega⟩, by repeat (first | exact Drawn0.refl _ | apply Drawn0.step)⟩
def laganref04_SameInts.l0 : Nat → List Int → List Int → Int → Option (Bool)
 | 0, _, _, _ => none
 | k + 1, x0, x1, x5 => if x5 < (x0.length : Int) then (if 0 ≤ x5 then (if x5 < (x1.length : Int) then (if (rd x0 x5) = (rd x1 x5) then (laganref04_SameInts.l0 k x0 x1 (wrap64 (x5 + 1))) else (some false)) else (none)) else (none)) else (some true)
def laganref04_SameInts.f (k : Nat) (l0 : List Int) (l1 : List Int) : Option (Bool) := if (l0.length : Int) = (l1.length : Int) then (laganref04_SameInts.l0 k l0 l1 0) else (some false)
set_option maxHeartbeats 8000000 in
set_option maxRecDepth 100000 in
theorem laganref04_SameInts.calls (k : Nat) (A0 : Option Addr) (c0 : Nat) (l0 : List Int) (A1 : Option Addr) (c1 : Nat) (l1 : List Int) (r : Bool) (w : World) (hr0 : Kd.C (Kd.int .i64) w A0 l0.length l0) (hc0 : l0.length ≤ c0) (hr1 : Kd.C (Kd.int .i64) w A1 l1.length l1) (hc1 : l1.length ≤ c1) (h : laganref04_SameInts.f k l0 l1 = some r) :
  Calls Try.prog 22 #[.slice A0 l0.length c0, .slice A1 l1.length c1] w fun e w' => e = .returned (.bool r) ∧ Drawn0 w w' := by
 have HR0 := Aside0.mk hr0
 have HC0 := Aside0.mk hc0
 clear hr0 hc0
 have HR1 := Aside0.mk hr1
 have HC1 := Aside0.mk hc1
 clear hr1 hc1
 have H : (if (l0.length : Int) = (l1.length : Int) then (laganref04_SameInts.l0 k l0 l1 0) else (some false)) = some r := h
 clear h
 by_cases c3 : (l0.length : Int) = (l1.length : Int)
 rotate_left
 ·
  rw [if_neg c3] at H
  have c3b0 : ((l0.length : Int) == (l1.length : Int)) = false := beq_eq_false_iff_ne.mpr c3
  have c3b1 : ((l0.length : Int) != (l1.length : Int)) = true := bne_iff_ne.mpr c3
  have c3b2 : (l0.length == l1.length) = false := by first | simpa using c3 | (simp at c3 ⊢; omega)
  obtain rfl := Option.some.inj H
  go_enter Try.func22, Try.ntmps22
  go_wp2
  repeat (go_quiet (fail); try go_wp2)
  go_ret
  exact ⟨by first | rfl | (simp; done) | (simp [*]; done), by repeat (first | exact Drawn0.refl _ | apply Drawn0.step)⟩
 rw [if_pos c3] at H
 have c3b0 : ((l0.length : Int) == (l1.length : Int)) = true := beq_iff_eq.mpr c3
 have c3b1 : ((l0.length : Int) != (l1.length : Int)) = false := bne_eq_false_iff_eq.mpr c3
 have c3b2 : (l0.length == l1.length) = true := by first | simpa using c3 | (simp at c3 ⊢; omega)
 clear c3
 have H' := Aside0.mk H
 clear H
 go_enter Try.func22, Try.ntmps22
 go_wp2
 repeat (go_quiet (fail); try go_wp2)
 go_loopg [5] k (fun kq v5 w' => ∃ (x5_1 : Int), v5 = .int .i64 x5_1 ∧ Aside0 (laganref04_SameInts.l0 kq l0 l1 x5_1 = some r) ∧ Aside0 (kq ≤ k) ∧ Drawn0 w w')
 case atStart => exact ⟨(0), (by first | rfl | (simp; done) | (simp [*]; done)), H', ⟨Nat.le_refl _⟩, by repeat (first | exact Drawn0.refl _ | apply Drawn0.step)⟩
 clear H'
 try clear c1
 try clear c2
 try clear p2
 try clear c3
 try clear c3b0
 try clear c3b1
 try clear c3b2
 obtain ⟨x5_1, rfl, HA, HK1, ⟨m1, rfl⟩⟩ := hrel
 cases gk with
 | zero => exact absurd HA.out (by simp [laganref04_SameInts.l0])
 | succ k1 =>
  have H := HA.out
  clear HA
  simp only [laganref04_SameInts.l0] at H
  by_cases c4 : x5_1 < (l0.length : Int)
  rotate_left
  ·
   rw [if_neg c4] at H
   have c4b0 : decide (x5_1 < (l0.length : Int)) = false := decide_eq_false c4
   clear c4
   obtain rfl := Option.some.inj H
   go_wp2
   repeat (go_quiet (fail); try go_wp2)
   go_ret
   exact ⟨by first | rfl | (simp; done) | (simp [*]; done), by repeat (first | exact Drawn0.refl _ | apply Drawn0.step)⟩
  rw [if_pos c4] at H
  have c4b0 : decide (x5_1 < (l0.length : Int)) = true := decide_eq_true c4
  clear c4
  by_cases c5 : 0 ≤ x5_1
  rotate_left
  ·
   rw [if_neg c5] at H
   exact absurd H (by simp)
  rw [if_pos c5] at H
  have c5b0 : decide (0 ≤ x5_1) = true := decide_eq_true c5
  clear c5
  by_cases c6 : x5_1 < (l1.length : Int)
  rotate_left
  ·
   rw [if_neg c6] at H
   exact absurd H (by simp)
  rw [if_pos c6] at H
  have c6b0 : decide (x5_1 < (l1.length : Int)) = true := decide_eq_true c6
  clear c6
  by_cases c7 : (rd l0 x5_1) = (rd l1 x5_1)
  rotate_left
  ·
   rw [if_neg c7] at H
   have c7b0 : ((rd l0 x5_1) == (rd l1 x5_1)) = false := beq_eq_false_iff_ne.mpr c7
   have c7b1 : ((rd l0 x5_1) != (rd l1 x5_1)) = true := bne_iff_ne.mpr c7
   obtain rfl := Option.some.inj H
   have p219 : 0 ≤ (x5_1 : Int) := of_decide_eq_true (by first | (with_reducible assumption) | assumption)
   have q219 : x5_1 < (l0.length : Int) := of_decide_eq_true (by first | (with_reducible assumption) | assumption)
   obtain ⟨ad219, e219, hx219_0⟩ := Kd.at_int HR0.out x5_1 p219 q219
   cases e219
   replace p219 := eq_true p219
   replace q219 := eq_true q219
   have p220 : 0 ≤ (x5_1 : Int) := of_decide_eq_true (by first | (with_reducible assumption) | assumption)
   have q220 : x5_1 < (l1.length : Int) := of_decide_eq_true (by first | (with_reducible assumption) | assumption)
   obtain ⟨ad220, e220, hx220_0⟩ := Kd.at_int HR1.out x5_1 p220 q220
   cases e220
   replace p220 := eq_true p220
   replace q220 := eq_true q220
   go_wp2
   repeat (go_quiet (fail); try go_wp2)
   go_ret
   exact ⟨by first | rfl | (simp; done) | (simp [*]; done), by repeat (first | exact Drawn0.refl _ | apply Drawn0.step)⟩
  rw [if_pos c7] at H
  have c7b0 : ((rd l0 x5_1) == (rd l1 x5_1)) = true := beq_iff_eq.mpr c7
  have c7b1 : ((rd l0 x5_1) != (rd l1 x5_1)) = false := bne_eq_false_iff_eq.mpr c7
  clear c7
  have H' := Aside0.mk H
  clear H
  have p219 : 0 ≤ (x5_1 : Int) := of_decide_eq_true (by first | (with_reducible assumption) | assumption)
  have q219 : x5_1 < (l0.length : Int) := of_decide_eq_true (by first | (with_reducible assumption) | assumption)
  obtain ⟨ad219, e219, hx219_0⟩ := Kd.at_int HR0.out x5_1 p219 q219
  cases e219
  replace p219 := eq_true p219
  replace q219 := eq_true q219
  have p220 : 0 ≤ (x5_1 : Int) := of_decide_eq_true (by first | (with_reducible assumption) | assumption)
  have q220 : x5_1 < (l1.length : Int) := of_decide_eq_true (by first | (with_reducible assumption) | assumption)
  obtain ⟨ad220, e220, hx220_0⟩ := Kd.at_int HR1.out x5_1 p220 q220
  cases e220
  replace p220 := eq_true p220
  replace q220 := eq_true q220
  go_wp2
  repeat (go_quiet (fail); try go_wp2)
  go_roundg k1
  case measure => have := HK1.out; omega
  case rel => exact ⟨(wrap64 (x5_1 + 1)), (by first | rfl | (simp; done) | (simp [*]; done)), H', ⟨by have := HK1.out; omega⟩, by repeat (first | exact Drawn0.refl _ | apply Drawn0.step)⟩
mutual
def laganlaw04_wide.j0 : Nat → Bool → List Int → List (S50) → List (List Int) → Option (Bool)
 | 0, _, _, _, _ => none
 | k + 1, x19, x268000, x268001, x268002 => if x19 = true then (some false) else (laganlaw04_wide.l0 k 0 x268000 x268001 x268002)
def laganlaw04_wide.l0 : Nat → Int → List Int → List (S50) → List (List Int) → Option (Bool)
 | 0, _, _, _, _ => none
 | k + 1, x3, x268000, x268001, x268002 => if x3 < (x268002.length : Int) then (if 0 ≤ x3 then (if ((rd_L1 x268002 x3).length : Int) > 60 then (some false) else (laganlaw04_wide.l0 k (wrap64 (x3 + 1)) x268000 x268001 x268002)) else (none)) else (if (x268000.length : Int) ≤ 30 then (if (x268001.length : Int) ≤ 40 then (some true) else (if (x268000.length : Int) > 60 then (some true) else (some (decide ((x268001.length : Int) > 200))))) else (if (x268000.length : Int) > 60 then (some true) else (some (decide ((x268001.length : Int) > 200)))))
end
def laganlaw04_wide.f (k : Nat) (l0_0 : List Int) (l0_1 : List (S50)) (l0_2 : List (List Int)) : Option (Bool) := if (l0_0.length : Int) > 70 then (laganlaw04_wide.j0 k true l0_0 l0_1 l0_2) else (if (l0_1.length : Int) > 210 then (laganlaw04_wide.j0 k true l0_0 l0_1 l0_2) else (laganlaw04_wide.j0 k (decide ((l0_2.length : Int) > 70)) l0_0 l0_1 l0_2))
set_option maxHeartbeats 8000000 in
set_option maxRecDepth 100000 in
theorem laganlaw04_wide.calls (k : Nat) (A0_0 : Option Addr) (c0_0 : Nat) (l0_0 : List Int) (A0_1 : Option Addr) (c0_1 : Nat) (l0_1 : List (S50)) (A0_2 : Option Addr) (c0_2 : Nat) (l0_2 : List (List Int)) (r : Bool) (w : World) (hr0_0 : Kd.C (Kd.int .i64) w A0_0 l0_0.length l0_0) (hc0_0 : l0_0.length ≤ c0_0) (hr0_1 : Kd.C k50 w A0_1 l0_1.length l0_1) (hc0_1 : l0_1.length ≤ c0_1) (hr0_2 : Kd.C (Kd.slice 3 (Kd.int .i64)) w A0_2 l0_2.length l0_2) (hc0_2 : l0_2.length ≤ c0_2) (h : laganlaw04_wide.f k l0_0 l0_1 l0_2 = some r) :
  Calls Try.prog 25 #[.agg #[.slice A0_0 l0_0.length c0_0, .slice A0_1 l0_1.length c0_1, .slice A0_2 l0_2.length c0_2]] w fun e w' => e = .returned (.bool r) ∧ Below w.heap.size w w' := by
 have hu26 := Try.underlying26
 have HR0_0 := Aside0.mk hr0_0
 have HC0_0 := Aside0.mk hc0_0
 clear hr0_0 hc0_0
 have HR0_1 := Aside0.mk hr0_1
 have HC0_1 := Aside0.mk hc0_1
 clear hr0_1 hc0_1
 have HR0_2 := Aside0.mk hr0_2
 have HC0_2 := Aside0.mk hc0_2
 clear hr0_2 hc0_2
 have HB := Aside0.mk (Below.refl w.heap.size w)
 have H : (if (l0_0.length : Int) > 70 then (laganlaw04_wide.j0 k true l0_0 l0_1 l0_2) else (if (l0_1.length : Int) > 210 then (laganlaw04_wide.j0 k true l0_0 l0_1 l0_2) else (laganlaw04_wide.j0 k (decide ((l0_2.length : Int) > 70)) l0_0 l0_1 l0_2))) = some r := h
 clear h
 have HC2 := Aside0.mk H
 clear H
 go_enter Try.func25, Try.ntmps25
 go_upto_region 1 with (first | ((with_reducible refine gate_dst (N := 1) rfl ?_); (try (refine gate_guard (by rfl) ?_; dsimp only)); refine box_event ?hg (N := 1) ?hd (cs := #[.slice A0_0 l0_0.length c0_0, .slice A0_1 l0_1.length c0_1, .slice A0_2 l0_2.length c0_2]) (t := 26) ?hr ?_; (case hd => rfl); (case hg => rfl); (case hr => first | (go_simp; done) | (go_simp; rfl)); intro gb267 hg w3 hbox hb; have n0_ := Aside0.mk (below_step (by repeat (first | (with_reducible first | exact HB.out | apply below_alloc | apply pw_below_drewN | apply below_drew1) | exact HB.out)) hb); have n1_ := Aside0.mk (hbox); have n2_ := Aside0.mk ((by rw [hg]; exact (below_size (by repeat (first | (with_reducible first | exact HB.out | apply below_alloc | apply pw_below_drewN | apply below_drew1) | exact HB.out))) : w.heap.size ≤ gb267)); have n3_ := Aside0.mk ((by rw [hg]; exact (below_size (by repeat (first | (with_reducible first | exact HB.out | apply below_alloc | apply pw_below_drewN | apply below_drew1) | exact HB.out))) : w.heap.size ≤ gb267)); clear HB; have HB := n0_; have BK267 := n1_; have GW267 := n2_; have GE267 := n3_; clear n0_ n1_ n2_ n3_; clear hb hbox hg))
 (try simp only [Act.put, List.setIfInBounds_toArray, List.set_cons_zero, List.set_cons_succ])
 go_cut [19] (fun v19 wc => ∃ (kq : Nat) (x19_1 : Bool), v19 = .bool x19_1 ∧ Aside0 (laganlaw04_wide.j0 kq x19_1 l0_0 l0_1 l0_2 = some r) ∧ Aside0 (kq ≤ k) ∧ Aside0 (wc.heap[gb267]? = some (.cells #[(.slice A0_0 l0_0.length c0_0), (.slice A0_1 l0_1.length c0_1), (.slice A0_2 l0_2.length c0_2)] 26 (0, 0))) ∧ Aside0 (Below w.heap.size w wc))
 case first =>
  have H := HC2.out
  clear HC2
  by_cases c4 : (l0_0.length : Int) > 70
  ·
   rw [if_pos c4] at H
   have c4b0 : decide (70 < (l0_0.length : Int)) = true := decide_eq_true c4
   have c4b1 : decide (70 < l0_0.length) = true := decide_eq_true (by omega)
   clear c4
   (first | rw [c4b0] | (simp only [i64_w, i32_w]; rw [c4b0]) | skip)
   have H' := Aside0.mk H
   clear H
   have hcz5_0 : w3.cell? ⟨gb267, 0, none⟩ = some (.slice A0_0 l0_0.length c0_0) := (blk_cell BK267.out 0).trans rfl
   have hcz5_1 : w3.cell? ⟨gb267, 1, none⟩ = some (.slice A0_1 l0_1.length c0_1) := (blk_cell BK267.out 1).trans rfl
   have hcz5_2 : w3.cell? ⟨gb267, 2, none⟩ = some (.slice A0_2 l0_2.length c0_2) := (blk_cell BK267.out 2).trans rfl
   have hfz5_0 := blk_frozen BK267.out 0
   have hfz5_1 := blk_frozen BK267.out 1
   have hfz5_2 := blk_frozen BK267.out 2
   go_wp2
   go_meet
   case rel => exact ⟨_, (true), (by first | rfl | (simp; done) | (simp [*]; done)), H', ⟨by first | omega | exact Nat.le_refl _⟩, ⟨by (with_reducible repeat (first | refine blk_drewN ?_ _ | refine blk_drew ?_ | refine blk_alloc ?_ _)); exact BK267.out⟩, ⟨by repeat (first | (with_reducible first | exact HB.out | apply below_alloc | apply pw_below_drewN | apply below_drew1 | refine below_set ?_ GE267.out) | exact HB.out)⟩⟩
  rw [if_neg c4] at H
  have c4b0 : decide (70 < (l0_0.length : Int)) = false := decide_eq_false c4
  have c4b1 : decide (70 < l0_0.length) = false := decide_eq_false (by omega)
  clear c4
  (first | rw [c4b0] | (simp only [i64_w, i32_w]; rw [c4b0]) | skip)
  by_cases c6 : (l0_1.length : Int) > 210
  ·
   rw [if_pos c6] at H
   have c6b0 : decide (210 < (l0_1.length : Int)) = true := decide_eq_true c6
   have c6b1 : decide (210 < l0_1.length) = true := decide_eq_true (by omega)
   clear c6
   have H' := Aside0.mk H
   clear H
   have hcz7_0 : w3.cell? ⟨gb267, 0, none⟩ = some (.slice A0_0 l0_0.length c0_0) := (blk_cell BK267.out 0).trans rfl
   have hcz7_1 : w3.cell? ⟨gb267, 1, none⟩ = some (.slice A0_1 l0_1.length c0_1) := (blk_cell BK267.out 1).trans rfl
   have hcz7_2 : w3.cell? ⟨gb267, 2, none⟩ = some (.slice A0_2 l0_2.length c0_2) := (blk_cell BK267.out 2).trans rfl
   have hfz7_0 := blk_frozen BK267.out 0
   have hfz7_1 := blk_frozen BK267.out 1
   have hfz7_2 := blk_frozen BK267.out 2
   go_wp2
   go_meet
   case rel => exact ⟨_, (true), (by first | rfl | (simp; done) | (simp [*]; done)), H', ⟨by first | omega | exact Nat.le_refl _⟩, ⟨by (with_reducible repeat (first | refine blk_drewN ?_ _ | refine blk_drew ?_ | refine blk_alloc ?_ _)); exact BK267.out⟩, ⟨by repeat (first | (with_reducible first | exact HB.out | apply below_alloc | apply pw_below_drewN | apply below_drew1 | refine below_set ?_ GE267.out) | exact HB.out)⟩⟩
  rw [if_neg c6] at H
  have c6b0 : decide (210 < (l0_1.length : Int)) = false := decide_eq_false c6
  have c6b1 : decide (210 < l0_1.length) = false := decide_eq_false (by omega)
  clear c6
  have H' := Aside0.mk H
  clear H
  have hcz8_0 : w3.cell? ⟨gb267, 0, none⟩ = some (.slice A0_0 l0_0.length c0_0) := (blk_cell BK267.out 0).trans rfl
  have hcz8_1 : w3.cell? ⟨gb267, 1, none⟩ = some (.slice A0_1 l0_1.length c0_1) := (blk_cell BK267.out 1).trans rfl
  have hcz8_2 : w3.cell? ⟨gb267, 2, none⟩ = some (.slice A0_2 l0_2.length c0_2) := (blk_cell BK267.out 2).trans rfl
  have hfz8_0 := blk_frozen BK267.out 0
  have hfz8_1 := blk_frozen BK267.out 1
  have hfz8_2 := blk_frozen BK267.out 2
  go_wp2
  go_meet
  case rel => exact ⟨_, (decide ((l0_2.length : Int) > 70)), (by first | rfl | (simp; done) | (simp [*]; done)), H', ⟨by first | omega | exact Nat.le_refl _⟩, ⟨by (with_reducible repeat (first | refine blk_drewN ?_ _ | refine blk_drew ?_ | refine blk_alloc ?_ _)); exact BK267.out⟩, ⟨by repeat (first | (with_reducible first | exact HB.out | apply below_alloc | apply pw_below_drewN | apply below_drew1 | refine below_set ?_ GE267.out) | exact HB.out)⟩⟩
 case rest =>
  clear HC2
  try clear c2
  try clear p2
  try clear c4
  try clear c4b0
  try clear c4b1
  try clear c6
  try clear c6b0
  try clear c6b1
  try clear hcz5_0
  try clear hcz5_1
  try clear hcz5_2
  try clear hcz7_0
  try clear hcz7_1
  try clear hcz7_2
  try clear hcz8_0
  try clear hcz8_1
  try clear hcz8_2
  try clear hfz5_0
  try clear hfz5_1
  try clear hfz5_2
  try clear hfz7_0
  try clear hfz7_1
  try clear hfz7_2
  try clear hfz8_0
  try clear hfz8_1
  try clear hfz8_2
  obtain ⟨kq, x19_1, rfl, HA, HJ1, BK267, HB⟩ := hcut
  cases kq with
  | zero => exact absurd HA.out (by simp [laganlaw04_wide.j0])
  | succ kj1 =>
   have H := HA.out
   clear HA
   simp only [laganlaw04_wide.j0] at H
   by_cases c9 : x19_1 = true
   ·
    subst c9
    have H1 : (some false) = some r := by rw [if_pos rfl] at H; exact H
    clear H
    have H := H1
    clear H1
    obtain rfl := Option.some.inj H
    go_wp2
    go_ret
    exact ⟨by first | rfl | (simp [errW_none, errW_some] <;> rfl) | (simp [*, errW_none, errW_some] <;> rfl), by repeat (first | (with_reducible first | exact HB.out | apply below_alloc | apply pw_below_drewN | apply below_drew1 | refine below_set ?_ GE267.out) | exact HB.out)⟩
   replace c9 := Bool.eq_false_iff.mpr c9
   subst c9
   have H1 : (laganlaw04_wide.l0 kj1 0 l0_0 l0_1 l0_2) = some r := by rw [if_neg (show ¬ (false = true) by decide)] at H; exact H
   clear H
   have H := H1
   clear H1
   have H' := Aside0.mk H
   clear H
   go_wp2
   go_loopg [3] kj1 (fun kq v3 w' => ∃ (x3_2 : Int), v3 = .int .i64 x3_2 ∧ Aside0 (laganlaw04_wide.l0 kq x3_2 l0_0 l0_1 l0_2 = some r) ∧ Aside0 (kq ≤ kj1) ∧ Aside0 (w'.heap[gb267]? = some (.cells #[(.slice A0_0 l0_0.length c0_0), (.slice A0_1 l0_1.length c0_1), (.slice A0_2 l0_2.length c0_2)] 26 (0, 0))) ∧ Aside0 (Below w.heap.size w w'))
   case atStart => exact ⟨(0), (by first | rfl | (simp; done) | (simp [*]; done)), H', ⟨Nat.le_refl _⟩, ⟨by (with_reducible repeat (first | refine blk_drewN ?_ _ | refine blk_drew ?_ | refine blk_alloc ?_ _)); exact BK267.out⟩, ⟨by repeat (first | (with_reducible first | exact HB.out | apply below_alloc | apply pw_below_drewN | apply below_drew1 | refine below_set ?_ GE267.out) | exact HB.out)⟩⟩
   clear H'
   try clear c2
   try clear p2
   try clear c4
   try clear c4b0
   try clear c4b1
   try clear c6
   try clear c6b0
   try clear c6b1
   try clear c9
   try clear hcz5_0
   try clear hcz5_1
   try clear hcz5_2
   try clear hcz7_0
   try clear hcz7_1
   try clear hcz7_2
   try clear hcz8_0
   try clear hcz8_1
   try clear hcz8_2
   try clear hfz5_0
   try clear hfz5_1
   try clear hfz5_2
   try clear hfz7_0
   try clear hfz7_1
   try clear hfz7_2
   try clear hfz8_0
   try clear hfz8_1
   try clear hfz8_2
   try clear p2
   obtain ⟨x3_2, rfl, HA, HK2, BK267, HB⟩ := hrel
   cases gk with
   | zero => exact absurd HA.out (by simp [laganlaw04_wide.l0])
   | succ k2 =>
    have H := HA.out
    clear HA
    simp only [laganlaw04_wide.l0] at H
    by_cases c10 : x3_2 < (l0_2.length : Int)
    ·
     rw [if_pos c10] at H
     have c10b0 : decide (x3_2 < (l0_2.length : Int)) = true := decide_eq_true c10
     clear c10
     by_cases c11 : 0 ≤ x3_2
     rotate_left
     ·
      rw [if_neg c11] at H
      exact absurd H (by simp)
     rw [if_pos c11] at H
     have c11b0 : decide (0 ≤ x3_2) = true := decide_eq_true c11
     clear c11
     by_cases c12 : ((rd_L1 l0_2 x3_2).length : Int) > 60
     ·
      rw [if_pos c12] at H
      have c12b0 : decide (60 < ((rd_L1 l0_2 x3_2).length : Int)) = true := decide_eq_true c12
      have c12b1 : decide (60 < (rd_L1 l0_2 x3_2).length) = true := decide_eq_true (by omega)
      clear c12
      obtain rfl := Option.some.inj H
      have hcz13_0 : wr.cell? ⟨gb267, 0, none⟩ = some (.slice A0_0 l0_0.length c0_0) := (blk_cell BK267.out 0).trans rfl
      have hcz13_1 : wr.cell? ⟨gb267, 1, none⟩ = some (.slice A0_1 l0_1.length c0_1) := (blk_cell BK267.out 1).trans rfl
      have hcz13_2 : wr.cell? ⟨gb267, 2, none⟩ = some (.slice A0_2 l0_2.length c0_2) := (blk_cell BK267.out 2).trans rfl
      have hfz13_0 := blk_frozen BK267.out 0
      have hfz13_1 := blk_frozen BK267.out 1
      have hfz13_2 := blk_frozen BK267.out 2
      have p268 : 0 ≤ (x3_2 : Int) := of_decide_eq_true (by first | (with_reducible assumption) | assumption)
      have q268 : x3_2 < (l0_2.length : Int) := of_decide_eq_true (by first | (with_reducible assumption) | assumption)
      obtain ⟨ad268, A268_0, c268_0, e268, hx268_0, hl268_0, hi268_0⟩ := at_L1 HR0_2.out x3_2 p268 q268
      cases e268
      replace hx268_0 := (HB.out.cell (World.block_lt_of_cell? w _ hx268_0)).trans hx268_0
      have HR268_0 := Aside0.mk hi268_0
      have HC268_0 := Aside0.mk hl268_0
      clear hi268_0 hl268_0
      replace p268 := eq_true p268
      replace q268 := eq_true q268
      go_wp2
      go_ret
      exact ⟨by first | rfl | (simp [errW_none, errW_some] <;> rfl) | (simp [*, errW_none, errW_some] <;> rfl), by repeat (first | (with_reducible first | exact HB.out | apply below_alloc | apply pw_below_drewN | apply below_drew1 | refine below_set ?_ GE267.out) | exact HB.out)⟩
     rw [if_neg c12] at H
     have c12b0 : decide (60 < ((rd_L1 l0_2 x3_2).length : Int)) = false := decide_eq_false c12
     have c12b1 : decide (60 < (rd_L1 l0_2 x3_2).length) = false := decide_eq_false (by omega)
     clear c12
     have H' := Aside0.mk H
     clear H
     have hcz14_0 : wr.cell? ⟨gb267, 0, none⟩ = some (.slice A0_0 l0_0.length c0_0) := (blk_cell BK267.out 0).trans rfl
     have hcz14_1 : wr.cell? ⟨gb267, 1, none⟩ = some (.slice A0_1 l0_1.length c0_1) := (blk_cell BK267.out 1).trans rfl
     have hcz14_2 : wr.cell? ⟨gb267, 2, none⟩ = some (.slice A0_2 l0_2.length c0_2) := (blk_cell BK267.out 2).trans rfl
     have hfz14_0 := blk_frozen BK267.out 0
     have hfz14_1 := blk_frozen BK267.out 1
     have hfz14_2 := blk_frozen BK267.out 2
     have p268 : 0 ≤ (x3_2 : Int) := of_decide_eq_true (by first | (with_reducible assumption) | assumption)
     have q268 : x3_2 < (l0_2.length : Int) := of_decide_eq_true (by first | (with_reducible assumption) | assumption)
     obtain ⟨ad268, A268_0, c268_0, e268, hx268_0, hl268_0, hi268_0⟩ := at_L1 HR0_2.out x3_2 p268 q268
     cases e268
     replace hx268_0 := (HB.out.cell (World.block_lt_of_cell? w _ hx268_0)).trans hx268_0
     have HR268_0 := Aside0.mk hi268_0
     have HC268_0 := Aside0.mk hl268_0
     clear hi268_0 hl268_0
     replace p268 := eq_true p268
     replace q268 := eq_true q268
     go_wp2
     go_roundg k2
     case measure => have := HJ1.out; have := HK2.out; omega
     case rel => exact ⟨(wrap64 (x3_2 + 1)), (by first | rfl | (simp; done) | (simp [*]; done)), H', ⟨by have := HJ1.out; have := HK2.out; omega⟩, ⟨by (with_reducible repeat (first | refine blk_drewN ?_ _ | refine blk_drew ?_ | refine blk_alloc ?_ _)); exact BK267.out⟩, ⟨by repeat (first | (with_reducible first | exact HB.out | apply below_alloc | apply pw_below_drewN | apply below_drew1 | refine below_set ?_ GE267.out) | exact HB.out)⟩⟩
    rw [if_neg c10] at H
    have c10b0 : decide (x3_2 < (l0_2.length : Int)) = false := decide_eq_false c10
    clear c10
    by_cases c15 : (l0_0.length : Int) ≤ 30
    rotate_left
    ·
     rw [if_neg c15] at H
     have c15b0 : decide ((l0_0.length : Int) ≤ 30) = false := decide_eq_false c15
     have c15b1 : decide (l0_0.length ≤ 30) = false := decide_eq_false (by omega)
     clear c15
     by_cases c21 : (l0_0.length : Int) > 60
     ·
      rw [if_pos c21] at H
      have c21b0 : decide (60 < (l0_0.length : Int)) = true := decide_eq_true c21
      have c21b1 : decide (60 < l0_0.length) = true := decide_eq_true (by omega)
      clear c21
      obtain rfl := Option.some.inj H
      have hcz22_0 : wr.cell? ⟨gb267, 0, none⟩ = some (.slice A0_0 l0_0.length c0_0) := (blk_cell BK267.out 0).trans rfl
      have hcz22_1 : wr.cell? ⟨gb267, 1, none⟩ = some (.slice A0_1 l0_1.length c0_1) := (blk_cell BK267.out 1).trans rfl
      have hcz22_2 : wr.cell? ⟨gb267, 2, none⟩ = some (.slice A0_2 l0_2.length c0_2) := (blk_cell BK267.out 2).trans rfl
      have hfz22_0 := blk_frozen BK267.out 0
      have hfz22_1 := blk_frozen BK267.out 1
      have hfz22_2 := blk_frozen BK267.out 2
      go_wp2
      go_ret
      exact ⟨by first | rfl | (simp [errW_none, errW_some] <;> rfl) | (simp [*, errW_none, errW_some] <;> rfl), by repeat (first | (with_reducible first | exact HB.out | apply below_alloc | apply pw_below_drewN | apply below_drew1 | refine below_set ?_ GE267.out) | exact HB.out)⟩
     rw [if_neg c21] at H
     have c21b0 : decide (60 < (l0_0.length : Int)) = false := decide_eq_false c21
     have c21b1 : decide (60 < l0_0.length) = false := decide_eq_false (by omega)
     clear c21
     obtain rfl := Option.some.inj H
     have hcz23_0 : wr.cell? ⟨gb267, 0, none⟩ = some (.slice A0_0 l0_0.length c0_0) := (blk_cell BK267.out 0).trans rfl
     have hcz23_1 : wr.cell? ⟨gb267, 1, none⟩ = some (.slice A0_1 l0_1.length c0_1) := (blk_cell BK267.out 1).trans rfl
     have hcz23_2 : wr.cell? ⟨gb267, 2, none⟩ = some (.slice A0_2 l0_2.length c0_2) := (blk_cell BK267.out 2).trans rfl
     have hfz23_0 := blk_frozen BK267.out 0
     have hfz23_1 := blk_frozen BK267.out 1
     have hfz23_2 := blk_frozen BK267.out 2
     go_wp2
     go_ret
     exact ⟨by first | rfl | (simp [errW_none, errW_some] <;> rfl) | (simp [*, errW_none, errW_some] <;> rfl), by repeat (first | (with_reducible first | exact HB.out | apply below_alloc | apply pw_below_drewN | apply below_drew1 | refine below_set ?_ GE267.out) | exact HB.out)⟩
    rw [if_pos c15] at H
    have c15b0 : decide ((l0_0.length : Int) ≤ 30) = true := decide_eq_true c15
    have c15b1 : decide (l0_0.length ≤ 30) = true := decide_eq_true (by omega)
    clear c15
    by_cases c16 : (l0_1.length : Int) ≤ 40
    ·
     rw [if_pos c16] at H
     have c16b0 : decide ((l0_1.length : Int) ≤ 40) = true := decide_eq_true c16
     have c16b1 : decide (l0_1.length ≤ 40) = true := decide_eq_true (by omega)
     clear c16
     obtain rfl := Option.some.inj H
     have hcz17_0 : wr.cell? ⟨gb267, 0, none⟩ = some (.slice A0_0 l0_0.length c0_0) := (blk_cell BK267.out 0).trans rfl
     have hcz17_1 : wr.cell? ⟨gb267, 1, none⟩ = some (.slice A0_1 l0_1.length c0_1) := (blk_cell BK267.out 1).trans rfl
     have hcz17_2 : wr.cell? ⟨gb267, 2, none⟩ = some (.slice A0_2 l0_2.length c0_2) := (blk_cell BK267.out 2).trans rfl
     have hfz17_0 := blk_frozen BK267.out 0
     have hfz17_1 := blk_frozen BK267.out 1
     have hfz17_2 := blk_frozen BK267.out 2
     go_wp2
     go_ret
     exact ⟨by first | rfl | (simp [errW_none, errW_some] <;> rfl) | (simp [*, errW_none, errW_some] <;> rfl), by repeat (first | (with_reducible first | exact HB.out | apply below_alloc | apply pw_below_drewN | apply below_drew1 | refine below_set ?_ GE267.out) | exact HB.out)⟩
    rw [if_neg c16] at H
    have c16b0 : decide ((l0_1.length : Int) ≤ 40) = false := decide_eq_false c16
    have c16b1 : decide (l0_1.length ≤ 40) = false := decide_eq_false (by omega)
    clear c16
    by_cases c18 : (l0_0.length : Int) > 60
    ·
     rw [if_pos c18] at H
     have c18b0 : decide (60 < (l0_0.length : Int)) = true := decide_eq_true c18
     have c18b1 : decide (60 < l0_0.length) = true := decide_eq_true (by omega)
     clear c18
     obtain rfl := Option.some.inj H
     have hcz19_0 : wr.cell? ⟨gb267, 0, none⟩ = some (.slice A0_0 l0_0.length c0_0) := (blk_cell BK267.out 0).trans rfl
     have hcz19_1 : wr.cell? ⟨gb267, 1, none⟩ = some (.slice A0_1 l0_1.length c0_1) := (blk_cell BK267.out 1).trans rfl
     have hcz19_2 : wr.cell? ⟨gb267, 2, none⟩ = some (.slice A0_2 l0_2.length c0_2) := (blk_cell BK267.out 2).trans rfl
     have hfz19_0 := blk_frozen BK267.out 0
     have hfz19_1 := blk_frozen BK267.out 1
     have hfz19_2 := blk_frozen BK267.out 2
     go_wp2
     go_ret
     exact ⟨by first | rfl | (simp [errW_none, errW_some] <;> rfl) | (simp [*, errW_none, errW_some] <;> rfl), by repeat (first | (with_reducible first | exact HB.out | apply below_alloc | apply pw_below_drewN | apply below_drew1 | refine below_set ?_ GE267.out) | exact HB.out)⟩
    rw [if_neg c18] at H
    have c18b0 : decide (60 < (l0_0.length : Int)) = false := decide_eq_false c18
    have c18b1 : decide (60 < l0_0.length) = false := decide_eq_false (by omega)
    clear c18
    obtain rfl := Option.some.inj H
    have hcz20_0 : wr.cell? ⟨gb267, 0, none⟩ = some (.slice A0_0 l0_0.length c0_0) := (blk_cell BK267.out 0).trans rfl
    have hcz20_1 : wr.cell? ⟨gb267, 1, none⟩ = some (.slice A0_1 l0_1.length c0_1) := (blk_cell BK267.out 1).trans rfl
    have hcz20_2 : wr.cell? ⟨gb267, 2, none⟩ = some (.slice A0_2 l0_2.length c0_2) := (blk_cell BK267.out 2).trans rfl
    have hfz20_0 := blk_frozen BK267.out 0
    have hfz20_1 := blk_frozen BK267.out 1
    have hfz20_2 := blk_frozen BK267.out 2
    go_wp2
    go_ret
    exact ⟨by first | rfl | (simp [errW_none, errW_some] <;> rfl) | (simp [*, errW_none, errW_some] <;> rfl), by repeat (first | (with_reducible first | exact HB.out | apply below_alloc | apply pw_below_drewN | apply below_drew1 | refine below_set ?_ GE267.out) | exact HB.out)⟩
def laganref04_Has.l0 : Nat → List Int → Int → Int → Option (Bool)
 | 0, _, _, _ => none
 | k + 1, x0, x1, x5 => if x5 < (x0.length : Int) then (if 0 ≤ x5 then (if (rd x0 x5) = x1 then (some true) else (laganref04_Has.l0 k x0 x1 (wrap64 (x5 + 1)))) else (none)) else (some false)
def laganref04_Has.f (k : Nat) (l0 : List Int) (a1 : Int) : Option (Bool) := laganref04_Has.l0 k l0 a1 0
set_option maxHeartbeats 8000000 in
set_option maxRecDepth 100000 in
theorem laganref04_Has.calls (k : Nat) (A0 : Option Addr) (c0 : Nat) (l0 : List Int) (a1 : Int) (r : Bool) (w : World) (hr0 : Kd.C (Kd.int .i64) w A0 l0.length l0) (hc0 : l0.length ≤ c0) (h : laganref04_Has.f k l0 a1 = some r) :
  Calls Try.prog 33 #[.slice A0 l0.length c0, .int .i64 a1] w fun e w' => e = .returned (.bool r) ∧ Drawn0 w w' := by
 have HR0 := Aside0.mk hr0
 have HC0 := Aside0.mk hc0
 clear hr0 hc0
 have H : (laganref04_Has.l0 k l0 a1 0) = some r := h
 clear h
 have H' := Aside0.mk H
 clear H
 go_enter Try.func33, Try.ntmps33
 go_wp2
 go_loopg [5] k (fun kq v5 w' => ∃ (x5_1 : Int), v5 = .int .i64 x5_1 ∧ Aside0 (laganref04_Has.l0 kq l0 a1 x5_1 = some r) ∧ Aside0 (kq ≤ k) ∧ Drawn0 w w')
 case atStart => exact ⟨(0), (by first | rfl | (simp; done) | (simp [*]; done)), H', ⟨Nat.le_refl _⟩, by repeat (first | exact Drawn0.refl _ | apply Drawn0.step)⟩
 clear H'
 try clear p2
 obtain ⟨x5_1, rfl, HA, HK1, ⟨m1, rfl⟩⟩ := hrel
 cases gk with
 | zero => exact absurd HA.out (by simp [laganref04_Has.l0])
 | succ k1 =>
  have H := HA.out
  clear HA
  simp only [laganref04_Has.l0] at H
  by_cases c3 : x5_1 < (l0.length : Int)
  rotate_left
  ·
   rw [if_neg c3] at H
   have c3b0 : decide (x5_1 < (l0.length : Int)) = false := decide_eq_false c3
   clear c3
   obtain rfl := Option.some.inj H
   go_wp2
   go_ret
   exact ⟨by first | rfl | (simp; done) | (simp [*]; done), by repeat (first | exact Drawn0.refl _ | apply Drawn0.step)⟩
  rw [if_pos c3] at H
  have c3b0 : decide (x5_1 < (l0.length : Int)) = true := decide_eq_true c3
  clear c3
  by_cases c4 : 0 ≤ x5_1
  rotate_left
  ·
   rw [if_neg c4] at H
   exact absurd H (by simp)
  rw [if_pos c4] at H
  have c4b0 : decide (0 ≤ x5_1) = true := decide_eq_true c4
  clear c4
  by_cases c5 : (rd l0 x5_1) = a1
  ·
   rw [if_pos c5] at H
   have c5b0 : ((rd l0 x5_1) == a1) = true := beq_iff_eq.mpr c5
   have c5b1 : ((rd l0 x5_1) != a1) = false := bne_eq_false_iff_eq.mpr c5
   clear c5
   obtain rfl := Option.some.inj H
   have p294 : 0 ≤ (x5_1 : Int) := of_decide_eq_true (by first | (with_reducible assumption) | assumption)
   have q294 : x5_1 < (l0.length : Int) := of_decide_eq_true (by first | (with_reducible assumption) | assumption)
   obtain ⟨ad294, e294, hx294_0⟩ := Kd.at_int HR0.out x5_1 p294 q294
   cases e294
   replace p294 := eq_true p294
   replace q294 := eq_true q294
   go_wp2
   go_ret
   exact ⟨by first | rfl | (simp; done) | (simp [*]; done), by repeat (first | exact Drawn0.refl _ | apply Drawn0.step)⟩
  rw [if_neg c5] at H
  have c5b0 : ((rd l0 x5_1) == a1) = false := beq_eq_false_iff_ne.mpr c5
  have c5b1 : ((rd l0 x5_1) != a1) = true := bne_iff_ne.mpr c5
  have H' := Aside0.mk H
  clear H
  have p294 : 0 ≤ (x5_1 : Int) := of_decide_eq_true (by first | (with_reducible assumption) | assumption)
  have q294 : x5_1 < (l0.length : Int) := of_decide_eq_true (by first | (with_reducible assumption) | assumption)
  obtain ⟨ad294, e294, hx294_0⟩ := Kd.at_int HR0.out x5_1 p294 q294
  cases e294
  replace p294 := eq_true p294
  replace q294 := eq_true q294
  go_wp2
  go_roundg k1
  case measure => have := HK1.out; omega
  case rel => exact ⟨(wrap64 (x5_1 + 1)), (by first | rfl | (simp; done) | (simp [*]; done)), H', ⟨by have := HK1.out; omega⟩, by repeat (first | exact Drawn0.refl _ | apply Drawn0.step)⟩
end Go.Proofs.Ytkmmihadcbfkoaa.PM
end

section
namespace Go.Proofs.Ytkmmihadcbfkoaa.PM
open Go.RowKit Go.Proofs.YtkmmihadcbfkoaaW.PrintWords Go.Proofs.YtkmmihadcbfkoaaW.PrintLast Go.Proofs.YtkmmihadcbfkoaaW.PrintMore
set_option linter.unusedVariables false
set_option linter.unusedSimpArgs false
mutual
def laganref04_CheckBoard.j0 : Nat → Bool → List Int → List (S50) → List (List Int) → Option (Int)
 | 0, _, _, _, _ => none
 | k + 1, x16, x133000, x133001, x133002 => if x16 = true then (some 2) else (laganref04_CheckBoard.l0 k 0 x133000 x133001 x133002)
def laganref04_CheckBoard.l0 : Nat → Int → List Int → List (S50) → List (List Int) → Option (Int)
 | 0, _, _, _, _ => none
 | k + 1, x3, x133000, x133001, x133002 => if x3 < (x133000.length : Int) then (if 0 ≤ x3 then (if (rd x133000 x3) < 10 then (some 1) else (if (rd x133000 x3) > 10000007 then (some 1) else (if x3 > 0 then (if 0 ≤ (wrap64 (x3 - 1)) then (if (wrap64 (x3 - 1)) < (x133000.length : Int) then (if (rd x133000 x3) ≤ (rd x133000 (wrap64 (x3 - 1))) then (some 1) else (laganref04_CheckBoard.l0 k (wrap64 (x3 + 1)) x133000 x133001 x133002)) else (none)) else (none)) else (laganref04_CheckBoard.l0 k (wrap64 (x3 + 1)) x133000 x133001 x133002)))) else (none)) else (laganref04_CheckBoard.l1 k 0 x133000 x133001 x133002)
def laganref04_CheckBoard.l1 : Nat → Int → List Int → List (S50) → List (List Int) → Option (Int)
 | 0, _, _, _, _ => none
 | k + 1, x4, x133000, x133001, x133002 => if x4 < (x133001.length : Int) then (if 0 ≤ x4 then (if ((rd_T50 x133001 x4).f0) < 1 then (laganref04_CheckBoard.j3 k x4 true x133000 x133001 x133002 ((rd_T50 x133001 x4).f0) ((rd_T50 x133001 x4).f1) ((rd_T50 x133001 x4).f2)) else (if ((rd_T50 x133001 x4).f0) > 20 then (laganref04_CheckBoard.j3 k x4 true x133000 x133001 x133002 ((rd_T50 x133001 x4).f0) ((rd_T50 x133001 x4).f1) ((rd_T50 x133001 x4).f2)) else (if ((rd_T50 x133001 x4).f1) < 1 then (laganref04_CheckBoard.j3 k x4 true x133000 x133001 x133002 ((rd_T50 x133001 x4).f0) ((rd_T50 x133001 x4).f1) ((rd_T50 x133001 x4).f2)) else (if ((rd_T50 x133001 x4).f1) > 200 then (laganref04_CheckBoard.j3 k x4 true x133000 x133001 x133002 ((rd_T50 x133001 x4).f0) ((rd_T50 x133001 x4).f1) ((rd_T50 x133001 x4).f2)) else (if ((rd_T50 x133001 x4).f2) < 1 then (laganref04_CheckBoard.j3 k x4 true x133000 x133001 x133002 ((rd_T50 x133001 x4).f0) ((rd_T50 x133001 x4).f1) ((rd_T50 x133001 x4).f2)) else (laganref04_CheckBoard.j3 k x4 (decide (((rd_T50 x133001 x4).f2) > 20)) x133000 x133001 x133002 ((rd_T50 x133001 x4).f0) ((rd_T50 x133001 x4).f1) ((rd_T50 x133001 x4).f2))))))) else (none)) else (if (x133002.length : Int) = (x133000.length : Int) then (laganref04_CheckBoard.l2 k 0 x133000 x133001 x133002) else (some 1))
def laganref04_CheckBoard.j3 : Nat → Int → Bool → List Int → List (S50) → List (List Int) → Int → Int → Int → Option (Int)
 | 0, _, _, _, _, _, _, _, _ => none
 | k + 1, x4, x95, x133000, x133001, x133002, x139000, x139001, x139002 => if x95 = true then (some 1) else (if x4 > 0 then (if 0 ≤ (wrap64 (x4 - 1)) then (if (wrap64 (x4 - 1)) < (x133001.length : Int) then (if x139000 < ((rd_T50 x133001 (wrap64 (x4 - 1))).f0) then (some 1) else (if x139000 = ((rd_T50 x133001 (wrap64 (x4 - 1))).f0) then (if x139001 ≤ ((rd_T50 x133001 (wrap64 (x4 - 1))).f1) then (some 1) else (laganref04_CheckBoard.l1 k (wrap64 (x4 + 1)) x133000 x133001 x133002)) else (laganref04_CheckBoard.l1 k (wrap64 (x4 + 1)) x133000 x133001 x133002))) else (none)) else (none)) else (laganref04_CheckBoard.l1 k (wrap64 (x4 + 1)) x133000 x133001 x133002))
def laganref04_CheckBoard.l2 : Nat → Int → List Int → List (S50) → List (List Int) → Option (Int)
 | 0, _, _, _, _ => none
 | k + 1, x6, x133000, x133001, x133002 => if x6 < (x133002.length : Int) then (if 0 ≤ x6 then ((laganref04_ascending.f k (rd_L1 x133002 x6) (x133001.length : Int)).bind fun t143 => (if t143 = true then (laganref04_CheckBoard.l2 k (wrap64 (x6 + 1)) x133000 x133001 x133002) else (some 1))) else (none)) else (some 0)
end
def laganref04_CheckBoard.f (k : Nat) (l0_0 : List Int) (l0_1 : List (S50)) (l0_2 : List (List Int)) : Option (Int) := if (l0_0.length : Int) > 60 then (laganref04_CheckBoard.j0 k true l0_0 l0_1 l0_2) else (laganref04_CheckBoard.j0 k (decide ((l0_1.length : Int) > 200)) l0_0 l0_1 l0_2)
set_option maxHeartbeats 8000000 in
set_option maxRecDepth 100000 in
theorem laganref04_CheckBoard.calls (k : Nat) (A0_0 : Option Addr) (c0_0 : Nat) (l0_0 : List Int) (A0_1 : Option Addr) (c0_1 : Nat) (l0_1 : List (S50)) (A0_2 : Option Addr) (c0_2 : Nat) (l0_2 : List (List Int)) (r : Int) (w : World) (hr0_0 : Kd.C (Kd.int .i64) w A0_0 l0_0.length l0_0) (hc0_0 : l0_0.length ≤ c0_0) (hr0_1 : Kd.C k50 w A0_1 l0_1.length l0_1) (hc0_1 : l0_1.length ≤ c0_1) (hr0_2 : Kd.C (Kd.slice 3 (Kd.int .i64)) w A0_2 l0_2.length l0_2) (hc0_2 : l0_2.length ≤ c0_2) (h : laganref04_CheckBoard.f k l0_0 l0_1 l0_2 = some r) :
  Calls Try.prog 19 #[.agg #[.slice A0_0 l0_0.length c0_0, .slice A0_1 l0_1.length c0_1, .slice A0_2 l0_2.length c0_2]] w fun e w' => e = .returned (.int .i64 r) ∧ Below w.heap.size w w' := by
 have hu26 := Try.underlying26
 have hu50 := Try.underlying50
 have HR0_0 := Aside0.mk hr0_0
 have HC0_0 := Aside0.mk hc0_0
 clear hr0_0 hc0_0
 have HR0_1 := Aside0.mk hr0_1
 have HC0_1 := Aside0.mk hc0_1
 clear hr0_1 hc0_1
 have HR0_2 := Aside0.mk hr0_2
 have HC0_2 := Aside0.mk hc0_2
 clear hr0_2 hc0_2
 have HB := Aside0.mk (Below.refl w.heap.size w)
 have H : (if (l0_0.length : Int) > 60 then (laganref04_CheckBoard.j0 k true l0_0 l0_1 l0_2) else (laganref04_CheckBoard.j0 k (decide ((l0_1.length : Int) > 200)) l0_0 l0_1 l0_2)) = some r := h
 clear h
 have HC2 := Aside0.mk H
 clear H
 go_enter Try.func19, Try.ntmps19
 go_upto_region 1 with (first | ((with_reducible refine gate_dst (N := 1) rfl ?_); (try (refine gate_guard (by rfl) ?_; dsimp only)); refine box_event ?hg (N := 1) ?hd (cs := #[.slice A0_0 l0_0.length c0_0, .slice A0_1 l0_1.length c0_1, .slice A0_2 l0_2.length c0_2]) (t := 26) ?hr ?_; (case hd => rfl); (case hg => rfl); (case hr => first | (go_simp; done) | (go_simp; rfl)); intro gb132 hg w3 hbox hb; have n0_ := Aside0.mk (below_step (by repeat (first | (with_reducible first | exact HB.out | apply below_alloc | apply pw_below_drewN | apply below_drew1) | exact HB.out)) hb); have n1_ := Aside0.mk (hbox); have n2_ := Aside0.mk ((by rw [hg]; exact (below_size (by repeat (first | (with_reducible first | exact HB.out | apply below_alloc | apply pw_below_drewN | apply below_drew1) | exact HB.out))) : w.heap.size ≤ gb132)); have n3_ := Aside0.mk ((by rw [hg]; exact (below_size (by repeat (first | (with_reducible first | exact HB.out | apply below_alloc | apply pw_below_drewN | apply below_drew1) | exact HB.out))) : w.heap.size ≤ gb132)); clear HB; have HB := n0_; have BK132 := n1_; have GW132 := n2_; have GE132 := n3_; clear n0_ n1_ n2_ n3_; clear hb hbox hg))
 repeat (go_quiet (first | ((with_reducible refine gate_dst (N := 1) rfl ?_); (try (refine gate_guard (by rfl) ?_; dsimp only)); refine box_event ?hg (N := 1) ?hd (cs := #[.slice A0_0 l0_0.length c0_0, .slice A0_1 l0_1.length c0_1, .slice A0_2 l0_2.length c0_2]) (t := 26) ?hr ?_; (case hd => rfl); (case hg => rfl); (case hr => first | (go_simp; done) | (go_simp; rfl)); intro gb132 hg w3 hbox hb; have n0_ := Aside0.mk (below_step (by repeat (first | (with_reducible first | exact HB.out | apply below_alloc | apply pw_below_drewN | apply below_drew1) | exact HB.out)) hb); have n1_ := Aside0.mk (hbox); have n2_ := Aside0.mk ((by rw [hg]; exact (below_size (by repeat (first | (with_reducible first | exact HB.out | apply below_alloc | apply pw_below_drewN | apply below_drew1) | exact HB.out))) : w.heap.size ≤ gb132)); have n3_ := Aside0.mk ((by rw [hg]; exact (below_size (by repeat (first | (with_reducible first | exact HB.out | apply below_alloc | apply pw_below_drewN | apply below_drew1) | exact HB.out))) : w.heap.size ≤ gb132)); clear HB; have HB := n0_; have BK132 := n1_; have GW132 := n2_; have GE132 := n3_; clear n0_ n1_ n2_ n3_; clear hb hbox hg)); go_upto_region 1 with (first | ((with_reducible refine gate_dst (N := 1) rfl ?_); (try (refine gate_guard (by rfl) ?_; dsimp only)); refine box_event ?hg (N := 1) ?hd (cs := #[.slice A0_0 l0_0.length c0_0, .slice A0_1 l0_1.length c0_1, .slice A0_2 l0_2.length c0_2]) (t := 26) ?hr ?_; (case hd => rfl); (case hg => rfl); (case hr => first | (go_simp; done) | (go_simp; rfl)); intro gb132 hg w3 hbox hb; have n0_ := Aside0.mk (below_step (by repeat (first | (with_reducible first | exact HB.out | apply below_alloc | apply pw_below_drewN | apply below_drew1) | exact HB.out)) hb); have n1_ := Aside0.mk (hbox); have n2_ := Aside0.mk ((by rw [hg]; exact (below_size (by repeat (first | (with_reducible first | exact HB.out | apply below_alloc | apply pw_below_drewN | apply below_drew1) | exact HB.out))) : w.heap.size ≤ gb132)); have n3_ := Aside0.mk ((by rw [hg]; exact (below_size (by repeat (first | (with_reducible first | exact HB.out | apply below_alloc | apply pw_below_drewN | apply below_drew1) | exact HB.out))) : w.heap.size ≤ gb132)); clear HB; have HB := n0_; have BK132 := n1_; have GW132 := n2_; have GE132 := n3_; clear n0_ n1_ n2_ n3_; clear hb hbox hg)))
 (try simp only [Act.put, List.setIfInBounds_toArray, List.set_cons_zero, List.set_cons_succ])
 go_cut [16] (fun v16 wc => ∃ (kq : Nat) (x16_1 : Bool), v16 = .bool x16_1 ∧ Aside0 (laganref04_CheckBoard.j0 kq x16_1 l0_0 l0_1 l0_2 = some r) ∧ Aside0 (kq ≤ k) ∧ Aside0 (wc.heap[gb132]? = some (.cells #[(.slice A0_0 l0_0.length c0_0), (.slice A0_1 l0_1.length c0_1), (.slice A0_2 l0_2.length c0_2)] 26 (0, 0))) ∧ Aside0 (Below w.heap.size w wc))
 case first =>
  have H := HC2.out
  clear HC2
  by_cases c4 : (l0_0.length : Int) > 60
  ·
   rw [if_pos c4] at H
   have c4b0 : decide (60 < (l0_0.length : Int)) = true := decide_eq_true c4
   have c4b1 : decide (60 < l0_0.length) = true := decide_eq_true (by omega)
   clear c4
   (first | rw [c4b0] | (simp only [i64_w, i32_w]; rw [c4b0]) | skip)
   have H' := Aside0.mk H
   clear H
   have hcz5_0 : w3.cell? ⟨gb132, 0, none⟩ = some (.slice A0_0 l0_0.length c0_0) := (blk_cell BK132.out 0).trans rfl
   have hcz5_1 : w3.cell? ⟨gb132, 1, none⟩ = some (.slice A0_1 l0_1.length c0_1) := (blk_cell BK132.out 1).trans rfl
   have hcz5_2 : w3.cell? ⟨gb132, 2, none⟩ = some (.slice A0_2 l0_2.length c0_2) := (blk_cell BK132.out 2).trans rfl
   have hfz5_0 := blk_frozen BK132.out 0
   have hfz5_1 := blk_frozen BK132.out 1
   have hfz5_2 := blk_frozen BK132.out 2
   go_wp2
   repeat (go_quiet (fail); try go_wp2)
   go_meet
   case rel => exact ⟨_, (true), (by first | rfl | (simp; done) | (simp [*]; done)), H', ⟨by first | omega | exact Nat.le_refl _⟩, ⟨by (with_reducible repeat (first | refine blk_drewN ?_ _ | refine blk_drew ?_ | refine blk_alloc ?_ _)); exact BK132.out⟩, ⟨by repeat (first | (with_reducible first | exact HB.out | apply below_alloc | apply pw_below_drewN | apply below_drew1 | refine below_set ?_ GE132.out) | exact HB.out)⟩⟩
  rw [if_neg c4] at H
  have c4b0 : decide (60 < (l0_0.length : Int)) = false := decide_eq_false c4
  have c4b1 : decide (60 < l0_0.length) = false := decide_eq_false (by omega)
  clear c4
  (first | rw [c4b0] | (simp only [i64_w, i32_w]; rw [c4b0]) | skip)
  have H' := Aside0.mk H
  clear H
  have hcz6_0 : w3.cell? ⟨gb132, 0, none⟩ = some (.slice A0_0 l0_0.length c0_0) := (blk_cell BK132.out 0).trans rfl
  have hcz6_1 : w3.cell? ⟨gb132, 1, none⟩ = some (.slice A0_1 l0_1.length c0_1) := (blk_cell BK132.out 1).trans rfl
  have hcz6_2 : w3.cell? ⟨gb132, 2, none⟩ = some (.slice A0_2 l0_2.length c0_2) := (blk_cell BK132.out 2).trans rfl
  have hfz6_0 := blk_frozen BK132.out 0
  have hfz6_1 := blk_frozen BK132.out 1
  have hfz6_2 := blk_frozen BK132.out 2
  go_wp2
  repeat (go_quiet (fail); try go_wp2)
  go_meet
  case rel => exact ⟨_, (decide ((l0_1.length : Int) > 200)), (by first | rfl | (simp; done) | (simp [*]; done)), H', ⟨by first | omega | exact Nat.le_refl _⟩, ⟨by (with_reducible repeat (first | refine blk_drewN ?_ _ | refine blk_drew ?_ | refine blk_alloc ?_ _)); exact BK132.out⟩, ⟨by repeat (first | (with_reducible first | exact HB.out | apply below_alloc | apply pw_below_drewN | apply below_drew1 | refine below_set ?_ GE132.out) | exact HB.out)⟩⟩
 case rest =>
  clear HC2
  try clear c1
  try clear p2
  try clear c4
  try clear c4b0
  try clear c4b1
  try clear hcz5_0
  try clear hcz5_1
  try clear hcz5_2
  try clear hcz6_0
  try clear hcz6_1
  try clear hcz6_2
  try clear hfz5_0
  try clear hfz5_1
  try clear hfz5_2
  try clear hfz6_0
  try clear hfz6_1
  try clear hfz6_2
  obtain ⟨kq, x16_1, rfl, HA, HJ1, BK132, HB⟩ := hcut
  cases kq with
  | zero => exact absurd HA.out (by simp [laganref04_CheckBoard.j0])
  | succ kj1 =>
   have H := HA.out
   clear HA
   simp only [laganref04_CheckBoard.j0] at H
   by_cases c7 : x16_1 = true
   ·
    subst c7
    have H1 : (some 2) = some r := by rw [if_pos rfl] at H; exact H
    clear H
    have H := H1
    clear H1
    obtain rfl := Option.some.inj H
    go_wp2
    repeat (go_quiet (fail); try go_wp2)
    go_ret
    exact ⟨by first | rfl | (simp [errW_none, errW_some] <;> rfl) | (simp [*, errW_none, errW_some] <;> rfl), by repeat (first | (with_reducible first | exact HB.out | apply below_alloc | apply pw_below_drewN | apply below_drew1 | refine below_set ?_ GE132.out) | exact HB.out)⟩
   replace c7 := Bool.eq_false_iff.mpr c7
   subst c7
   have H1 : (laganref04_CheckBoard.l0 kj1 0 l0_0 l0_1 l0_2) = some r := by rw [if_neg (show ¬ (false = true) by decide)] at H; exact H
   clear H
   have H := H1
   clear H1
   have H' := Aside0.mk H
   clear H
   go_wp2
   repeat (go_quiet (fail); try go_wp2)
   go_loopg [3] kj1 (fun kq v3 w' => ∃ (x3_2 : Int), v3 = .int .i64 x3_2 ∧ Aside0 (laganref04_CheckBoard.l0 kq x3_2 l0_0 l0_1 l0_2 = some r) ∧ Aside0 (kq ≤ kj1) ∧ Aside0 (w'.heap[gb132]? = some (.cells #[(.slice A0_0 l0_0.length c0_0), (.slice A0_1 l0_1.length c0_1), (.slice A0_2 l0_2.length c0_2)] 26 (0, 0))) ∧ Aside0 (Below w.heap.size w w'))
   case atStart => exact ⟨(0), (by first | rfl | (simp; done) | (simp [*]; done)), H', ⟨Nat.le_refl _⟩, ⟨by (with_reducible repeat (first | refine blk_drewN ?_ _ | refine blk_drew ?_ | refine blk_alloc ?_ _)); exact BK132.out⟩, ⟨by repeat (first | (with_reducible first | exact HB.out | apply below_alloc | apply pw_below_drewN | apply below_drew1 | refine below_set ?_ GE132.out) | exact HB.out)⟩⟩
   clear H'
   try clear c1
   try clear p2
   try clear c4
   try clear c4b0
   try clear c4b1
   try clear c7
   try clear hcz5_0
   try clear hcz5_1
   try clear hcz5_2
   try clear hcz6_0
   try clear hcz6_1
   try clear hcz6_2
   try clear hfz5_0
   try clear hfz5_1
   try clear hfz5_2
   try clear hfz6_0
   try clear hfz6_1
   try clear hfz6_2
   try clear p2
   obtain ⟨x3_2, rfl, HA, HK2, BK132, HB⟩ := hrel
   cases gk with
   | zero => exact absurd HA.out (by simp [laganref04_CheckBoard.l0])
   | succ k2 =>
    have H := HA.out
    clear HA
    simp only [laganref04_CheckBoard.l0] at H
    by_cases c8 : x3_2 < (l0_0.length : Int)
    ·
     rw [if_pos c8] at H
     have c8b0 : decide (x3_2 < (l0_0.length : Int)) = true := decide_eq_true c8
     clear c8
     by_cases c9 : 0 ≤ x3_2
     rotate_left
     ·
      rw [if_neg c9] at H
      exact absurd H (by simp)
     rw [if_pos c9] at H
     have c9b0 : decide (0 ≤ x3_2) = true := decide_eq_true c9
     clear c9
     by_cases c10 : (rd l0_0 x3_2) < 10
     ·
      rw [if_pos c10] at H
      have c10b0 : decide ((rd l0_0 x3_2) < 10) = true := decide_eq_true c10
      clear c10
      obtain rfl := Option.some.inj H
      have hcz11_0 : wr.cell? ⟨gb132, 0, none⟩ = some (.slice A0_0 l0_0.length c0_0) := (blk_cell BK132.out 0).trans rfl
      have hcz11_1 : wr.cell? ⟨gb132, 1, none⟩ = some (.slice A0_1 l0_1.length c0_1) := (blk_cell BK132.out 1).trans rfl
      have hcz11_2 : wr.cell? ⟨gb132, 2, none⟩ = some (.slice A0_2 l0_2.length c0_2) := (blk_cell BK132.out 2).trans rfl
      have hfz11_0 := blk_frozen BK132.out 0
      have hfz11_1 := blk_frozen BK132.out 1
      have hfz11_2 := blk_frozen BK132.out 2
      have p133 : 0 ≤ (x3_2 : Int) := of_decide_eq_true (by first | (with_reducible assumption) | assumption)
      have q133 : x3_2 < (l0_0.length : Int) := of_decide_eq_true (by first | (with_reducible assumption) | assumption)
      obtain ⟨ad133, e133, hx133_0⟩ := Kd.at_int HR0_0.out x3_2 p133 q133
      cases e133
      replace hx133_0 := (HB.out.cell (World.block_lt_of_cell? w _ hx133_0)).trans hx133_0
      replace p133 := eq_true p133
      replace q133 := eq_true q133
      go_wp2
      repeat (go_quiet (fail); try go_wp2)
      go_ret
      exact ⟨by first | rfl | (simp [errW_none, errW_some] <;> rfl) | (simp [*, errW_none, errW_some] <;> rfl), by repeat (first | (with_reducible first | exact HB.out | apply below_alloc | apply pw_below_drewN | apply below_drew1 | refine below_set ?_ GE132.out) | exact HB.out)⟩
     rw [if_neg c10] at H
     have c10b0 : decide ((rd l0_0 x3_2) < 10) = false := decide_eq_false c10
     clear c10
     by_cases c12 : (rd l0_0 x3_2) > 10000007
     ·
      rw [if_pos c12] at H
      have c12b0 : decide (10000007 < (rd l0_0 x3_2)) = true := decide_eq_true c12
      clear c12
      obtain rfl := Option.some.inj H
      have hcz13_0 : wr.cell? ⟨gb132, 0, none⟩ = some (.slice A0_0 l0_0.length c0_0) := (blk_cell BK132.out 0).trans rfl
      have hcz13_1 : wr.cell? ⟨gb132, 1, none⟩ = some (.slice A0_1 l0_1.length c0_1) := (blk_cell BK132.out 1).trans rfl
      have hcz13_2 : wr.cell? ⟨gb132, 2, none⟩ = some (.slice A0_2 l0_2.length c0_2) := (blk_cell BK132.out 2).trans rfl
      have hfz13_0 := blk_frozen BK132.out 0
      have hfz13_1 := blk_frozen BK132.out 1
      have hfz13_2 := blk_frozen BK132.out 2
      have p133 : 0 ≤ (x3_2 : Int) := of_decide_eq_true (by first | (with_reducible assumption) | assumption)
      have q133 : x3_2 < (l0_0.length : Int) := of_decide_eq_true (by first | (with_reducible assumption) | assumption)
      obtain ⟨ad133, e133, hx133_0⟩ := Kd.at_int HR0_0.out x3_2 p133 q133
      cases e133
      replace hx133_0 := (HB.out.cell (World.block_lt_of_cell? w _ hx133_0)).trans hx133_0
      replace p133 := eq_true p133
      replace q133 := eq_true q133
      have p134 : 0 ≤ (x3_2 : Int) := of_decide_eq_true (by first | (with_reducible assumption) | assumption)
      have q134 : x3_2 < (l0_0.length : Int) := of_decide_eq_true (by first | (with_reducible assumption) | assumption)
      obtain ⟨ad134, e134, hx134_0⟩ := Kd.at_int HR0_0.out x3_2 p134 q134
      obtain rfl : ad133 = ad134 := (by injection e134)
      replace hx134_0 := (HB.out.cell (World.block_lt_of_cell? w _ hx134_0)).trans hx134_0
      replace p134 := eq_true p134
      replace q134 := eq_true q134
      go_wp2
      repeat (go_quiet (fail); try go_wp2)
      go_ret
      exact ⟨by first | rfl | (simp [errW_none, errW_some] <;> rfl) | (simp [*, errW_none, errW_some] <;> rfl), by repeat (first | (with_reducible first | exact HB.out | apply below_alloc | apply pw_below_drewN | apply below_drew1 | refine below_set ?_ GE132.out) | exact HB.out)⟩
     rw [if_neg c12] at H
     have c12b0 : decide (10000007 < (rd l0_0 x3_2)) = false := decide_eq_false c12
     clear c12
     by_cases c14 : x3_2 > 0
     rotate_left
     ·
      rw [if_neg c14] at H
      have c14b0 : decide (0 < x3_2) = false := decide_eq_false c14
      clear c14
      have H' := Aside0.mk H
      clear H
      have hcz21_0 : wr.cell? ⟨gb132, 0, none⟩ = some (.slice A0_0 l0_0.length c0_0) := (blk_cell BK132.out 0).trans rfl
      have hcz21_1 : wr.cell? ⟨gb132, 1, none⟩ = some (.slice A0_1 l0_1.length c0_1) := (blk_cell BK132.out 1).trans rfl
      have hcz21_2 : wr.cell? ⟨gb132, 2, none⟩ = some (.slice A0_2 l0_2.length c0_2) := (blk_cell BK132.out 2).trans rfl
      have hfz21_0 := blk_frozen BK132.out 0
      have hfz21_1 := blk_frozen BK132.out 1
      have hfz21_2 := blk_frozen BK132.out 2
      have p133 : 0 ≤ (x3_2 : Int) := of_decide_eq_true (by first | (with_reducible assumption) | assumption)
      have q133 : x3_2 < (l0_0.length : Int) := of_decide_eq_true (by first | (with_reducible assumption) | assumption)
      obtain ⟨ad133, e133, hx133_0⟩ := Kd.at_int HR0_0.out x3_2 p133 q133
      cases e133
      replace hx133_0 := (HB.out.cell (World.block_lt_of_cell? w _ hx133_0)).trans hx133_0
      replace p133 := eq_true p133
      replace q133 := eq_true q133
      have p134 : 0 ≤ (x3_2 : Int) := of_decide_eq_true (by first | (with_reducible assumption) | assumption)
      have q134 : x3_2 < (l0_0.length : Int) := of_decide_eq_true (by first | (with_reducible assumption) | assumption)
      obtain ⟨ad134, e134, hx134_0⟩ := Kd.at_int HR0_0.out x3_2 p134 q134
      obtain rfl : ad133 = ad134 := (by injection e134)
      replace hx134_0 := (HB.out.cell (World.block_lt_of_cell? w _ hx134_0)).trans hx134_0
      replace p134 := eq_true p134
      replace q134 := eq_true q134
      go_wp2
      repeat (go_quiet (fail); try go_wp2)
      go_roundg k2
      case measure => have := HJ1.out; have := HK2.out; omega
      case rel => exact ⟨(wrap64 (x3_2 + 1)), (by first | rfl | (simp; done) | (simp [*]; done)), H', ⟨by have := HJ1.out; have := HK2.out; omega⟩, ⟨by (with_reducible repeat (first | refine blk_drewN ?_ _ | refine blk_drew ?_ | refine blk_alloc ?_ _)); exact BK132.out⟩, ⟨by repeat (first | (with_reducible first | exact HB.out | apply below_alloc | apply pw_below_drewN | apply below_drew1 | refine below_set ?_ GE132.out) | exact HB.out)⟩⟩
     rw [if_pos c14] at H
     have c14b0 : decide (0 < x3_2) = true := decide_eq_true c14
     clear c14
     obtain ⟨ji15, hji15⟩ : ∃ j_ : Int, (wrap64 (x3_2 - 1)) = j_ := ⟨_, rfl⟩
     replace H : (if 0 ≤ (ji15) then (if (ji15) < (l0_0.length : Int) then (if (rd l0_0 x3_2) ≤ (rd l0_0 (ji15)) then (some 1) else (laganref04_CheckBoard.l0 k2 (wrap64 (x3_2 + 1)) l0_0 l0_1 l0_2)) else (none)) else (none)) = some r := by first | (rw [hji15] at H; exact H) | (simp only [hji15] at H ⊢; exact H)
     have hji15w : (IntKind.i64.wrap (x3_2 - 1)) = ji15 := (i64_w _).trans hji15
     by_cases c16 : 0 ≤ (ji15)
     rotate_left
     ·
      rw [if_neg c16] at H
      exact absurd H (by simp)
     rw [if_pos c16] at H
     have c16b0 : decide (0 ≤ (ji15)) = true := decide_eq_true c16
     clear c16
     by_cases c17 : (ji15) < (l0_0.length : Int)
     rotate_left
     ·
      rw [if_neg c17] at H
      exact absurd H (by simp)
     rw [if_pos c17] at H
     have c17b0 : decide ((ji15) < (l0_0.length : Int)) = true := decide_eq_true c17
     clear c17
     by_cases c18 : (rd l0_0 x3_2) ≤ (rd l0_0 (ji15))
     ·
      rw [if_pos c18] at H
      have c18b0 : decide ((rd l0_0 x3_2) ≤ (rd l0_0 (ji15))) = true := decide_eq_true c18
      clear c18
      obtain rfl := Option.some.inj H
      have hcz19_0 : wr.cell? ⟨gb132, 0, none⟩ = some (.slice A0_0 l0_0.length c0_0) := (blk_cell BK132.out 0).trans rfl
      have hcz19_1 : wr.cell? ⟨gb132, 1, none⟩ = some (.slice A0_1 l0_1.length c0_1) := (blk_cell BK132.out 1).trans rfl
      have hcz19_2 : wr.cell? ⟨gb132, 2, none⟩ = some (.slice A0_2 l0_2.length c0_2) := (blk_cell BK132.out 2).trans rfl
      have hfz19_0 := blk_frozen BK132.out 0
      have hfz19_1 := blk_frozen BK132.out 1
      have hfz19_2 := blk_frozen BK132.out 2
      have p133 : 0 ≤ (x3_2 : Int) := of_decide_eq_true (by first | (with_reducible assumption) | assumption)
      have q133 : x3_2 < (l0_0.length : Int) := of_decide_eq_true (by first | (with_reducible assumption) | assumption)
      obtain ⟨ad133, e133, hx133_0⟩ := Kd.at_int HR0_0.out x3_2 p133 q133
      cases e133
      replace hx133_0 := (HB.out.cell (World.block_lt_of_cell? w _ hx133_0)).trans hx133_0
      replace p133 := eq_true p133
      replace q133 := eq_true q133
      have p134 : 0 ≤ (x3_2 : Int) := of_decide_eq_true (by first | (with_reducible assumption) | assumption)
      have q134 : x3_2 < (l0_0.length : Int) := of_decide_eq_true (by first | (with_reducible assumption) | assumption)
      obtain ⟨ad134, e134, hx134_0⟩ := Kd.at_int HR0_0.out x3_2 p134 q134
      obtain rfl : ad133 = ad134 := (by injection e134)
      replace hx134_0 := (HB.out.cell (World.block_lt_of_cell? w _ hx134_0)).trans hx134_0
      replace p134 := eq_true p134
      replace q134 := eq_true q134
      have p135 : 0 ≤ (x3_2 : Int) := of_decide_eq_true (by first | (with_reducible assumption) | assumption)
      have q135 : x3_2 < (l0_0.length : Int) := of_decide_eq_true (by first | (with_reducible assumption) | assumption)
      obtain ⟨ad135, e135, hx135_0⟩ := Kd.at_int HR0_0.out x3_2 p135 q135
      obtain rfl : ad133 = ad135 := (by injection e135)
      replace hx135_0 := (HB.out.cell (World.block_lt_of_cell? w _ hx135_0)).trans hx135_0
      replace p135 := eq_true p135
      replace q135 := eq_true q135
      have p136 : 0 ≤ ((ji15) : Int) := of_decide_eq_true (by first | (with_reducible assumption) | assumption)
      have q136 : (ji15) < (l0_0.length : Int) := of_decide_eq_true (by first | (with_reducible assumption) | assumption)
      obtain ⟨ad136, e136, hx136_0⟩ := Kd.at_int HR0_0.out (ji15) p136 q136
      obtain rfl : ad133 = ad136 := (by injection e136)
      replace hx136_0 := (HB.out.cell (World.block_lt_of_cell? w _ hx136_0)).trans hx136_0
      replace p136 := eq_true p136
      replace q136 := eq_true q136
      go_wp2
      repeat (go_quiet (fail); try go_wp2)
      go_ret
      exact ⟨by first | rfl | (simp [errW_none, errW_some] <;> rfl) | (simp only [← hji15]; first | rfl | (simp [errW_none, errW_some] <;> rfl)) | (simp [*, errW_none, errW_some] <;> rfl), by repeat (first | (with_reducible first | exact HB.out | apply below_alloc | apply pw_below_drewN | apply below_drew1 | refine below_set ?_ GE132.out) | exact HB.out)⟩
     rw [if_neg c18] at H
     have c18b0 : decide ((rd l0_0 x3_2) ≤ (rd l0_0 (ji15))) = false := decide_eq_false c18
     clear c18
     have H' := Aside0.mk H
     clear H
     have hcz20_0 : wr.cell? ⟨gb132, 0, none⟩ = some (.slice A0_0 l0_0.length c0_0) := (blk_cell BK132.out 0).trans rfl
     have hcz20_1 : wr.cell? ⟨gb132, 1, none⟩ = some (.slice A0_1 l0_1.length c0_1) := (blk_cell BK132.out 1).trans rfl
     have hcz20_2 : wr.cell? ⟨gb132, 2, none⟩ = some (.slice A0_2 l0_2.length c0_2) := (blk_cell BK132.out 2).trans rfl
     have hfz20_0 := blk_frozen BK132.out 0
     have hfz20_1 := blk_frozen BK132.out 1
     have hfz20_2 := blk_frozen BK132.out 2
     have p133 : 0 ≤ (x3_2 : Int) := of_decide_eq_true (by first | (with_reducible assumption) | assumption)
     have q133 : x3_2 < (l0_0.length : Int) := of_decide_eq_true (by first | (with_reducible assumption) | assumption)
     obtain ⟨ad133, e133, hx133_0⟩ := Kd.at_int HR0_0.out x3_2 p133 q133
     cases e133
     replace hx133_0 := (HB.out.cell (World.block_lt_of_cell? w _ hx133_0)).trans hx133_0
     replace p133 := eq_true p133
     replace q133 := eq_true q133
     have p134 : 0 ≤ (x3_2 : Int) := of_decide_eq_true (by first | (with_reducible assumption) | assumption)
     have q134 : x3_2 < (l0_0.length : Int) := of_decide_eq_true (by first | (with_reducible assumption) | assumption)
     obtain ⟨ad134, e134, hx134_0⟩ := Kd.at_int HR0_0.out x3_2 p134 q134
     obtain rfl : ad133 = ad134 := (by injection e134)
     replace hx134_0 := (HB.out.cell (World.block_lt_of_cell? w _ hx134_0)).trans hx134_0
     replace p134 := eq_true p134
     replace q134 := eq_true q134
     have p135 : 0 ≤ (x3_2 : Int) := of_decide_eq_true (by first | (with_reducible assumption) | assumption)
     have q135 : x3_2 < (l0_0.length : Int) := of_decide_eq_true (by first | (with_reducible assumption) | assumption)
     obtain ⟨ad135, e135, hx135_0⟩ := Kd.at_int HR0_0.out x3_2 p135 q135
     obtain rfl : ad133 = ad135 := (by injection e135)
     replace hx135_0 := (HB.out.cell (World.block_lt_of_cell? w _ hx135_0)).trans hx135_0
     replace p135 := eq_true p135
     replace q135 := eq_true q135
     have p136 : 0 ≤ ((ji15) : Int) := of_decide_eq_true (by first | (with_reducible assumption) | assumption)
     have q136 : (ji15) < (l0_0.length : Int) := of_decide_eq_true (by first | (with_reducible assumption) | assumption)
     obtain ⟨ad136, e136, hx136_0⟩ := Kd.at_int HR0_0.out (ji15) p136 q136
     obtain rfl : ad133 = ad136 := (by injection e136)
     replace hx136_0 := (HB.out.cell (World.block_lt_of_cell? w _ hx136_0)).trans hx136_0
     replace p136 := eq_true p136
     replace q136 := eq_true q136
     go_wp2
     repeat (go_quiet (fail); try go_wp2)
     go_roundg k2
     case measure => have := HJ1.out; have := HK2.out; omega
     case rel => exact ⟨(wrap64 (x3_2 + 1)), (by first | rfl | (simp; done) | (simp [*]; done)), H', ⟨by have := HJ1.out; have := HK2.out; omega⟩, ⟨by (with_reducible repeat (first | refine blk_drewN ?_ _ | refine blk_drew ?_ | refine blk_alloc ?_ _)); exact BK132.out⟩, ⟨by repeat (first | (with_reducible first | exact HB.out | apply below_alloc | apply pw_below_drewN | apply below_drew1 | refine below_set ?_ GE132.out) | exact HB.out)⟩⟩
    rw [if_neg c8] at H
    have c8b0 : decide (x3_2 < (l0_0.length : Int)) = false := decide_eq_false c8
    clear c8
    have H' := Aside0.mk H
    clear H
    have hcz22_0 : wr.cell? ⟨gb132, 0, none⟩ = some (.slice A0_0 l0_0.length c0_0) := (blk_cell BK132.out 0).trans rfl
    have hcz22_1 : wr.cell? ⟨gb132, 1, none⟩ = some (.slice A0_1 l0_1.length c0_1) := (blk_cell BK132.out 1).trans rfl
    have hcz22_2 : wr.cell? ⟨gb132, 2, none⟩ = some (.slice A0_2 l0_2.length c0_2) := (blk_cell BK132.out 2).trans rfl
    have hfz22_0 := blk_frozen BK132.out 0
    have hfz22_1 := blk_frozen BK132.out 1
    have hfz22_2 := blk_frozen BK132.out 2
    go_wp2
    repeat (go_quiet (fail); try go_wp2)
    go_loopg [4] k2 (fun kq v4 w' => ∃ (x4_3 : Int), v4 = .int .i64 x4_3 ∧ Aside0 (laganref04_CheckBoard.l1 kq x4_3 l0_0 l0_1 l0_2 = some r) ∧ Aside0 (kq ≤ k2) ∧ Aside0 (w'.heap[gb132]? = some (.cells #[(.slice A0_0 l0_0.length c0_0), (.slice A0_1 l0_1.length c0_1), (.slice A0_2 l0_2.length c0_2)] 26 (0, 0))) ∧ Aside0 (Below w.heap.size w w'))
    case atStart => exact ⟨(0), (by first | rfl | (simp; done) | (simp [*]; done)), H', ⟨Nat.le_refl _⟩, ⟨by (with_reducible repeat (first | refine blk_drewN ?_ _ | refine blk_drew ?_ | refine blk_alloc ?_ _)); exact BK132.out⟩, ⟨by repeat (first | (with_reducible first | exact HB.out | apply below_alloc | apply pw_below_drewN | apply below_drew1 | refine below_set ?_ GE132.out) | exact HB.out)⟩⟩
    clear H'
    try clear c1
    try clear p1
    try clear q1
    try clear hx1
    try clear p2
    try clear c4
    try clear c4b0
    try clear c4b1
    try clear p6
    try clear c7
    try clear c8
    try clear c8b0
    try clear c9
    try clear c9b0
    try clear c10
    try clear c10b0
    try clear c12
    try clear c12b0
    try clear p13
    try clear q13
    try clear hx13
    try clear c14
    try clear c14b0
    try clear c16
    try clear c16b0
    try clear c17
    try clear c17b0
    try clear c18
    try clear c18b0
    try clear c19
    try clear hcz11_0
    try clear hcz11_1
    try clear hcz11_2
    try clear hcz13_0
    try clear hcz13_1
    try clear hcz13_2
    try clear hcz19_0
    try clear hcz19_1
    try clear hcz19_2
    try clear hcz20_0
    try clear hcz20_1
    try clear hcz20_2
    try clear hcz21_0
    try clear hcz21_1
    try clear hcz21_2
    try clear hcz22_0
    try clear hcz22_1
    try clear hcz22_2
    try clear hcz5_0
    try clear hcz5_1
    try clear hcz5_2
    try clear hcz6_0
    try clear hcz6_1
    try clear hcz6_2
    try clear hfz11_0
    try clear hfz11_1
    try clear hfz11_2
    try clear hfz13_0
    try clear hfz13_1
    try clear hfz13_2
    try clear hfz19_0
    try clear hfz19_1
    try clear hfz19_2
    try clear hfz20_0
    try clear hfz20_1
    try clear hfz20_2
    try clear hfz21_0
    try clear hfz21_1
    try clear hfz21_2
    try clear hfz22_0
    try clear hfz22_1
    try clear hfz22_2
    try clear hfz5_0
    try clear hfz5_1
    try clear hfz5_2
    try clear hfz6_0
    try clear hfz6_1
    try clear hfz6_2
    try clear hx133_0
    try clear hx134_0
    try clear hx135_0
    try clear hx136_0
    try clear p133
    try clear p134
    try clear p135
    try clear p136
    try clear p2
    try clear q133
    try clear q134
    try clear q135
    try clear q136
    obtain ⟨x4_3, rfl, HA, HK3, BK132, HB⟩ := hrel
    cases gk with
    | zero => exact absurd HA.out (by simp [laganref04_CheckBoard.l1])
    | succ k3 =>
     have H := HA.out
     clear HA
     simp only [laganref04_CheckBoard.l1] at H
     by_cases c23 : x4_3 < (l0_1.length : Int)
     rotate_left
     ·
      rw [if_neg c23] at H
      have c23b0 : decide (x4_3 < (l0_1.length : Int)) = false := decide_eq_false c23
      clear c23
      by_cases c67 : (l0_2.length : Int) = (l0_0.length : Int)
      rotate_left
      ·
       rw [if_neg c67] at H
       have c67b0 : ((l0_2.length : Int) == (l0_0.length : Int)) = false := beq_eq_false_iff_ne.mpr c67
       have c67b1 : ((l0_2.length : Int) != (l0_0.length : Int)) = true := bne_iff_ne.mpr c67
       have c67b2 : (l0_2.length == l0_0.length) = false := by first | simpa using c67 | (simp at c67 ⊢; omega)
       obtain rfl := Option.some.inj H
       have hcz76_0 : wr.cell? ⟨gb132, 0, none⟩ = some (.slice A0_0 l0_0.length c0_0) := (blk_cell BK132.out 0).trans rfl
       have hcz76_1 : wr.cell? ⟨gb132, 1, none⟩ = some (.slice A0_1 l0_1.length c0_1) := (blk_cell BK132.out 1).trans rfl
       have hcz76_2 : wr.cell? ⟨gb132, 2, none⟩ = some (.slice A0_2 l0_2.length c0_2) := (blk_cell BK132.out 2).trans rfl
       have hfz76_0 := blk_frozen BK132.out 0
       have hfz76_1 := blk_frozen BK132.out 1
       have hfz76_2 := blk_frozen BK132.out 2
       go_wp2
       repeat (go_quiet (fail); try go_wp2)
       go_ret
       exact ⟨by first | rfl | (simp [errW_none, errW_some] <;> rfl) | (simp [*, errW_none, errW_some] <;> rfl), by repeat (first | (with_reducible first | exact HB.out | apply below_alloc | apply pw_below_drewN | apply below_drew1 | refine below_set ?_ GE132.out) | exact HB.out)⟩
      rw [if_pos c67] at H
      have c67b0 : ((l0_2.length : Int) == (l0_0.length : Int)) = true := beq_iff_eq.mpr c67
      have c67b1 : ((l0_2.length : Int) != (l0_0.length : Int)) = false := bne_eq_false_iff_eq.mpr c67
      have c67b2 : (l0_2.length == l0_0.length) = true := by first | simpa using c67 | (simp at c67 ⊢; omega)
      clear c67
      have H' := Aside0.mk H
      clear H
      have hcz68_0 : wr.cell? ⟨gb132, 0, none⟩ = some (.slice A0_0 l0_0.length c0_0) := (blk_cell BK132.out 0).trans rfl
      have hcz68_1 : wr.cell? ⟨gb132, 1, none⟩ = some (.slice A0_1 l0_1.length c0_1) := (blk_cell BK132.out 1).trans rfl
      have hcz68_2 : wr.cell? ⟨gb132, 2, none⟩ = some (.slice A0_2 l0_2.length c0_2) := (blk_cell BK132.out 2).trans rfl
      have hfz68_0 := blk_frozen BK132.out 0
      have hfz68_1 := blk_frozen BK132.out 1
      have hfz68_2 := blk_frozen BK132.out 2
      go_wp2
      repeat (go_quiet (fail); try go_wp2)
      go_loopg [6] k3 (fun kq v6 w' => ∃ (x6_4 : Int), v6 = .int .i64 x6_4 ∧ Aside0 (laganref04_CheckBoard.l2 kq x6_4 l0_0 l0_1 l0_2 = some r) ∧ Aside0 (kq ≤ k3) ∧ Aside0 (w'.heap[gb132]? = some (.cells #[(.slice A0_0 l0_0.length c0_0), (.slice A0_1 l0_1.length c0_1), (.slice A0_2 l0_2.length c0_2)] 26 (0, 0))) ∧ Aside0 (Below w.heap.size w w'))
      case atStart => exact ⟨(0), (by first | rfl | (simp; done) | (simp [*]; done)), H', ⟨Nat.le_refl _⟩, ⟨by (with_reducible repeat (first | refine blk_drewN ?_ _ | refine blk_drew ?_ | refine blk_alloc ?_ _)); exact BK132.out⟩, ⟨by repeat (first | (with_reducible first | exact HB.out | apply below_alloc | apply pw_below_drewN | apply below_drew1 | refine below_set ?_ GE132.out) | exact HB.out)⟩⟩
      clear H'
      try clear c1
      try clear p1
      try clear q1
      try clear hx1
      try clear c2
      try clear p2
      try clear c3
      try clear c4
      try clear c4b0
      try clear c4b1
      try clear c5
      try clear c6
      try clear p6
      try clear c7
      try clear c8
      try clear c8b0
      try clear c9
      try clear c9b0
      try clear c10
      try clear c10b0
      try clear c12
      try clear c12b0
      try clear p13
      try clear q13
      try clear hx13
      try clear c14
      try clear c14b0
      try clear p14
      try clear q14
      try clear hx14
      try clear c16
      try clear c16b0
      try clear c17
      try clear c17b0
      try clear c18
      try clear c18b0
      try clear c19
      try clear c23
      try clear c23b0
      try clear c24
      try clear c24b0
      try clear c28
      try clear c30
      try clear c30b0
      try clear c31
      try clear c33
      try clear c33b0
      try clear c34
      try clear c36
      try clear c36b0
      try clear c37
      try clear c39
      try clear c39b0
      try clear c40
      try clear c42
      try clear c42b0
      try clear c43
      try clear c45
      try clear c47
      try clear c48
      try clear c48b0
      try clear c50
      try clear c50b0
      try clear c51
      try clear c51b0
      try clear c52
      try clear c52b0
      try clear c53
      try clear c56
      try clear c56b0
      try clear c56b1
      try clear c57
      try clear c57b0
      try clear c58
      try clear c61
      try clear c64
      try clear p64
      try clear c67
      try clear c67b0
      try clear c67b1
      try clear c67b2
      try clear hcz11_0
      try clear hcz11_1
      try clear hcz11_2
      try clear hcz13_0
      try clear hcz13_1
      try clear hcz13_2
      try clear hcz19_0
      try clear hcz19_1
      try clear hcz19_2
      try clear hcz20_0
      try clear hcz20_1
      try clear hcz20_2
      try clear hcz21_0
      try clear hcz21_1
      try clear hcz21_2
      try clear hcz22_0
      try clear hcz22_1
      try clear hcz22_2
      try clear hcz26_0
      try clear hcz26_1
      try clear hcz26_2
      try clear hcz29_0
      try clear hcz29_1
      try clear hcz29_2
      try clear hcz32_0
      try clear hcz32_1
      try clear hcz32_2
      try clear hcz35_0
      try clear hcz35_1
      try clear hcz35_2
      try clear hcz38_0
      try clear hcz38_1
      try clear hcz38_2
      try clear hcz41_0
      try clear hcz41_1
      try clear hcz41_2
      try clear hcz44_0
      try clear hcz44_1
      try clear hcz44_2
      try clear hcz46_0
      try clear hcz46_1
      try clear hcz46_2
      try clear hcz54_0
      try clear hcz54_1
      try clear hcz54_2
      try clear hcz55_0
      try clear hcz55_1
      try clear hcz55_2
      try clear hcz59_0
      try clear hcz59_1
      try clear hcz59_2
      try clear hcz5_0
      try clear hcz5_1
      try clear hcz5_2
      try clear hcz60_0
      try clear hcz60_1
      try clear hcz60_2
      try clear hcz62_0
      try clear hcz62_1
      try clear hcz62_2
      try clear hcz63_0
      try clear hcz63_1
      try clear hcz63_2
      try clear hcz65_0
      try clear hcz65_1
      try clear hcz65_2
      try clear hcz66_0
      try clear hcz66_1
      try clear hcz66_2
      try clear hcz68_0
      try clear hcz68_1
      try clear hcz68_2
      try clear hcz6_0
      try clear hcz6_1
      try clear hcz6_2
      try clear hfz11_0
      try clear hfz11_1
      try clear hfz11_2
      try clear hfz13_0
      try clear hfz13_1
      try clear hfz13_2
      try clear hfz19_0
      try clear hfz19_1
      try clear hfz19_2
      try clear hfz20_0
      try clear hfz20_1
      try clear hfz20_2
      try clear hfz21_0
      try clear hfz21_1
      try clear hfz21_2
      try clear hfz22_0
      try clear hfz22_1
      try clear hfz22_2
      try clear hfz26_0
      try clear hfz26_1
      try clear hfz26_2
      try clear hfz29_0
      try clear hfz29_1
      try clear hfz29_2
      try clear hfz32_0
      try clear hfz32_1
      try clear hfz32_2
      try clear hfz35_0
      try clear hfz35_1
      try clear hfz35_2
      try clear hfz38_0
      try clear hfz38_1
      try clear hfz38_2
      try clear hfz41_0
      try clear hfz41_1
      try clear hfz41_2
      try clear hfz44_0
      try clear hfz44_1
      try clear hfz44_2
      try clear hfz46_0
      try clear hfz46_1
      try clear hfz46_2
      try clear hfz54_0
      try clear hfz54_1
      try clear hfz54_2
      try clear hfz55_0
      try clear hfz55_1
      try clear hfz55_2
      try clear hfz59_0
      try clear hfz59_1
      try clear hfz59_2
      try clear hfz5_0
      try clear hfz5_1
      try clear hfz5_2
      try clear hfz60_0
      try clear hfz60_1
      try clear hfz60_2
      try clear hfz62_0
      try clear hfz62_1
      try clear hfz62_2
      try clear hfz63_0
      try clear hfz63_1
      try clear hfz63_2
      try clear hfz65_0
      try clear hfz65_1
      try clear hfz65_2
      try clear hfz66_0
      try clear hfz66_1
      try clear hfz66_2
      try clear hfz68_0
      try clear hfz68_1
      try clear hfz68_2
      try clear hfz6_0
      try clear hfz6_1
      try clear hfz6_2
      try clear hx133_0
      try clear hx134_0
      try clear hx135_0
      try clear hx136_0
      try clear hx137_0
      try clear hx137_1
      try clear hx137_2
      try clear hx139_0
      try clear hx139_1
      try clear hx139_2
      try clear hx140_0
      try clear hx140_1
      try clear hx140_2
      try clear hx141_0
      try clear hx141_1
      try clear hx141_2
      try clear p1
      try clear p13
      try clear p133
      try clear p134
      try clear p135
      try clear p136
      try clear p137
      try clear p139
      try clear p140
      try clear p141
      try clear p2
      try clear p6
      try clear q1
      try clear q13
      try clear q133
      try clear q134
      try clear q135
      try clear q136
      try clear q137
      try clear q139
      try clear q140
      try clear q141
      obtain ⟨x6_4, rfl, HA, HK4, BK132, HB⟩ := hrel
      cases gk with
      | zero => exact absurd HA.out (by simp [laganref04_CheckBoard.l2])
      | succ k4 =>
       have H := HA.out
       clear HA
       simp only [laganref04_CheckBoard.l2] at H
       by_cases c69 : x6_4 < (l0_2.length : Int)
       rotate_left
       ·
        rw [if_neg c69] at H
        have c69b0 : decide (x6_4 < (l0_2.length : Int)) = false := decide_eq_false c69
        clear c69
        obtain rfl := Option.some.inj H
        have hcz75_0 : wr.cell? ⟨gb132, 0, none⟩ = some (.slice A0_0 l0_0.length c0_0) := (blk_cell BK132.out 0).trans rfl
        have hcz75_1 : wr.cell? ⟨gb132, 1, none⟩ = some (.slice A0_1 l0_1.length c0_1) := (blk_cell BK132.out 1).trans rfl
        have hcz75_2 : wr.cell? ⟨gb132, 2, none⟩ = some (.slice A0_2 l0_2.length c0_2) := (blk_cell BK132.out 2).trans rfl
        have hfz75_0 := blk_frozen BK132.out 0
        have hfz75_1 := blk_frozen BK132.out 1
        have hfz75_2 := blk_frozen BK132.out 2
        go_wp2
        repeat (go_quiet (fail); try go_wp2)
        go_ret
        exact ⟨by first | rfl | (simp [errW_none, errW_some] <;> rfl) | (simp [*, errW_none, errW_some] <;> rfl), by repeat (first | (with_reducible first | exact HB.out | apply below_alloc | apply pw_below_drewN | apply below_drew1 | refine below_set ?_ GE132.out) | exact HB.out)⟩
       rw [if_pos c69] at H
       have c69b0 : decide (x6_4 < (l0_2.length : Int)) = true := decide_eq_true c69
       clear c69
       by_cases c70 : 0 ≤ x6_4
       rotate_left
       ·
        rw [if_neg c70] at H
        exact absurd H (by simp)
       rw [if_pos c70] at H
       have c70b0 : decide (0 ≤ x6_4) = true := decide_eq_true c70
       clear c70
       replace H := Option.bind_eq_some_iff.mp H
       obtain ⟨t143, A710, H⟩ := H
       replace H : (if t143 = true then (laganref04_CheckBoard.l2 k4 (wrap64 (x6_4 + 1)) l0_0 l0_1 l0_2) else (some 1)) = some r := H
       have A71 := Aside0.mk A710
       clear A710
       by_cases c72 : t143 = true
       rotate_left
       ·
        replace c72 := Bool.eq_false_iff.mpr c72
        subst c72
        have H1 : (some 1) = some r := by rw [if_neg (show ¬ (false = true) by decide)] at H; exact H
        clear H
        have H := H1
        clear H1
        obtain rfl := Option.some.inj H
        have hcz74_0 : wr.cell? ⟨gb132, 0, none⟩ = some (.slice A0_0 l0_0.length c0_0) := (blk_cell BK132.out 0).trans rfl
        have hcz74_1 : wr.cell? ⟨gb132, 1, none⟩ = some (.slice A0_1 l0_1.length c0_1) := (blk_cell BK132.out 1).trans rfl
        have hcz74_2 : wr.cell? ⟨gb132, 2, none⟩ = some (.slice A0_2 l0_2.length c0_2) := (blk_cell BK132.out 2).trans rfl
        have hfz74_0 := blk_frozen BK132.out 0
        have hfz74_1 := blk_frozen BK132.out 1
        have hfz74_2 := blk_frozen BK132.out 2
        have p142 : 0 ≤ (x6_4 : Int) := of_decide_eq_true (by first | (with_reducible assumption) | assumption)
        have q142 : x6_4 < (l0_2.length : Int) := of_decide_eq_true (by first | (with_reducible assumption) | assumption)
        obtain ⟨ad142, A142_0, c142_0, e142, hx142_0, hl142_0, hi142_0⟩ := at_L1 HR0_2.out x6_4 p142 q142
        cases e142
        replace hx142_0 := (HB.out.cell (World.block_lt_of_cell? w _ hx142_0)).trans hx142_0
        have HR142_0 := Aside0.mk hi142_0
        have HC142_0 := Aside0.mk hl142_0
        clear hi142_0 hl142_0
        replace p142 := eq_true p142
        replace q142 := eq_true q142
        go_wp2_with (first | (go_at_call 62; (with_reducible refine (laganref04_ascending.calls k4 _ _ (rd_L1 l0_2 x6_4) (l0_1.length : Int) false _ ?side1 ?side2 A71.out).mono ?_); (case side1 => repeat (first | exact (Kd.C_below HR142_0.out HB.out) | (with_reducible refine Kd.C_alloc ?_ _) | (with_reducible refine Kd.C_drewN ?_ _) | (with_reducible refine Kd.C_drew ?_))); (case side2 => exact HC142_0.out); rintro e w' ⟨rfl, ⟨nd, rfl⟩⟩; (try first | exact ⟨rfl, _, World.drewN_drewN _ _ _⟩ | exact ⟨rfl, _, Eq.trans (World.drewN_drewN _ _ _) (congrArg (World.drewN _) (Nat.add_assoc _ _ _))⟩)))
        repeat (go_quiet (first | (go_at_call 62; (with_reducible refine (laganref04_ascending.calls k4 _ _ (rd_L1 l0_2 x6_4) (l0_1.length : Int) false _ ?side1 ?side2 A71.out).mono ?_); (case side1 => repeat (first | exact (Kd.C_below HR142_0.out HB.out) | (with_reducible refine Kd.C_alloc ?_ _) | (with_reducible refine Kd.C_drewN ?_ _) | (with_reducible refine Kd.C_drew ?_))); (case side2 => exact HC142_0.out); rintro e w' ⟨rfl, ⟨nd, rfl⟩⟩; (try first | exact ⟨rfl, _, World.drewN_drewN _ _ _⟩ | exact ⟨rfl, _, Eq.trans (World.drewN_drewN _ _ _) (congrArg (World.drewN _) (Nat.add_assoc _ _ _))⟩))); try go_wp2_with (first | (go_at_call 62; (with_reducible refine (laganref04_ascending.calls k4 _ _ (rd_L1 l0_2 x6_4) (l0_1.length : Int) false _ ?side1 ?side2 A71.out).mono ?_); (case side1 => repeat (first | exact (Kd.C_below HR142_0.out HB.out) | (with_reducible refine Kd.C_alloc ?_ _) | (with_reducible refine Kd.C_drewN ?_ _) | (with_reducible refine Kd.C_drew ?_))); (case side2 => exact HC142_0.out); rintro e w' ⟨rfl, ⟨nd, rfl⟩⟩; (try first | exact ⟨rfl, _, World.drewN_drewN _ _ _⟩ | exact ⟨rfl, _, Eq.trans (World.drewN_drewN _ _ _) (congrArg (World.drewN _) (Nat.add_assoc _ _ _))⟩))))
        go_ret
        exact ⟨by first | rfl | (simp [errW_none, errW_some] <;> rfl) | (simp [*, errW_none, errW_some] <;> rfl), by repeat (first | (with_reducible first | exact HB.out | apply below_alloc | apply pw_below_drewN | apply below_drew1 | refine below_set ?_ GE132.out) | exact HB.out)⟩
       subst c72
       have H1 : (laganref04_CheckBoard.l2 k4 (wrap64 (x6_4 + 1)) l0_0 l0_1 l0_2) = some r := by rw [if_pos rfl] at H; exact H
       clear H
       have H := H1
       clear H1
       have H' := Aside0.mk H
       clear H
       have hcz73_0 : wr.cell? ⟨gb132, 0, none⟩ = some (.slice A0_0 l0_0.length c0_0) := (blk_cell BK132.out 0).trans rfl
       have hcz73_1 : wr.cell? ⟨gb132, 1, none⟩ = some (.slice A0_1 l0_1.length c0_1) := (blk_cell BK132.out 1).trans rfl
       have hcz73_2 : wr.cell? ⟨gb132, 2, none⟩ = some (.slice A0_2 l0_2.length c0_2) := (blk_cell BK132.out 2).trans rfl
       have hfz73_0 := blk_frozen BK132.out 0
       have hfz73_1 := blk_frozen BK132.out 1
       have hfz73_2 := blk_frozen BK132.out 2
       have p142 : 0 ≤ (x6_4 : Int) := of_decide_eq_true (by first | (with_reducible assumption) | assumption)
       have q142 : x6_4 < (l0_2.length : Int) := of_decide_eq_true (by first | (with_reducible assumption) | assumption)
       obtain ⟨ad142, A142_0, c142_0, e142, hx142_0, hl142_0, hi142_0⟩ := at_L1 HR0_2.out x6_4 p142 q142
       cases e142
       replace hx142_0 := (HB.out.cell (World.block_lt_of_cell? w _ hx142_0)).trans hx142_0
       have HR142_0 := Aside0.mk hi142_0
       have HC142_0 := Aside0.mk hl142_0
       clear hi142_0 hl142_0
       replace p142 := eq_true p142
       replace q142 := eq_true q142
       go_wp2_with (first | (go_at_call 62; (with_reducible refine (laganref04_ascending.calls k4 _ _ (rd_L1 l0_2 x6_4) (l0_1.length : Int) true _ ?side1 ?side2 A71.out).mono ?_); (case side1 => repeat (first | exact (Kd.C_below HR142_0.out HB.out) | (with_reducible refine Kd.C_alloc ?_ _) | (with_reducible refine Kd.C_drewN ?_ _) | (with_reducible refine Kd.C_drew ?_))); (case side2 => exact HC142_0.out); rintro e w' ⟨rfl, ⟨nd, rfl⟩⟩; (try first | exact ⟨rfl, _, World.drewN_drewN _ _ _⟩ | exact ⟨rfl, _, Eq.trans (World.drewN_drewN _ _ _) (congrArg (World.drewN _) (Nat.add_assoc _ _ _))⟩)))
       repeat (go_quiet (first | (go_at_call 62; (with_reducible refine (laganref04_ascending.calls k4 _ _ (rd_L1 l0_2 x6_4) (l0_1.length : Int) true _ ?side1 ?side2 A71.out).mono ?_); (case side1 => repeat (first | exact (Kd.C_below HR142_0.out HB.out) | (with_reducible refine Kd.C_alloc ?_ _) | (with_reducible refine Kd.C_drewN ?_ _) | (with_reducible refine Kd.C_drew ?_))); (case side2 => exact HC142_0.out); rintro e w' ⟨rfl, ⟨nd, rfl⟩⟩; (try first | exact ⟨rfl, _, World.drewN_drewN _ _ _⟩ | exact ⟨rfl, _, Eq.trans (World.drewN_drewN _ _ _) (congrArg (World.drewN _) (Nat.add_assoc _ _ _))⟩))); try go_wp2_with (first | (go_at_call 62; (with_reducible refine (laganref04_ascending.calls k4 _ _ (rd_L1 l0_2 x6_4) (l0_1.length : Int) true _ ?side1 ?side2 A71.out).mono ?_); (case side1 => repeat (first | exact (Kd.C_below HR142_0.out HB.out) | (with_reducible refine Kd.C_alloc ?_ _) | (with_reducible refine Kd.C_drewN ?_ _) | (with_reducible refine Kd.C_drew ?_))); (case side2 => exact HC142_0.out); rintro e w' ⟨rfl, ⟨nd, rfl⟩⟩; (try first | exact ⟨rfl, _, World.drewN_drewN _ _ _⟩ | exact ⟨rfl, _, Eq.trans (World.drewN_drewN _ _ _) (congrArg (World.drewN _) (Nat.add_assoc _ _ _))⟩))))
       go_roundg k4
       case measure => have := HJ1.out; have := HK2.out; have := HK3.out; have := HK4.out; omega
       case rel => exact ⟨(wrap64 (x6_4 + 1)), (by first | rfl | (simp; done) | (simp [*]; done)), H', ⟨by have := HJ1.out; have := HK2.out; have := HK3.out; have := HK4.out; omega⟩, ⟨by (with_reducible repeat (first | refine blk_drewN ?_ _ | refine blk_drew ?_ | refine blk_alloc ?_ _)); exact BK132.out⟩, ⟨by repeat (first | (with_reducible first | exact HB.out | apply below_alloc | apply pw_below_drewN | apply below_drew1 | refine below_set ?_ GE132.out) | exact HB.out)⟩⟩
     rw [if_pos c23] at H
     have c23b0 : decide (x4_3 < (l0_1.length : Int)) = true := decide_eq_true c23
     clear c23
     by_cases c24 : 0 ≤ x4_3
     rotate_left
     ·
      rw [if_neg c24] at H
      exact absurd H (by simp)
     rw [if_pos c24] at H
     have c24b0 : decide (0 ≤ x4_3) = true := decide_eq_true c24
     clear c24
     have HC25 := Aside0.mk H
     clear H
     have hcz26_0 : wr.cell? ⟨gb132, 0, none⟩ = some (.slice A0_0 l0_0.length c0_0) := (blk_cell BK132.out 0).trans rfl
     have hcz26_1 : wr.cell? ⟨gb132, 1, none⟩ = some (.slice A0_1 l0_1.length c0_1) := (blk_cell BK132.out 1).trans rfl
     have hcz26_2 : wr.cell? ⟨gb132, 2, none⟩ = some (.slice A0_2 l0_2.length c0_2) := (blk_cell BK132.out 2).trans rfl
     have hfz26_0 := blk_frozen BK132.out 0
     have hfz26_1 := blk_frozen BK132.out 1
     have hfz26_2 := blk_frozen BK132.out 2
     have p137 : 0 ≤ (x4_3 : Int) := of_decide_eq_true (by first | (with_reducible assumption) | assumption)
     have q137 : x4_3 < (l0_1.length : Int) := of_decide_eq_true (by first | (with_reducible assumption) | assumption)
     obtain ⟨ad137, e137, hx137_0, hx137_1, hx137_2⟩ := at_T50 HR0_1.out x4_3 p137 q137
     cases e137
     replace hx137_0 := (HB.out.cell (World.block_lt_of_cell? w _ hx137_0)).trans hx137_0
     replace hx137_1 := (HB.out.cell (World.block_lt_of_cell? w _ hx137_1)).trans hx137_1
     replace hx137_2 := (HB.out.cell (World.block_lt_of_cell? w _ hx137_2)).trans hx137_2
     replace p137 := eq_true p137
     replace q137 := eq_true q137
     go_upto_region 12 with (first | ((with_reducible refine gate_dst (N := 5) rfl ?_); (try (refine gate_guard (by rfl) ?_; dsimp only)); refine box_event ?hg (N := 5) ?hd (cs := #[.int .i64 0, .int .i64 0, .int .i64 0]) (t := 50) ?hr ?_; (case hd => rfl); (case hg => rfl); (case hr => first | (go_simp; done) | (go_simp; rfl)); intro gb138 hg w27 hbox hb; have n0_ := Aside0.mk (blk_below (g := gb132) (o := .cells #[.slice A0_0 l0_0.length c0_0, .slice (some ad137) l0_1.length c0_1, .slice A0_2 l0_2.length c0_2] 26 (0, 0)) (by (with_reducible repeat (first | refine blk_drewN ?_ _ | refine blk_drew ?_ | refine blk_alloc ?_ _)); exact BK132.out) hb); have n1_ := Aside0.mk (below_step (by repeat (first | (with_reducible first | exact HB.out | apply below_alloc | apply pw_below_drewN | apply below_drew1 | refine below_set ?_ GE132.out) | exact HB.out)) hb); have n2_ := Aside0.mk (hbox); have n3_ := Aside0.mk ((by rw [hg]; exact (below_size (by repeat (first | (with_reducible first | exact HB.out | apply below_alloc | apply pw_below_drewN | apply below_drew1 | refine below_set ?_ GE132.out) | exact HB.out))) : w.heap.size ≤ gb138)); have n4_ := Aside0.mk ((by rw [hg]; exact (below_size (by repeat (first | (with_reducible first | exact HB.out | apply below_alloc | apply pw_below_drewN | apply below_drew1 | refine below_set ?_ GE132.out) | exact HB.out))) : w.heap.size ≤ gb138)); have n5_ := Aside0.mk ((by rw [hg]; exact Nat.ne_of_lt (blk_lt (g := gb132) (o := .cells #[.slice A0_0 l0_0.length c0_0, .slice (some ad137) l0_1.length c0_1, .slice A0_2 l0_2.length c0_2] 26 (0, 0)) (by (with_reducible repeat (first | refine blk_drewN ?_ _ | refine blk_drew ?_ | refine blk_alloc ?_ _)); exact BK132.out)) : gb132 ≠ gb138)); have n6_ := Aside0.mk ((by rw [hg]; exact Nat.ne_of_gt (blk_lt (g := gb132) (o := .cells #[.slice A0_0 l0_0.length c0_0, .slice (some ad137) l0_1.length c0_1, .slice A0_2 l0_2.length c0_2] 26 (0, 0)) (by (with_reducible repeat (first | refine blk_drewN ?_ _ | refine blk_drew ?_ | refine blk_alloc ?_ _)); exact BK132.out)) : gb138 ≠ gb132)); clear BK132; clear HB; have BK132 := n0_; have HB := n1_; have BK138 := n2_; have GW138 := n3_; have GE138 := n4_; have NB132_138 := n5_; have NB138_132 := n6_; clear n0_ n1_ n2_ n3_ n4_ n5_ n6_; clear hb hbox hg; have hnb28 := NB138_132.out; have hnc28 := NB132_138.out; have hcz29_0 : w27.cell? ⟨gb138, 0, none⟩ = some (.int .i64 0) := (blk_cell BK138.out 0).trans rfl; have hcz29_1 : w27.cell? ⟨gb138, 1, none⟩ = some (.int .i64 0) := (blk_cell BK138.out 1).trans rfl; have hcz29_2 : w27.cell? ⟨gb138, 2, none⟩ = some (.int .i64 0) := (blk_cell BK138.out 2).trans rfl; have hfz29_0 := blk_frozen BK138.out 0; have hfz29_1 := blk_frozen BK138.out 1; have hfz29_2 := blk_frozen BK138.out 2))
     repeat (go_quiet (first | ((with_reducible refine gate_dst (N := 5) rfl ?_); (try (refine gate_guard (by rfl) ?_; dsimp only)); refine box_event ?hg (N := 5) ?hd (cs := #[.int .i64 0, .int .i64 0, .int .i64 0]) (t := 50) ?hr ?_; (case hd => rfl); (case hg => rfl); (case hr => first | (go_simp; done) | (go_simp; rfl)); intro gb138 hg w27 hbox hb; have n0_ := Aside0.mk (blk_below (g := gb132) (o := .cells #[.slice A0_0 l0_0.length c0_0, .slice (some ad137) l0_1.length c0_1, .slice A0_2 l0_2.length c0_2] 26 (0, 0)) (by (with_reducible repeat (first | refine blk_drewN ?_ _ | refine blk_drew ?_ | refine blk_alloc ?_ _)); exact BK132.out) hb); have n1_ := Aside0.mk (below_step (by repeat (first | (with_reducible first | exact HB.out | apply below_alloc | apply pw_below_drewN | apply below_drew1 | refine below_set ?_ GE132.out) | exact HB.out)) hb); have n2_ := Aside0.mk (hbox); have n3_ := Aside0.mk ((by rw [hg]; exact (below_size (by repeat (first | (with_reducible first | exact HB.out | apply below_alloc | apply pw_below_drewN | apply below_drew1 | refine below_set ?_ GE132.out) | exact HB.out))) : w.heap.size ≤ gb138)); have n4_ := Aside0.mk ((by rw [hg]; exact (below_size (by repeat (first | (with_reducible first | exact HB.out | apply below_alloc | apply pw_below_drewN | apply below_drew1 | refine below_set ?_ GE132.out) | exact HB.out))) : w.heap.size ≤ gb138)); have n5_ := Aside0.mk ((by rw [hg]; exact Nat.ne_of_lt (blk_lt (g := gb132) (o := .cells #[.slice A0_0 l0_0.length c0_0, .slice (some ad137) l0_1.length c0_1, .slice A0_2 l0_2.length c0_2] 26 (0, 0)) (by (with_reducible repeat (first | refine blk_drewN ?_ _ | refine blk_drew ?_ | refine blk_alloc ?_ _)); exact BK132.out)) : gb132 ≠ gb138)); have n6_ := Aside0.mk ((by rw [hg]; exact Nat.ne_of_gt (blk_lt (g := gb132) (o := .cells #[.slice A0_0 l0_0.length c0_0, .slice (some ad137) l0_1.length c0_1, .slice A0_2 l0_2.length c0_2] 26 (0, 0)) (by (with_reducible repeat (first | refine blk_drewN ?_ _ | refine blk_drew ?_ | refine blk_alloc ?_ _)); exact BK132.out)) : gb138 ≠ gb132)); clear BK132; clear HB; have BK132 := n0_; have HB := n1_; have BK138 := n2_; have GW138 := n3_; have GE138 := n4_; have NB132_138 := n5_; have NB138_132 := n6_; clear n0_ n1_ n2_ n3_ n4_ n5_ n6_; clear hb hbox hg; have hnb28 := NB138_132.out; have hnc28 := NB132_138.out; have hcz29_0 : w27.cell? ⟨gb138, 0, none⟩ = some (.int .i64 0) := (blk_cell BK138.out 0).trans rfl; have hcz29_1 : w27.cell? ⟨gb138, 1, none⟩ = some (.int .i64 0) := (blk_cell BK138.out 1).trans rfl; have hcz29_2 : w27.cell? ⟨gb138, 2, none⟩ = some (.int .i64 0) := (blk_cell BK138.out 2).trans rfl; have hfz29_0 := blk_frozen BK138.out 0; have hfz29_1 := blk_frozen BK138.out 1; have hfz29_2 := blk_frozen BK138.out 2)); go_upto_region 12 with (first | ((with_reducible refine gate_dst (N := 5) rfl ?_); (try (refine gate_guard (by rfl) ?_; dsimp only)); refine box_event ?hg (N := 5) ?hd (cs := #[.int .i64 0, .int .i64 0, .int .i64 0]) (t := 50) ?hr ?_; (case hd => rfl); (case hg => rfl); (case hr => first | (go_simp; done) | (go_simp; rfl)); intro gb138 hg w27 hbox hb; have n0_ := Aside0.mk (blk_below (g := gb132) (o := .cells #[.slice A0_0 l0_0.length c0_0, .slice (some ad137) l0_1.length c0_1, .slice A0_2 l0_2.length c0_2] 26 (0, 0)) (by (with_reducible repeat (first | refine blk_drewN ?_ _ | refine blk_drew ?_ | refine blk_alloc ?_ _)); exact BK132.out) hb); have n1_ := Aside0.mk (below_step (by repeat (first | (with_reducible first | exact HB.out | apply below_alloc | apply pw_below_drewN | apply below_drew1 | refine below_set ?_ GE132.out) | exact HB.out)) hb); have n2_ := Aside0.mk (hbox); have n3_ := Aside0.mk ((by rw [hg]; exact (below_size (by repeat (first | (with_reducible first | exact HB.out | apply below_alloc | apply pw_below_drewN | apply below_drew1 | refine below_set ?_ GE132.out) | exact HB.out))) : w.heap.size ≤ gb138)); have n4_ := Aside0.mk ((by rw [hg]; exact (below_size (by repeat (first | (with_reducible first | exact HB.out | apply below_alloc | apply pw_below_drewN | apply below_drew1 | refine below_set ?_ GE132.out) | exact HB.out))) : w.heap.size ≤ gb138)); have n5_ := Aside0.mk ((by rw [hg]; exact Nat.ne_of_lt (blk_lt (g := gb132) (o := .cells #[.slice A0_0 l0_0.length c0_0, .slice (some ad137) l0_1.length c0_1, .slice A0_2 l0_2.length c0_2] 26 (0, 0)) (by (with_reducible repeat (first | refine blk_drewN ?_ _ | refine blk_drew ?_ | refine blk_alloc ?_ _)); exact BK132.out)) : gb132 ≠ gb138)); have n6_ := Aside0.mk ((by rw [hg]; exact Nat.ne_of_gt (blk_lt (g := gb132) (o := .cells #[.slice A0_0 l0_0.length c0_0, .slice (some ad137) l0_1.length c0_1, .slice A0_2 l0_2.length c0_2] 26 (0, 0)) (by (with_reducible repeat (first | refine blk_drewN ?_ _ | refine blk_drew ?_ | refine blk_alloc ?_ _)); exact BK132.out)) : gb138 ≠ gb132)); clear BK132; clear HB; have BK132 := n0_; have HB := n1_; have BK138 := n2_; have GW138 := n3_; have GE138 := n4_; have NB132_138 := n5_; have NB138_132 := n6_; clear n0_ n1_ n2_ n3_ n4_ n5_ n6_; clear hb hbox hg; have hnb28 := NB138_132.out; have hnc28 := NB132_138.out; have hcz29_0 : w27.cell? ⟨gb138, 0, none⟩ = some (.int .i64 0) := (blk_cell BK138.out 0).trans rfl; have hcz29_1 : w27.cell? ⟨gb138, 1, none⟩ = some (.int .i64 0) := (blk_cell BK138.out 1).trans rfl; have hcz29_2 : w27.cell? ⟨gb138, 2, none⟩ = some (.int .i64 0) := (blk_cell BK138.out 2).trans rfl; have hfz29_0 := blk_frozen BK138.out 0; have hfz29_1 := blk_frozen BK138.out 1; have hfz29_2 := blk_frozen BK138.out 2)))
     (try simp only [Act.put, List.setIfInBounds_toArray, List.set_cons_zero, List.set_cons_succ])
     go_cut [95] (fun v95 wc => ∃ (kq : Nat) (x95_24 : Bool), v95 = .bool x95_24 ∧ Aside0 (laganref04_CheckBoard.j3 kq x4_3 x95_24 l0_0 l0_1 l0_2 ((rd_T50 l0_1 x4_3).f0) ((rd_T50 l0_1 x4_3).f1) ((rd_T50 l0_1 x4_3).f2) = some r) ∧ Aside0 (kq ≤ k3) ∧ Aside0 (wc.heap[gb132]? = some (.cells #[(.slice A0_0 l0_0.length c0_0), (.slice (some ad137) l0_1.length c0_1), (.slice A0_2 l0_2.length c0_2)] 26 (0, 0))) ∧ Aside0 (wc.heap[gb138]? = some (.cells #[.int .i64 ((rd_T50 l0_1 x4_3).f0), .int .i64 ((rd_T50 l0_1 x4_3).f1), .int .i64 ((rd_T50 l0_1 x4_3).f2)] 50 (0, 0))) ∧ Aside0 (Below w.heap.size w wc))
     case first =>
      have H := HC25.out
      clear HC25
      by_cases c30 : ((rd_T50 l0_1 x4_3).f0) < 1
      ·
       rw [if_pos c30] at H
       have c30b0 : decide (((rd_T50 l0_1 x4_3).f0) < 1) = true := decide_eq_true c30
       clear c30
       (first | rw [c30b0] | (simp only [i64_w, i32_w]; rw [c30b0]) | skip)
       have H' := Aside0.mk H
       clear H
       have hnb31 := NB138_132.out
       have hnc31 := NB132_138.out
       have hcz32_0 : w27.cell? ⟨gb138, 0, none⟩ = some (.int .i64 0) := (blk_cell BK138.out 0).trans rfl
       have hcz32_1 : w27.cell? ⟨gb138, 1, none⟩ = some (.int .i64 0) := (blk_cell BK138.out 1).trans rfl
       have hcz32_2 : w27.cell? ⟨gb138, 2, none⟩ = some (.int .i64 0) := (blk_cell BK138.out 2).trans rfl
       have hfz32_0 := blk_frozen BK138.out 0
       have hfz32_1 := blk_frozen BK138.out 1
       have hfz32_2 := blk_frozen BK138.out 2
       go_wp2
       repeat (go_quiet (fail); try go_wp2)
       go_meet
       case rel => exact ⟨_, (true), (by first | rfl | (simp; done) | (simp [*]; done)), H', ⟨by have := HJ1.out; have := HK2.out; have := HK3.out; first | omega | exact Nat.le_refl _⟩, ⟨by (with_reducible repeat (first | refine blk_drewN ?_ _ | refine blk_drew ?_ | refine blk_alloc ?_ _)); refine blk_far ?_ NB132_138.out _; (with_reducible repeat (first | refine blk_drewN ?_ _ | refine blk_drew ?_ | refine blk_alloc ?_ _)); refine blk_far ?_ NB132_138.out _; (with_reducible repeat (first | refine blk_drewN ?_ _ | refine blk_drew ?_ | refine blk_alloc ?_ _)); refine blk_far ?_ NB132_138.out _; (with_reducible repeat (first | refine blk_drewN ?_ _ | refine blk_drew ?_ | refine blk_alloc ?_ _)); exact BK132.out⟩, ⟨by (with_reducible repeat (first | refine blk_drewN ?_ _ | refine blk_drew ?_ | refine blk_alloc ?_ _)); refine blk_put (cs := #[.int .i64 ((rd_T50 l0_1 x4_3).f0), .int .i64 ((rd_T50 l0_1 x4_3).f1), .int .i64 0]) ?_ 2 _ rfl; (with_reducible repeat (first | refine blk_drewN ?_ _ | refine blk_drew ?_ | refine blk_alloc ?_ _)); refine blk_put (cs := #[.int .i64 ((rd_T50 l0_1 x4_3).f0), .int .i64 0, .int .i64 0]) ?_ 1 _ rfl; (with_reducible repeat (first | refine blk_drewN ?_ _ | refine blk_drew ?_ | refine blk_alloc ?_ _)); refine blk_put (cs := #[.int .i64 0, .int .i64 0, .int .i64 0]) ?_ 0 _ rfl; (with_reducible repeat (first | refine blk_drewN ?_ _ | refine blk_drew ?_ | refine blk_alloc ?_ _)); exact BK138.out⟩, ⟨by repeat (first | (with_reducible first | exact HB.out | apply below_alloc | apply pw_below_drewN | apply below_drew1 | refine below_set ?_ GE132.out | refine below_set ?_ GE138.out) | exact HB.out)⟩⟩
      rw [if_neg c30] at H
      have c30b0 : decide (((rd_T50 l0_1 x4_3).f0) < 1) = false := decide_eq_false c30
      clear c30
      (first | rw [c30b0] | (simp only [i64_w, i32_w]; rw [c30b0]) | skip)
      by_cases c33 : ((rd_T50 l0_1 x4_3).f0) > 20
      ·
       rw [if_pos c33] at H
       have c33b0 : decide (20 < ((rd_T50 l0_1 x4_3).f0)) = true := decide_eq_true c33
       clear c33
       have H' := Aside0.mk H
       clear H
       have hnb34 := NB138_132.out
       have hnc34 := NB132_138.out
       have hcz35_0 : w27.cell? ⟨gb138, 0, none⟩ = some (.int .i64 0) := (blk_cell BK138.out 0).trans rfl
       have hcz35_1 : w27.cell? ⟨gb138, 1, none⟩ = some (.int .i64 0) := (blk_cell BK138.out 1).trans rfl
       have hcz35_2 : w27.cell? ⟨gb138, 2, none⟩ = some (.int .i64 0) := (blk_cell BK138.out 2).trans rfl
       have hfz35_0 := blk_frozen BK138.out 0
       have hfz35_1 := blk_frozen BK138.out 1
       have hfz35_2 := blk_frozen BK138.out 2
       go_wp2
       repeat (go_quiet (fail); try go_wp2)
       go_meet
       case rel => exact ⟨_, (true), (by first | rfl | (simp; done) | (simp [*]; done)), H', ⟨by have := HJ1.out; have := HK2.out; have := HK3.out; first | omega | exact Nat.le_refl _⟩, ⟨by (with_reducible repeat (first | refine blk_drewN ?_ _ | refine blk_drew ?_ | refine blk_alloc ?_ _)); refine blk_far ?_ NB132_138.out _; (with_reducible repeat (first | refine blk_drewN ?_ _ | refine blk_drew ?_ | refine blk_alloc ?_ _)); refine blk_far ?_ NB132_138.out _; (with_reducible repeat (first | refine blk_drewN ?_ _ | refine blk_drew ?_ | refine blk_alloc ?_ _)); refine blk_far ?_ NB132_138.out _; (with_reducible repeat (first | refine blk_drewN ?_ _ | refine blk_drew ?_ | refine blk_alloc ?_ _)); exact BK132.out⟩, ⟨by (with_reducible repeat (first | refine blk_drewN ?_ _ | refine blk_drew ?_ | refine blk_alloc ?_ _)); refine blk_put (cs := #[.int .i64 ((rd_T50 l0_1 x4_3).f0), .int .i64 ((rd_T50 l0_1 x4_3).f1), .int .i64 0]) ?_ 2 _ rfl; (with_reducible repeat (first | refine blk_drewN ?_ _ | refine blk_drew ?_ | refine blk_alloc ?_ _)); refine blk_put (cs := #[.int .i64 ((rd_T50 l0_1 x4_3).f0), .int .i64 0, .int .i64 0]) ?_ 1 _ rfl; (with_reducible repeat (first | refine blk_drewN ?_ _ | refine blk_drew ?_ | refine blk_alloc ?_ _)); refine blk_put (cs := #[.int .i64 0, .int .i64 0, .int .i64 0]) ?_ 0 _ rfl; (with_reducible repeat (first | refine blk_drewN ?_ _ | refine blk_drew ?_ | refine blk_alloc ?_ _)); exact BK138.out⟩, ⟨by repeat (first | (with_reducible first | exact HB.out | apply below_alloc | apply pw_below_drewN | apply below_drew1 | refine below_set ?_ GE132.out | refine below_set ?_ GE138.out) | exact HB.out)⟩⟩
      rw [if_neg c33] at H
      have c33b0 : decide (20 < ((rd_T50 l0_1 x4_3).f0)) = false := decide_eq_false c33
      clear c33
      by_cases c36 : ((rd_T50 l0_1 x4_3).f1) < 1
      ·
       rw [if_pos c36] at H
       have c36b0 : decide (((rd_T50 l0_1 x4_3).f1) < 1) = true := decide_eq_true c36
       clear c36
       have H' := Aside0.mk H
       clear H
       have hnb37 := NB138_132.out
       have hnc37 := NB132_138.out
       have hcz38_0 : w27.cell? ⟨gb138, 0, none⟩ = some (.int .i64 0) := (blk_cell BK138.out 0).trans rfl
       have hcz38_1 : w27.cell? ⟨gb138, 1, none⟩ = some (.int .i64 0) := (blk_cell BK138.out 1).trans rfl
       have hcz38_2 : w27.cell? ⟨gb138, 2, none⟩ = some (.int .i64 0) := (blk_cell BK138.out 2).trans rfl
       have hfz38_0 := blk_frozen BK138.out 0
       have hfz38_1 := blk_frozen BK138.out 1
       have hfz38_2 := blk_frozen BK138.out 2
       go_wp2
       repeat (go_quiet (fail); try go_wp2)
       go_meet
       case rel => exact ⟨_, (true), (by first | rfl | (simp; done) | (simp [*]; done)), H', ⟨by have := HJ1.out; have := HK2.out; have := HK3.out; first | omega | exact Nat.le_refl _⟩, ⟨by (with_reducible repeat (first | refine blk_drewN ?_ _ | refine blk_drew ?_ | refine blk_alloc ?_ _)); refine blk_far ?_ NB132_138.out _; (with_reducible repeat (first | refine blk_drewN ?_ _ | refine blk_drew ?_ | refine blk_alloc ?_ _)); refine blk_far ?_ NB132_138.out _; (with_reducible repeat (first | refine blk_drewN ?_ _ | refine blk_drew ?_ | refine blk_alloc ?_ _)); refine blk_far ?_ NB132_138.out _; (with_reducible repeat (first | refine blk_drewN ?_ _ | refine blk_drew ?_ | refine blk_alloc ?_ _)); exact BK132.out⟩, ⟨by (with_reducible repeat (first | refine blk_drewN ?_ _ | refine blk_drew ?_ | refine blk_alloc ?_ _)); refine blk_put (cs := #[.int .i64 ((rd_T50 l0_1 x4_3).f0), .int .i64 ((rd_T50 l0_1 x4_3).f1), .int .i64 0]) ?_ 2 _ rfl; (with_reducible repeat (first | refine blk_drewN ?_ _ | refine blk_drew ?_ | refine blk_alloc ?_ _)); refine blk_put (cs := #[.int .i64 ((rd_T50 l0_1 x4_3).f0), .int .i64 0, .int .i64 0]) ?_ 1 _ rfl; (with_reducible repeat (first | refine blk_drewN ?_ _ | refine blk_drew ?_ | refine blk_alloc ?_ _)); refine blk_put (cs := #[.int .i64 0, .int .i64 0, .int .i64 0]) ?_ 0 _ rfl; (with_reducible repeat (first | refine blk_drewN ?_ _ | refine blk_drew ?_ | refine blk_alloc ?_ _)); exact BK138.out⟩, ⟨by repeat (first | (with_reducible first | exact HB.out | apply below_alloc | apply pw_below_drewN | apply below_drew1 | refine below_set ?_ GE132.out | refine below_set ?_ GE138.out) | exact HB.out)⟩⟩
      rw [if_neg c36] at H
      have c36b0 : decide (((rd_T50 l0_1 x4_3).f1) < 1) = false := decide_eq_false c36
      clear c36
      by_cases c39 : ((rd_T50 l0_1 x4_3).f1) > 200
      ·
       rw [if_pos c39] at H
       have c39b0 : decide (200 < ((rd_T50 l0_1 x4_3).f1)) = true := decide_eq_true c39
       clear c39
       have H' := Aside0.mk H
       clear H
       have hnb40 := NB138_132.out
       have hnc40 := NB132_138.out
       have hcz41_0 : w27.cell? ⟨gb138, 0, none⟩ = some (.int .i64 0) := (blk_cell BK138.out 0).trans rfl
       have hcz41_1 : w27.cell? ⟨gb138, 1, none⟩ = some (.int .i64 0) := (blk_cell BK138.out 1).trans rfl
       have hcz41_2 : w27.cell? ⟨gb138, 2, none⟩ = some (.int .i64 0) := (blk_cell BK138.out 2).trans rfl
       have hfz41_0 := blk_frozen BK138.out 0
       have hfz41_1 := blk_frozen BK138.out 1
       have hfz41_2 := blk_frozen BK138.out 2
       go_wp2
       repeat (go_quiet (fail); try go_wp2)
       go_meet
       case rel => exact ⟨_, (true), (by first | rfl | (simp; done) | (simp [*]; done)), H', ⟨by have := HJ1.out; have := HK2.out; have := HK3.out; first | omega | exact Nat.le_refl _⟩, ⟨by (with_reducible repeat (first | refine blk_drewN ?_ _ | refine blk_drew ?_ | refine blk_alloc ?_ _)); refine blk_far ?_ NB132_138.out _; (with_reducible repeat (first | refine blk_drewN ?_ _ | refine blk_drew ?_ | refine blk_alloc ?_ _)); refine blk_far ?_ NB132_138.out _; (with_reducible repeat (first | refine blk_drewN ?_ _ | refine blk_drew ?_ | refine blk_alloc ?_ _)); refine blk_far ?_ NB132_138.out _; (with_reducible repeat (first | refine blk_drewN ?_ _ | refine blk_drew ?_ | refine blk_alloc ?_ _)); exact BK132.out⟩, ⟨by (with_reducible repeat (first | refine blk_drewN ?_ _ | refine blk_drew ?_ | refine blk_alloc ?_ _)); refine blk_put (cs := #[.int .i64 ((rd_T50 l0_1 x4_3).f0), .int .i64 ((rd_T50 l0_1 x4_3).f1), .int .i64 0]) ?_ 2 _ rfl; (with_reducible repeat (first | refine blk_drewN ?_ _ | refine blk_drew ?_ | refine blk_alloc ?_ _)); refine blk_put (cs := #[.int .i64 ((rd_T50 l0_1 x4_3).f0), .int .i64 0, .int .i64 0]) ?_ 1 _ rfl; (with_reducible repeat (first | refine blk_drewN ?_ _ | refine blk_drew ?_ | refine blk_alloc ?_ _)); refine blk_put (cs := #[.int .i64 0, .int .i64 0, .int .i64 0]) ?_ 0 _ rfl; (with_reducible repeat (first | refine blk_drewN ?_ _ | refine blk_drew ?_ | refine blk_alloc ?_ _)); exact BK138.out⟩, ⟨by repeat (first | (with_reducible first | exact HB.out | apply below_alloc | apply pw_below_drewN | apply below_drew1 | refine below_set ?_ GE132.out | refine below_set ?_ GE138.out) | exact HB.out)⟩⟩
      rw [if_neg c39] at H
      have c39b0 : decide (200 < ((rd_T50 l0_1 x4_3).f1)) = false := decide_eq_false c39
      clear c39
      by_cases c42 : ((rd_T50 l0_1 x4_3).f2) < 1
      ·
       rw [if_pos c42] at H
       have c42b0 : decide (((rd_T50 l0_1 x4_3).f2) < 1) = true := decide_eq_true c42
       clear c42
       have H' := Aside0.mk H
       clear H
       have hnb43 := NB138_132.out
       have hnc43 := NB132_138.out
       have hcz44_0 : w27.cell? ⟨gb138, 0, none⟩ = some (.int .i64 0) := (blk_cell BK138.out 0).trans rfl
       have hcz44_1 : w27.cell? ⟨gb138, 1, none⟩ = some (.int .i64 0) := (blk_cell BK138.out 1).trans rfl
       have hcz44_2 : w27.cell? ⟨gb138, 2, none⟩ = some (.int .i64 0) := (blk_cell BK138.out 2).trans rfl
       have hfz44_0 := blk_frozen BK138.out 0
       have hfz44_1 := blk_frozen BK138.out 1
       have hfz44_2 := blk_frozen BK138.out 2
       go_wp2
       repeat (go_quiet (fail); try go_wp2)
       go_meet
       case rel => exact ⟨_, (true), (by first | rfl | (simp; done) | (simp [*]; done)), H', ⟨by have := HJ1.out; have := HK2.out; have := HK3.out; first | omega | exact Nat.le_refl _⟩, ⟨by (with_reducible repeat (first | refine blk_drewN ?_ _ | refine blk_drew ?_ | refine blk_alloc ?_ _)); refine blk_far ?_ NB132_138.out _; (with_reducible repeat (first | refine blk_drewN ?_ _ | refine blk_drew ?_ | refine blk_alloc ?_ _)); refine blk_far ?_ NB132_138.out _; (with_reducible repeat (first | refine blk_drewN ?_ _ | refine blk_drew ?_ | refine blk_alloc ?_ _)); refine blk_far ?_ NB132_138.out _; (with_reducible repeat (first | refine blk_drewN ?_ _ | refine blk_drew ?_ | refine blk_alloc ?_ _)); exact BK132.out⟩, ⟨by (with_reducible repeat (first | refine blk_drewN ?_ _ | refine blk_drew ?_ | refine blk_alloc ?_ _)); refine blk_put (cs := #[.int .i64 ((rd_T50 l0_1 x4_3).f0), .int .i64 ((rd_T50 l0_1 x4_3).f1), .int .i64 0]) ?_ 2 _ rfl; (with_reducible repeat (first | refine blk_drewN ?_ _ | refine blk_drew ?_ | refine blk_alloc ?_ _)); refine blk_put (cs := #[.int .i64 ((rd_T50 l0_1 x4_3).f0), .int .i64 0, .int .i64 0]) ?_ 1 _ rfl; (with_reducible repeat (first | refine blk_drewN ?_ _ | refine blk_drew ?_ | refine blk_alloc ?_ _)); refine blk_put (cs := #[.int .i64 0, .int .i64 0, .int .i64 0]) ?_ 0 _ rfl; (with_reducible repeat (first | refine blk_drewN ?_ _ | refine blk_drew ?_ | refine blk_alloc ?_ _)); exact BK138.out⟩, ⟨by repeat (first | (with_reducible first | exact HB.out | apply below_alloc | apply pw_below_drewN | apply below_drew1 | refine below_set ?_ GE132.out | refine below_set ?_ GE138.out) | exact HB.out)⟩⟩
      rw [if_neg c42] at H
      have c42b0 : decide (((rd_T50 l0_1 x4_3).f2) < 1) = false := decide_eq_false c42
      clear c42
      have H' := Aside0.mk H
      clear H
      have hnb45 := NB138_132.out
      have hnc45 := NB132_138.out
      have hcz46_0 : w27.cell? ⟨gb138, 0, none⟩ = some (.int .i64 0) := (blk_cell BK138.out 0).trans rfl
      have hcz46_1 : w27.cell? ⟨gb138, 1, none⟩ = some (.int .i64 0) := (blk_cell BK138.out 1).trans rfl
      have hcz46_2 : w27.cell? ⟨gb138, 2, none⟩ = some (.int .i64 0) := (blk_cell BK138.out 2).trans rfl
      have hfz46_0 := blk_frozen BK138.out 0
      have hfz46_1 := blk_frozen BK138.out 1
      have hfz46_2 := blk_frozen BK138.out 2
      go_wp2
      repeat (go_quiet (fail); try go_wp2)
      go_meet
      case rel => exact ⟨_, (decide (((rd_T50 l0_1 x4_3).f2) > 20)), (by first | rfl | (simp; done) | (simp [*]; done)), H', ⟨by have := HJ1.out; have := HK2.out; have := HK3.out; first | omega | exact Nat.le_refl _⟩, ⟨by (with_reducible repeat (first | refine blk_drewN ?_ _ | refine blk_drew ?_ | refine blk_alloc ?_ _)); refine blk_far ?_ NB132_138.out _; (with_reducible repeat (first | refine blk_drewN ?_ _ | refine blk_drew ?_ | refine blk_alloc ?_ _)); refine blk_far ?_ NB132_138.out _; (with_reducible repeat (first | refine blk_drewN ?_ _ | refine blk_drew ?_ | refine blk_alloc ?_ _)); refine blk_far ?_ NB132_138.out _; (with_reducible repeat (first | refine blk_drewN ?_ _ | refine blk_drew ?_ | refine blk_alloc ?_ _)); exact BK132.out⟩, ⟨by (with_reducible repeat (first | refine blk_drewN ?_ _ | refine blk_drew ?_ | refine blk_alloc ?_ _)); refine blk_put (cs := #[.int .i64 ((rd_T50 l0_1 x4_3).f0), .int .i64 ((rd_T50 l0_1 x4_3).f1), .int .i64 0]) ?_ 2 _ rfl; (with_reducible repeat (first | refine blk_drewN ?_ _ | refine blk_drew ?_ | refine blk_alloc ?_ _)); refine blk_put (cs := #[.int .i64 ((rd_T50 l0_1 x4_3).f0), .int .i64 0, .int .i64 0]) ?_ 1 _ rfl; (with_reducible repeat (first | refine blk_drewN ?_ _ | refine blk_drew ?_ | refine blk_alloc ?_ _)); refine blk_put (cs := #[.int .i64 0, .int .i64 0, .int .i64 0]) ?_ 0 _ rfl; (with_reducible repeat (first | refine blk_drewN ?_ _ | refine blk_drew ?_ | refine blk_alloc ?_ _)); exact BK138.out⟩, ⟨by repeat (first | (with_reducible first | exact HB.out | apply below_alloc | apply pw_below_drewN | apply below_drew1 | refine below_set ?_ GE132.out | refine below_set ?_ GE138.out) | exact HB.out)⟩⟩
     case rest =>
      clear HC25
      try clear c1
      try clear p1
      try clear q1
      try clear hx1
      try clear c2
      try clear p2
      try clear c3
      try clear c4
      try clear c4b0
      try clear c4b1
      try clear p6
      try clear c7
      try clear c8
      try clear c8b0
      try clear c9
      try clear c9b0
      try clear c10
      try clear c10b0
      try clear c12
      try clear c12b0
      try clear p13
      try clear q13
      try clear hx13
      try clear c14
      try clear c14b0
      try clear c16
      try clear c16b0
      try clear c17
      try clear c17b0
      try clear c18
      try clear c18b0
      try clear c19
      try clear c23
      try clear c23b0
      try clear c24
      try clear c24b0
      try clear c28
      try clear c30
      try clear c30b0
      try clear c31
      try clear c33
      try clear c33b0
      try clear c34
      try clear c36
      try clear c36b0
      try clear c37
      try clear c39
      try clear c39b0
      try clear c40
      try clear c42
      try clear c42b0
      try clear c43
      try clear c45
      try clear hcz11_0
      try clear hcz11_1
      try clear hcz11_2
      try clear hcz13_0
      try clear hcz13_1
      try clear hcz13_2
      try clear hcz19_0
      try clear hcz19_1
      try clear hcz19_2
      try clear hcz20_0
      try clear hcz20_1
      try clear hcz20_2
      try clear hcz21_0
      try clear hcz21_1
      try clear hcz21_2
      try clear hcz22_0
      try clear hcz22_1
      try clear hcz22_2
      try clear hcz26_0
      try clear hcz26_1
      try clear hcz26_2
      try clear hcz29_0
      try clear hcz29_1
      try clear hcz29_2
      try clear hcz32_0
      try clear hcz32_1
      try clear hcz32_2
      try clear hcz35_0
      try clear hcz35_1
      try clear hcz35_2
      try clear hcz38_0
      try clear hcz38_1
      try clear hcz38_2
      try clear hcz41_0
      try clear hcz41_1
      try clear hcz41_2
      try clear hcz44_0
      try clear hcz44_1
      try clear hcz44_2
      try clear hcz46_0
      try clear hcz46_1
      try clear hcz46_2
      try clear hcz5_0
      try clear hcz5_1
      try clear hcz5_2
      try clear hcz6_0
      try clear hcz6_1
      try clear hcz6_2
      try clear hfz11_0
      try clear hfz11_1
      try clear hfz11_2
      try clear hfz13_0
      try clear hfz13_1
      try clear hfz13_2
      try clear hfz19_0
      try clear hfz19_1
      try clear hfz19_2
      try clear hfz20_0
      try clear hfz20_1
      try clear hfz20_2
      try clear hfz21_0
      try clear hfz21_1
      try clear hfz21_2
      try clear hfz22_0
      try clear hfz22_1
      try clear hfz22_2
      try clear hfz26_0
      try clear hfz26_1
      try clear hfz26_2
      try clear hfz29_0
      try clear hfz29_1
      try clear hfz29_2
      try clear hfz32_0
      try clear hfz32_1
      try clear hfz32_2
      try clear hfz35_0
      try clear hfz35_1
      try clear hfz35_2
      try clear hfz38_0
      try clear hfz38_1
      try clear hfz38_2
      try clear hfz41_0
      try clear hfz41_1
      try clear hfz41_2
      try clear hfz44_0
      try clear hfz44_1
      try clear hfz44_2
      try clear hfz46_0
      try clear hfz46_1
      try clear hfz46_2
      try clear hfz5_0
      try clear hfz5_1
      try clear hfz5_2
      try clear hfz6_0
      try clear hfz6_1
      try clear hfz6_2
      try clear hx133_0
      try clear hx134_0
      try clear hx135_0
      try clear hx136_0
      try clear hx137_0
      try clear hx137_1
      try clear hx137_2
      try clear p1
      try clear p13
      try clear p133
      try clear p134
      try clear p135
      try clear p136
      try clear p137
      try clear p2
      try clear p6
      try clear q1
      try clear q13
      try clear q133
      try clear q134
      try clear q135
      try clear q136
      try clear q137
      obtain ⟨kq, x95_24, rfl, HA, HJ24, BK132, BK138, HB⟩ := hcut
      cases kq with
      | zero => exact absurd HA.out (by simp [laganref04_CheckBoard.j3])
      | succ kj24 =>
       have H := HA.out
       clear HA
       simp only [laganref04_CheckBoard.j3] at H
       by_cases c47 : x95_24 = true
       ·
        subst c47
        have H1 : (some 1) = some r := by rw [if_pos rfl] at H; exact H
        clear H
        have H := H1
        clear H1
        obtain rfl := Option.some.inj H
        go_wp2
        repeat (go_quiet (fail); try go_wp2)
        go_ret
        exact ⟨by first | rfl | (simp [errW_none, errW_some] <;> rfl) | (simp [*, errW_none, errW_some] <;> rfl), by repeat (first | (with_reducible first | exact HB.out | apply below_alloc | apply pw_below_drewN | apply below_drew1 | refine below_set ?_ GE132.out | refine below_set ?_ GE138.out) | exact HB.out)⟩
       replace c47 := Bool.eq_false_iff.mpr c47
       subst c47
       have H1 : (if x4_3 > 0 then (if 0 ≤ (wrap64 (x4_3 - 1)) then (if (wrap64 (x4_3 - 1)) < (l0_1.length : Int) then (if ((rd_T50 l0_1 x4_3).f0) < ((rd_T50 l0_1 (wrap64 (x4_3 - 1))).f0) then (some 1) else (if ((rd_T50 l0_1 x4_3).f0) = ((rd_T50 l0_1 (wrap64 (x4_3 - 1))).f0) then (if ((rd_T50 l0_1 x4_3).f1) ≤ ((rd_T50 l0_1 (wrap64 (x4_3 - 1))).f1) then (some 1) else (laganref04_CheckBoard.l1 kj24 (wrap64 (x4_3 + 1)) l0_0 l0_1 l0_2)) else (laganref04_CheckBoard.l1 kj24 (wrap64 (x4_3 + 1)) l0_0 l0_1 l0_2))) else (none)) else (none)) else (laganref04_CheckBoard.l1 kj24 (wrap64 (x4_3 + 1)) l0_0 l0_1 l0_2)) = some r := by rw [if_neg (show ¬ (false = true) by decide)] at H; exact H
       clear H
       have H := H1
       clear H1
       by_cases c48 : x4_3 > 0
       rotate_left
       ·
        rw [if_neg c48] at H
        have c48b0 : decide (0 < x4_3) = false := decide_eq_false c48
        clear c48
        have H' := Aside0.mk H
        clear H
        go_wp2
        repeat (go_quiet (fail); try go_wp2)
        go_roundg kj24
        case measure => have := HJ1.out; have := HK2.out; have := HK3.out; have := HJ24.out; omega
        case rel => exact ⟨(wrap64 (x4_3 + 1)), (by first | rfl | (simp; done) | (simp [*]; done)), H', ⟨by have := HJ1.out; have := HK2.out; have := HK3.out; have := HJ24.out; omega⟩, ⟨by (with_reducible repeat (first | refine blk_drewN ?_ _ | refine blk_drew ?_ | refine blk_alloc ?_ _)); exact BK132.out⟩, ⟨by repeat (first | (with_reducible first | exact HB.out | apply below_alloc | apply pw_below_drewN | apply below_drew1 | refine below_set ?_ GE132.out | refine below_set ?_ GE138.out) | exact HB.out)⟩⟩
       rw [if_pos c48] at H
       have c48b0 : decide (0 < x4_3) = true := decide_eq_true c48
       clear c48
       obtain ⟨ji49, hji49⟩ : ∃ j_ : Int, (wrap64 (x4_3 - 1)) = j_ := ⟨_, rfl⟩
       replace H : (if 0 ≤ (ji49) then (if (ji49) < (l0_1.length : Int) then (if ((rd_T50 l0_1 x4_3).f0) < ((rd_T50 l0_1 (ji49)).f0) then (some 1) else (if ((rd_T50 l0_1 x4_3).f0) = ((rd_T50 l0_1 (ji49)).f0) then (if ((rd_T50 l0_1 x4_3).f1) ≤ ((rd_T50 l0_1 (ji49)).f1) then (some 1) else (laganref04_CheckBoard.l1 kj24 (wrap64 (x4_3 + 1)) l0_0 l0_1 l0_2)) else (laganref04_CheckBoard.l1 kj24 (wrap64 (x4_3 + 1)) l0_0 l0_1 l0_2))) else (none)) else (none)) = some r := by first | (rw [hji49] at H; exact H) | (simp only [hji49] at H ⊢; exact H)
       have hji49w : (IntKind.i64.wrap (x4_3 - 1)) = ji49 := (i64_w _).trans hji49
       by_cases c50 : 0 ≤ (ji49)
       rotate_left
       ·
        rw [if_neg c50] at H
        exact absurd H (by simp)
       rw [if_pos c50] at H
       have c50b0 : decide (0 ≤ (ji49)) = true := decide_eq_true c50
       clear c50
       by_cases c51 : (ji49) < (l0_1.length : Int)
       rotate_left
       ·
        rw [if_neg c51] at H
        exact absurd H (by simp)
       rw [if_pos c51] at H
       have c51b0 : decide ((ji49) < (l0_1.length : Int)) = true := decide_eq_true c51
       clear c51
       by_cases c52 : ((rd_T50 l0_1 x4_3).f0) < ((rd_T50 l0_1 (ji49)).f0)
       ·
        rw [if_pos c52] at H
        have c52b0 : decide (((rd_T50 l0_1 x4_3).f0) < ((rd_T50 l0_1 (ji49)).f0)) = true := decide_eq_true c52
        clear c52
        obtain rfl := Option.some.inj H
        have hnb53 := NB138_132.out
        have hnc53 := NB132_138.out
        have hcz54_0 : wc.cell? ⟨gb138, 0, none⟩ = some (.int .i64 ((rd_T50 l0_1 x4_3).f0)) := (blk_cell BK138.out 0).trans rfl
        have hcz54_1 : wc.cell? ⟨gb138, 1, none⟩ = some (.int .i64 ((rd_T50 l0_1 x4_3).f1)) := (blk_cell BK138.out 1).trans rfl
        have hcz54_2 : wc.cell? ⟨gb138, 2, none⟩ = some (.int .i64 ((rd_T50 l0_1 x4_3).f2)) := (blk_cell BK138.out 2).trans rfl
        have hfz54_0 := blk_frozen BK138.out 0
        have hfz54_1 := blk_frozen BK138.out 1
        have hfz54_2 := blk_frozen BK138.out 2
        have hcz55_0 : wc.cell? ⟨gb132, 0, none⟩ = some (.slice A0_0 l0_0.length c0_0) := (blk_cell BK132.out 0).trans rfl
        have hcz55_1 : wc.cell? ⟨gb132, 1, none⟩ = some (.slice (some ad137) l0_1.length c0_1) := (blk_cell BK132.out 1).trans rfl
        have hcz55_2 : wc.cell? ⟨gb132, 2, none⟩ = some (.slice A0_2 l0_2.length c0_2) := (blk_cell BK132.out 2).trans rfl
        have hfz55_0 := blk_frozen BK132.out 0
        have hfz55_1 := blk_frozen BK132.out 1
        have hfz55_2 := blk_frozen BK132.out 2
        have p139 : 0 ≤ ((ji49) : Int) := of_decide_eq_true (by first | (with_reducible assumption) | assumption)
        have q139 : (ji49) < (l0_1.length : Int) := of_decide_eq_true (by first | (with_reducible assumption) | assumption)
        obtain ⟨ad139, e139, hx139_0, hx139_1, hx139_2⟩ := at_T50 HR0_1.out (ji49) p139 q139
        obtain rfl : ad137 = ad139 := (by injection e139)
        replace hx139_0 := (HB.out.cell (World.block_lt_of_cell? w _ hx139_0)).trans hx139_0
        replace hx139_1 := (HB.out.cell (World.block_lt_of_cell? w _ hx139_1)).trans hx139_1
        replace hx139_2 := (HB.out.cell (World.block_lt_of_cell? w _ hx139_2)).trans hx139_2
        replace p139 := eq_true p139
        replace q139 := eq_true q139
        go_wp2
        repeat (go_quiet (fail); try go_wp2)
        go_ret
        exact ⟨by first | rfl | (simp [errW_none, errW_some] <;> rfl) | (simp only [← hji49]; first | rfl | (simp [errW_none, errW_some] <;> rfl)) | (simp [*, errW_none, errW_some] <;> rfl), by repeat (first | (with_reducible first | exact HB.out | apply below_alloc | apply pw_below_drewN | apply below_drew1 | refine below_set ?_ GE132.out | refine below_set ?_ GE138.out) | exact HB.out)⟩
       rw [if_neg c52] at H
       have c52b0 : decide (((rd_T50 l0_1 x4_3).f0) < ((rd_T50 l0_1 (ji49)).f0)) = false := decide_eq_false c52
       clear c52
       by_cases c56 : ((rd_T50 l0_1 x4_3).f0) = ((rd_T50 l0_1 (ji49)).f0)
       rotate_left
       ·
        rw [if_neg c56] at H
        have c56b0 : (((rd_T50 l0_1 x4_3).f0) == ((rd_T50 l0_1 (ji49)).f0)) = false := beq_eq_false_iff_ne.mpr c56
        have c56b1 : (((rd_T50 l0_1 x4_3).f0) != ((rd_T50 l0_1 (ji49)).f0)) = true := bne_iff_ne.mpr c56
        have H' := Aside0.mk H
        clear H
        have hnb64 := NB138_132.out
        have hnc64 := NB132_138.out
        have hcz65_0 : wc.cell? ⟨gb138, 0, none⟩ = some (.int .i64 ((rd_T50 l0_1 x4_3).f0)) := (blk_cell BK138.out 0).trans rfl
        have hcz65_1 : wc.cell? ⟨gb138, 1, none⟩ = some (.int .i64 ((rd_T50 l0_1 x4_3).f1)) := (blk_cell BK138.out 1).trans rfl
        have hcz65_2 : wc.cell? ⟨gb138, 2, none⟩ = some (.int .i64 ((rd_T50 l0_1 x4_3).f2)) := (blk_cell BK138.out 2).trans rfl
        have hfz65_0 := blk_frozen BK138.out 0
        have hfz65_1 := blk_frozen BK138.out 1
        have hfz65_2 := blk_frozen BK138.out 2
        have hcz66_0 : wc.cell? ⟨gb132, 0, none⟩ = some (.slice A0_0 l0_0.length c0_0) := (blk_cell BK132.out 0).trans rfl
        have hcz66_1 : wc.cell? ⟨gb132, 1, none⟩ = some (.slice (some ad137) l0_1.length c0_1) := (blk_cell BK132.out 1).trans rfl
        have hcz66_2 : wc.cell? ⟨gb132, 2, none⟩ = some (.slice A0_2 l0_2.length c0_2) := (blk_cell BK132.out 2).trans rfl
        have hfz66_0 := blk_frozen BK132.out 0
        have hfz66_1 := blk_frozen BK132.out 1
        have hfz66_2 := blk_frozen BK132.out 2
        have p139 : 0 ≤ ((ji49) : Int) := of_decide_eq_true (by first | (with_reducible assumption) | assumption)
        have q139 : (ji49) < (l0_1.length : Int) := of_decide_eq_true (by first | (with_reducible assumption) | assumption)
        obtain ⟨ad139, e139, hx139_0, hx139_1, hx139_2⟩ := at_T50 HR0_1.out (ji49) p139 q139
        obtain rfl : ad137 = ad139 := (by injection e139)
        replace hx139_0 := (HB.out.cell (World.block_lt_of_cell? w _ hx139_0)).trans hx139_0
        replace hx139_1 := (HB.out.cell (World.block_lt_of_cell? w _ hx139_1)).trans hx139_1
        replace hx139_2 := (HB.out.cell (World.block_lt_of_cell? w _ hx139_2)).trans hx139_2
        replace p139 := eq_true p139
        replace q139 := eq_true q139
        have p140 : 0 ≤ ((ji49) : Int) := of_decide_eq_true (by first | (with_reducible assumption) | assumption)
        have q140 : (ji49) < (l0_1.length : Int) := of_decide_eq_true (by first | (with_reducible assumption) | assumption)
        obtain ⟨ad140, e140, hx140_0, hx140_1, hx140_2⟩ := at_T50 HR0_1.out (ji49) p140 q140
        obtain rfl : ad137 = ad140 := (by injection e140)
        replace hx140_0 := (HB.out.cell (World.block_lt_of_cell? w _ hx140_0)).trans hx140_0
        replace hx140_1 := (HB.out.cell (World.block_lt_of_cell? w _ hx140_1)).trans hx140_1
        replace hx140_2 := (HB.out.cell (World.block_lt_of_cell? w _ hx140_2)).trans hx140_2
        replace p140 := eq_true p140
        replace q140 := eq_true q140
        go_wp2
        repeat (go_quiet (fail); try go_wp2)
        go_roundg kj24
        case measure => have := HJ1.out; have := HK2.out; have := HK3.out; have := HJ24.out; omega
        case rel => exact ⟨(wrap64 (x4_3 + 1)), (by first | rfl | (simp; done) | (simp [*]; done)), H', ⟨by have := HJ1.out; have := HK2.out; have := HK3.out; have := HJ24.out; omega⟩, ⟨by (with_reducible repeat (first | refine blk_drewN ?_ _ | refine blk_drew ?_ | refine blk_alloc ?_ _)); exact BK132.out⟩, ⟨by repeat (first | (with_reducible first | exact HB.out | apply below_alloc | apply pw_below_drewN | apply below_drew1 | refine below_set ?_ GE132.out | refine below_set ?_ GE138.out) | exact HB.out)⟩⟩
       rw [if_pos c56] at H
       have c56b0 : (((rd_T50 l0_1 x4_3).f0) == ((rd_T50 l0_1 (ji49)).f0)) = true := beq_iff_eq.mpr c56
       have c56b1 : (((rd_T50 l0_1 x4_3).f0) != ((rd_T50 l0_1 (ji49)).f0)) = false := bne_eq_false_iff_eq.mpr c56
       clear c56
       by_cases c57 : ((rd_T50 l0_1 x4_3).f1) ≤ ((rd_T50 l0_1 (ji49)).f1)
       ·
        rw [if_pos c57] at H
        have c57b0 : decide (((rd_T50 l0_1 x4_3).f1) ≤ ((rd_T50 l0_1 (ji49)).f1)) = true := decide_eq_true c57
        clear c57
        obtain rfl := Option.some.inj H
        have hnb58 := NB138_132.out
        have hnc58 := NB132_138.out
        have hcz59_0 : wc.cell? ⟨gb138, 0, none⟩ = some (.int .i64 ((rd_T50 l0_1 x4_3).f0)) := (blk_cell BK138.out 0).trans rfl
        have hcz59_1 : wc.cell? ⟨gb138, 1, none⟩ = some (.int .i64 ((rd_T50 l0_1 x4_3).f1)) := (blk_cell BK138.out 1).trans rfl
        have hcz59_2 : wc.cell? ⟨gb138, 2, none⟩ = some (.int .i64 ((rd_T50 l0_1 x4_3).f2)) := (blk_cell BK138.out 2).trans rfl
        have hfz59_0 := blk_frozen BK138.out 0
        have hfz59_1 := blk_frozen BK138.out 1
        have hfz59_2 := blk_frozen BK138.out 2
        have hcz60_0 : wc.cell? ⟨gb132, 0, none⟩ = some (.slice A0_0 l0_0.length c0_0) := (blk_cell BK132.out 0).trans rfl
        have hcz60_1 : wc.cell? ⟨gb132, 1, none⟩ = some (.slice (some ad137) l0_1.length c0_1) := (blk_cell BK132.out 1).trans rfl
        have hcz60_2 : wc.cell? ⟨gb132, 2, none⟩ = some (.slice A0_2 l0_2.length c0_2) := (blk_cell BK132.out 2).trans rfl
        have hfz60_0 := blk_frozen BK132.out 0
        have hfz60_1 := blk_frozen BK132.out 1
        have hfz60_2 := blk_frozen BK132.out 2
        have p139 : 0 ≤ ((ji49) : Int) := of_decide_eq_true (by first | (with_reducible assumption) | assumption)
        have q139 : (ji49) < (l0_1.length : Int) := of_decide_eq_true (by first | (with_reducible assumption) | assumption)
        obtain ⟨ad139, e139, hx139_0, hx139_1, hx139_2⟩ := at_T50 HR0_1.out (ji49) p139 q139
        obtain rfl : ad137 = ad139 := (by injection e139)
        replace hx139_0 := (HB.out.cell (World.block_lt_of_cell? w _ hx139_0)).trans hx139_0
        replace hx139_1 := (HB.out.cell (World.block_lt_of_cell? w _ hx139_1)).trans hx139_1
        replace hx139_2 := (HB.out.cell (World.block_lt_of_cell? w _ hx139_2)).trans hx139_2
        replace p139 := eq_true p139
        replace q139 := eq_true q139
        have p140 : 0 ≤ ((ji49) : Int) := of_decide_eq_true (by first | (with_reducible assumption) | assumption)
        have q140 : (ji49) < (l0_1.length : Int) := of_decide_eq_true (by first | (with_reducible assumption) | assumption)
        obtain ⟨ad140, e140, hx140_0, hx140_1, hx140_2⟩ := at_T50 HR0_1.out (ji49) p140 q140
        obtain rfl : ad137 = ad140 := (by injection e140)
        replace hx140_0 := (HB.out.cell (World.block_lt_of_cell? w _ hx140_0)).trans hx140_0
        replace hx140_1 := (HB.out.cell (World.block_lt_of_cell? w _ hx140_1)).trans hx140_1
        replace hx140_2 := (HB.out.cell (World.block_lt_of_cell? w _ hx140_2)).trans hx140_2
        replace p140 := eq_true p140
        replace q140 := eq_true q140
        have p141 : 0 ≤ ((ji49) : Int) := of_decide_eq_true (by first | (with_reducible assumption) | assumption)
        have q141 : (ji49) < (l0_1.length : Int) := of_decide_eq_true (by first | (with_reducible assumption) | assumption)
        obtain ⟨ad141, e141, hx141_0, hx141_1, hx141_2⟩ := at_T50 HR0_1.out (ji49) p141 q141
        obtain rfl : ad137 = ad141 := (by injection e141)
        replace hx141_0 := (HB.out.cell (World.block_lt_of_cell? w _ hx141_0)).trans hx141_0
        replace hx141_1 := (HB.out.cell (World.block_lt_of_cell? w _ hx141_1)).trans hx141_1
        replace hx141_2 := (HB.out.cell (World.block_lt_of_cell? w _ hx141_2)).trans hx141_2
        replace p141 := eq_true p141
        replace q141 := eq_true q141
        go_wp2
        repeat (go_quiet (fail); try go_wp2)
        go_ret
        exact ⟨by first | rfl | (simp [errW_none, errW_some] <;> rfl) | (simp only [← hji49]; first | rfl | (simp [errW_none, errW_some] <;> rfl)) | (simp [*, errW_none, errW_some] <;> rfl), by repeat (first | (with_reducible first | exact HB.out | apply below_alloc | apply pw_below_drewN | apply below_drew1 | refine below_set ?_ GE132.out | refine below_set ?_ GE138.out) | exact HB.out)⟩
       rw [if_neg c57] at H
       have c57b0 : decide (((rd_T50 l0_1 x4_3).f1) ≤ ((rd_T50 l0_1 (ji49)).f1)) = false := decide_eq_false c57
       clear c57
       have H' := Aside0.mk H
       clear H
       have hnb61 := NB138_132.out
       have hnc61 := NB132_138.out
       have hcz62_0 : wc.cell? ⟨gb138, 0, none⟩ = some (.int .i64 ((rd_T50 l0_1 x4_3).f0)) := (blk_cell BK138.out 0).trans rfl
       have hcz62_1 : wc.cell? ⟨gb138, 1, none⟩ = some (.int .i64 ((rd_T50 l0_1 x4_3).f1)) := (blk_cell BK138.out 1).trans rfl
       have hcz62_2 : wc.cell? ⟨gb138, 2, none⟩ = some (.int .i64 ((rd_T50 l0_1 x4_3).f2)) := (blk_cell BK138.out 2).trans rfl
       have hfz62_0 := blk_frozen BK138.out 0
       have hfz62_1 := blk_frozen BK138.out 1
       have hfz62_2 := blk_frozen BK138.out 2
       have hcz63_0 : wc.cell? ⟨gb132, 0, none⟩ = some (.slice A0_0 l0_0.length c0_0) := (blk_cell BK132.out 0).trans rfl
       have hcz63_1 : wc.cell? ⟨gb132, 1, none⟩ = some (.slice (some ad137) l0_1.length c0_1) := (blk_cell BK132.out 1).trans rfl
       have hcz63_2 : wc.cell? ⟨gb132, 2, none⟩ = some (.slice A0_2 l0_2.length c0_2) := (blk_cell BK132.out 2).trans rfl
       have hfz63_0 := blk_frozen BK132.out 0
       have hfz63_1 := blk_frozen BK132.out 1
       have hfz63_2 := blk_frozen BK132.out 2
       have p139 : 0 ≤ ((ji49) : Int) := of_decide_eq_true (by first | (with_reducible assumption) | assumption)
       have q139 : (ji49) < (l0_1.length : Int) := of_decide_eq_true (by first | (with_reducible assumption) | assumption)
       obtain ⟨ad139, e139, hx139_0, hx139_1, hx139_2⟩ := at_T50 HR0_1.out (ji49) p139 q139
       obtain rfl : ad137 = ad139 := (by injection e139)
       replace hx139_0 := (HB.out.cell (World.block_lt_of_cell? w _ hx139_0)).trans hx139_0
       replace hx139_1 := (HB.out.cell (World.block_lt_of_cell? w _ hx139_1)).trans hx139_1
       replace hx139_2 := (HB.out.cell (World.block_lt_of_cell? w _ hx139_2)).trans hx139_2
       replace p139 := eq_true p139
       replace q139 := eq_true q139
       have p140 : 0 ≤ ((ji49) : Int) := of_decide_eq_true (by first | (with_reducible assumption) | assumption)
       have q140 : (ji49) < (l0_1.length : Int) := of_decide_eq_true (by first | (with_reducible assumption) | assumption)
       obtain ⟨ad140, e140, hx140_0, hx140_1, hx140_2⟩ := at_T50 HR0_1.out (ji49) p140 q140
       obtain rfl : ad137 = ad140 := (by injection e140)
       replace hx140_0 := (HB.out.cell (World.block_lt_of_cell? w _ hx140_0)).trans hx140_0
       replace hx140_1 := (HB.out.cell (World.block_lt_of_cell? w _ hx140_1)).trans hx140_1
       replace hx140_2 := (HB.out.cell (World.block_lt_of_cell? w _ hx140_2)).trans hx140_2
       replace p140 := eq_true p140
       replace q140 := eq_true q140
       have p141 : 0 ≤ ((ji49) : Int) := of_decide_eq_true (by first | (with_reducible assumption) | assumption)
       have q141 : (ji49) < (l0_1.length : Int) := of_decide_eq_true (by first | (with_reducible assumption) | assumption)
       obtain ⟨ad141, e141, hx141_0, hx141_1, hx141_2⟩ := at_T50 HR0_1.out (ji49) p141 q141
       obtain rfl : ad137 = ad141 := (by injection e141)
       replace hx141_0 := (HB.out.cell (World.block_lt_of_cell? w _ hx141_0)).trans hx141_0
       replace hx141_1 := (HB.out.cell (World.block_lt_of_cell? w _ hx141_1)).trans hx141_1
       replace hx141_2 := (HB.out.cell (World.block_lt_of_cell? w _ hx141_2)).trans hx141_2
       replace p141 := eq_true p141
       replace q141 := eq_true q141
       go_wp2
       repeat (go_quiet (fail); try go_wp2)
       go_roundg kj24
       case measure => have := HJ1.out; have := HK2.out; have := HK3.out; have := HJ24.out; omega
       case rel => exact ⟨(wrap64 (x4_3 + 1)), (by first | rfl | (simp; done) | (simp [*]; done)), H', ⟨by have := HJ1.out; have := HK2.out; have := HK3.out; have := HJ24.out; omega⟩, ⟨by (with_reducible repeat (first | refine blk_drewN ?_ _ | refine blk_drew ?_ | refine blk_alloc ?_ _)); exact BK132.out⟩, ⟨by repeat (first | (with_reducible first | exact HB.out | apply below_alloc | apply pw_below_drewN | apply below_drew1 | refine below_set ?_ GE132.out | refine below_set ?_ GE138.out) | exact HB.out)⟩⟩
def laganref04_there.f (k : Nat) (l0_0 : List Int) (l0_1 : List (S50)) (l0_2 : List (List Int)) (a1 : Int) (a2 : Int) : Option (Int) := (laganref04_CheckBoard.f k l0_0 l0_1 l0_2).bind fun t296 => (if t296 = 0 then (if a1 < 0 then (some 1) else (if a1 ≥ (l0_0.length : Int) then (some 1) else (if a2 < 0 then (some 1) else (if a2 ≥ (l0_1.length : Int) then (some 1) else (some t296))))) else (some t296))
set_option maxHeartbeats 8000000 in
set_option maxRecDepth 100000 in
theorem laganref04_there.calls (k : Nat) (A0_0 : Option Addr) (c0_0 : Nat) (l0_0 : List Int) (A0_1 : Option Addr) (c0_1 : Nat) (l0_1 : List (S50)) (A0_2 : Option Addr) (c0_2 : Nat) (l0_2 : List (List Int)) (a1 : Int) (a2 : Int) (r : Int) (w : World) (hr0_0 : Kd.C (Kd.int .i64) w A0_0 l0_0.length l0_0) (hc0_0 : l0_0.length ≤ c0_0) (hr0_1 : Kd.C k50 w A0_1 l0_1.length l0_1) (hc0_1 : l0_1.length ≤ c0_1) (hr0_2 : Kd.C (Kd.slice 3 (Kd.int .i64)) w A0_2 l0_2.length l0_2) (hc0_2 : l0_2.length ≤ c0_2) (h : laganref04_there.f k l0_0 l0_1 l0_2 a1 a2 = some r) :
  Calls Try.prog 72 #[.agg #[.slice A0_0 l0_0.length c0_0, .slice A0_1 l0_1.length c0_1, .slice A0_2 l0_2.length c0_2], .int .i64 a1, .int .i64 a2] w fun e w' => e = .returned (.int .i64 r) ∧ Below w.heap.size w w' := by
 have hu26 := Try.underlying26
 have HR0_0 := Aside0.mk hr0_0
 have HC0_0 := Aside0.mk hc0_0
 clear hr0_0 hc0_0
 have HR0_1 := Aside0.mk hr0_1
 have HC0_1 := Aside0.mk hc0_1
 clear hr0_1 hc0_1
 have HR0_2 := Aside0.mk hr0_2
 have HC0_2 := Aside0.mk hc0_2
 clear hr0_2 hc0_2
 have HB := Aside0.mk (Below.refl w.heap.size w)
 have H : ((laganref04_CheckBoard.f k l0_0 l0_1 l0_2).bind fun t296 => (if t296 = 0 then (if a1 < 0 then (some 1) else (if a1 ≥ (l0_0.length : Int) then (some 1) else (if a2 < 0 then (some 1) else (if a2 ≥ (l0_1.length : Int) then (some 1) else (some t296))))) else (some t296))) = some r := h
 clear h
 replace H := Option.bind_eq_some_iff.mp H
 obtain ⟨t296, A40, H⟩ := H
 replace H : (if t296 = 0 then (if a1 < 0 then (some 1) else (if a1 ≥ (l0_0.length : Int) then (some 1) else (if a2 < 0 then (some 1) else (if a2 ≥ (l0_1.length : Int) then (some 1) else (some t296))))) else (some t296)) = some r := H
 have A4 := Aside0.mk A40
 clear A40
 by_cases c5 : t296 = 0
 rotate_left
 ·
  rw [if_neg c5] at H
  have c5b0 : (t296 == 0) = false := beq_eq_false_iff_ne.mpr c5
  have c5b1 : (t296 != 0) = true := bne_iff_ne.mpr c5
  obtain rfl := Option.some.inj H
  go_enter Try.func72, Try.ntmps72
  go_wp2_with (first | ((with_reducible refine gate_dst (N := 3) rfl ?_); (try (refine gate_guard (by rfl) ?_; dsimp only)); refine box_event ?hg (N := 3) ?hd (cs := #[.slice A0_0 l0_0.length c0_0, .slice A0_1 l0_1.length c0_1, .slice A0_2 l0_2.length c0_2]) (t := 26) ?hr ?_; (case hd => rfl); (case hg => rfl); (case hr => first | (go_simp; done) | (go_simp; rfl)); intro gb295 hg w29 hbox hb; have n0_ := Aside0.mk (below_step (by repeat (first | (with_reducible first | exact HB.out | apply below_alloc | apply pw_below_drewN | apply below_drew1) | exact HB.out)) hb); have n1_ := Aside0.mk (hbox); have n2_ := Aside0.mk ((by rw [hg]; exact (below_size (by repeat (first | (with_reducible first | exact HB.out | apply below_alloc | apply pw_below_drewN | apply below_drew1) | exact HB.out))) : w.heap.size ≤ gb295)); have n3_ := Aside0.mk ((by rw [hg]; exact (below_size (by repeat (first | (with_reducible first | exact HB.out | apply below_alloc | apply pw_below_drewN | apply below_drew1) | exact HB.out))) : w.heap.size ≤ gb295)); clear HB; have HB := n0_; have BK295 := n1_; have GW295 := n2_; have GE295 := n3_; clear n0_ n1_ n2_ n3_; clear hb hbox hg; have hcz30_0 : w29.cell? ⟨gb295, 0, none⟩ = some (.slice A0_0 l0_0.length c0_0) := (blk_cell BK295.out 0).trans rfl; have hcz30_1 : w29.cell? ⟨gb295, 1, none⟩ = some (.slice A0_1 l0_1.length c0_1) := (blk_cell BK295.out 1).trans rfl; have hcz30_2 : w29.cell? ⟨gb295, 2, none⟩ = some (.slice A0_2 l0_2.length c0_2) := (blk_cell BK295.out 2).trans rfl; have hfz30_0 := blk_frozen BK295.out 0; have hfz30_1 := blk_frozen BK295.out 1; have hfz30_2 := blk_frozen BK295.out 2) | ((with_reducible refine gate_callee (f := 19) rfl ?_); refine goesL_ (some 9) rfl rfl Try.func19 (by kernel_rfl) rfl #[.agg #[.slice A0_0 l0_0.length c0_0, .slice A0_1 l0_1.length c0_1, .slice A0_2 l0_2.length c0_2]] rfl (by (try simp only [List.map_toArray, List.map_cons, List.map_nil]); first | done | rfl | (simp only [List.length_drop, List.length_take]; rfl)) ?_; (with_reducible refine (laganref04_CheckBoard.calls k _ _ l0_0 _ _ l0_1 _ _ l0_2 t296 _ ?side1 ?side2 ?side3 ?side4 ?side5 ?side6 A4.out).mono ?_); (case side1 => repeat (first | exact (Kd.C_below HR0_0.out HB.out) | (with_reducible refine Kd.C_alloc ?_ _) | (with_reducible refine Kd.C_drewN ?_ _) | (with_reducible refine Kd.C_drew ?_))); (case side2 => exact HC0_0.out); (case side3 => repeat (first | exact (Kd.C_below HR0_1.out HB.out) | (with_reducible refine Kd.C_alloc ?_ _) | (with_reducible refine Kd.C_drewN ?_ _) | (with_reducible refine Kd.C_drew ?_))); (case side4 => exact HC0_1.out); (case side5 => repeat (first | exact (Kd.C_below HR0_2.out HB.out) | (with_reducible refine Kd.C_alloc ?_ _) | (with_reducible refine Kd.C_drewN ?_ _) | (with_reducible refine Kd.C_drew ?_))); (case side6 => exact HC0_2.out); rintro e w31 ⟨rfl, hb⟩; refine ⟨_, rfl, ?_⟩; have n0_ := Aside0.mk (blk_below (g := gb295) (o := .cells #[.slice A0_0 l0_0.length c0_0, .slice A0_1 l0_1.length c0_1, .slice A0_2 l0_2.length c0_2] 26 (0, 0)) (by (with_reducible repeat (first | refine blk_drewN ?_ _ | refine blk_drew ?_ | refine blk_alloc ?_ _)); exact BK295.out) hb); have n1_ := Aside0.mk (below_step (by repeat (first | (with_reducible first | exact HB.out | apply below_alloc | apply pw_below_drewN | apply below_drew1 | refine below_set ?_ GE295.out) | exact HB.out)) hb); clear BK295; clear HB; have BK295 := n0_; have HB := n1_; clear n0_ n1_; (try clear hb); (try clear hb2); (try clear hk); (try clear hi)))
  go_ret
  exact ⟨by first | rfl | (simp [errW_none, errW_some] <;> rfl) | (simp [*, errW_none, errW_some] <;> rfl), by repeat (first | (with_reducible first | exact HB.out | apply below_alloc | apply pw_below_drewN | apply below_drew1 | refine below_set ?_ GE295.out) | exact HB.out)⟩
 rw [if_pos c5] at H
 have c5b0 : (t296 == 0) = true := beq_iff_eq.mpr c5
 have c5b1 : (t296 != 0) = false := bne_eq_false_iff_eq.mpr c5
 clear c5
 by_cases c6 : a1 < 0
 ·
  rw [if_pos c6] at H
  have c6b0 : decide (a1 < 0) = true := decide_eq_true c6
  clear c6
  obtain rfl := Option.some.inj H
  go_enter Try.func72, Try.ntmps72
  go_wp2_with (first | ((with_reducible refine gate_dst (N := 3) rfl ?_); (try (refine gate_guard (by rfl) ?_; dsimp only)); refine box_event ?hg (N := 3) ?hd (cs := #[.slice A0_0 l0_0.length c0_0, .slice A0_1 l0_1.length c0_1, .slice A0_2 l0_2.length c0_2]) (t := 26) ?hr ?_; (case hd => rfl); (case hg => rfl); (case hr => first | (go_simp; done) | (go_simp; rfl)); intro gb295 hg w7 hbox hb; have n0_ := Aside0.mk (below_step (by repeat (first | (with_reducible first | exact HB.out | apply below_alloc | apply pw_below_drewN | apply below_drew1) | exact HB.out)) hb); have n1_ := Aside0.mk (hbox); have n2_ := Aside0.mk ((by rw [hg]; exact (below_size (by repeat (first | (with_reducible first | exact HB.out | apply below_alloc | apply pw_below_drewN | apply below_drew1) | exact HB.out))) : w.heap.size ≤ gb295)); have n3_ := Aside0.mk ((by rw [hg]; exact (below_size (by repeat (first | (with_reducible first | exact HB.out | apply below_alloc | apply pw_below_drewN | apply below_drew1) | exact HB.out))) : w.heap.size ≤ gb295)); clear HB; have HB := n0_; have BK295 := n1_; have GW295 := n2_; have GE295 := n3_; clear n0_ n1_ n2_ n3_; clear hb hbox hg; have hcz8_0 : w7.cell? ⟨gb295, 0, none⟩ = some (.slice A0_0 l0_0.length c0_0) := (blk_cell BK295.out 0).trans rfl; have hcz8_1 : w7.cell? ⟨gb295, 1, none⟩ = some (.slice A0_1 l0_1.length c0_1) := (blk_cell BK295.out 1).trans rfl; have hcz8_2 : w7.cell? ⟨gb295, 2, none⟩ = some (.slice A0_2 l0_2.length c0_2) := (blk_cell BK295.out 2).trans rfl; have hfz8_0 := blk_frozen BK295.out 0; have hfz8_1 := blk_frozen BK295.out 1; have hfz8_2 := blk_frozen BK295.out 2) | ((with_reducible refine gate_callee (f := 19) rfl ?_); refine goesL_ (some 9) rfl rfl Try.func19 (by kernel_rfl) rfl #[.agg #[.slice A0_0 l0_0.length c0_0, .slice A0_1 l0_1.length c0_1, .slice A0_2 l0_2.length c0_2]] rfl (by (try simp only [List.map_toArray, List.map_cons, List.map_nil]); first | done | rfl | (simp only [List.length_drop, List.length_take]; rfl)) ?_; (with_reducible refine (laganref04_CheckBoard.calls k _ _ l0_0 _ _ l0_1 _ _ l0_2 t296 _ ?side1 ?side2 ?side3 ?side4 ?side5 ?side6 A4.out).mono ?_); (case side1 => repeat (first | exact (Kd.C_below HR0_0.out HB.out) | (with_reducible refine Kd.C_alloc ?_ _) | (with_reducible refine Kd.C_drewN ?_ _) | (with_reducible refine Kd.C_drew ?_))); (case side2 => exact HC0_0.out); (case side3 => repeat (first | exact (Kd.C_below HR0_1.out HB.out) | (with_reducible refine Kd.C_alloc ?_ _) | (with_reducible refine Kd.C_drewN ?_ _) | (with_reducible refine Kd.C_drew ?_))); (case side4 => exact HC0_1.out); (case side5 => repeat (first | exact (Kd.C_below HR0_2.out HB.out) | (with_reducible refine Kd.C_alloc ?_ _) | (with_reducible refine Kd.C_drewN ?_ _) | (with_reducible refine Kd.C_drew ?_))); (case side6 => exact HC0_2.out); rintro e w9 ⟨rfl, hb⟩; refine ⟨_, rfl, ?_⟩; have n0_ := Aside0.mk (blk_below (g := gb295) (o := .cells #[.slice A0_0 l0_0.length c0_0, .slice A0_1 l0_1.length c0_1, .slice A0_2 l0_2.length c0_2] 26 (0, 0)) (by (with_reducible repeat (first | refine blk_drewN ?_ _ | refine blk_drew ?_ | refine blk_alloc ?_ _)); exact BK295.out) hb); have n1_ := Aside0.mk (below_step (by repeat (first | (with_reducible first | exact HB.out | apply below_alloc | apply pw_below_drewN | apply below_drew1 | refine below_set ?_ GE295.out) | exact HB.out)) hb); clear BK295; clear HB; have BK295 := n0_; have HB := n1_; clear n0_ n1_; (try clear hb); (try clear hb2); (try clear hk); (try clear hi)))
  go_ret
  exact ⟨by first | rfl | (simp [errW_none, errW_some] <;> rfl) | (simp [*, errW_none, errW_some] <;> rfl), by repeat (first | (with_reducible first | exact HB.out | apply below_alloc | apply pw_below_drewN | apply below_drew1 | refine below_set ?_ GE295.out) | exact HB.out)⟩
 rw [if_neg c6] at H
 have c6b0 : decide (a1 < 0) = false := decide_eq_false c6
 clear c6
 by_cases c10 : a1 ≥ (l0_0.length : Int)
 ·
  rw [if_pos c10] at H
  have c10b0 : decide ((l0_0.length : Int) ≤ a1) = true := decide_eq_true c10
  clear c10
  obtain rfl := Option.some.inj H
  go_enter Try.func72, Try.ntmps72
  go_wp2_with (first | ((with_reducible refine gate_dst (N := 3) rfl ?_); (try (refine gate_guard (by rfl) ?_; dsimp only)); refine box_event ?hg (N := 3) ?hd (cs := #[.slice A0_0 l0_0.length c0_0, .slice A0_1 l0_1.length c0_1, .slice A0_2 l0_2.length c0_2]) (t := 26) ?hr ?_; (case hd => rfl); (case hg => rfl); (case hr => first | (go_simp; done) | (go_simp; rfl)); intro gb295 hg w11 hbox hb; have n0_ := Aside0.mk (below_step (by repeat (first | (with_reducible first | exact HB.out | apply below_alloc | apply pw_below_drewN | apply below_drew1) | exact HB.out)) hb); have n1_ := Aside0.mk (hbox); have n2_ := Aside0.mk ((by rw [hg]; exact (below_size (by repeat (first | (with_reducible first | exact HB.out | apply below_alloc | apply pw_below_drewN | apply below_drew1) | exact HB.out))) : w.heap.size ≤ gb295)); have n3_ := Aside0.mk ((by rw [hg]; exact (below_size (by repeat (first | (with_reducible first | exact HB.out | apply below_alloc | apply pw_below_drewN | apply below_drew1) | exact HB.out))) : w.heap.size ≤ gb295)); clear HB; have HB := n0_; have BK295 := n1_; have GW295 := n2_; have GE295 := n3_; clear n0_ n1_ n2_ n3_; clear hb hbox hg; have hcz12_0 : w11.cell? ⟨gb295, 0, none⟩ = some (.slice A0_0 l0_0.length c0_0) := (blk_cell BK295.out 0).trans rfl; have hcz12_1 : w11.cell? ⟨gb295, 1, none⟩ = some (.slice A0_1 l0_1.length c0_1) := (blk_cell BK295.out 1).trans rfl; have hcz12_2 : w11.cell? ⟨gb295, 2, none⟩ = some (.slice A0_2 l0_2.length c0_2) := (blk_cell BK295.out 2).trans rfl; have hfz12_0 := blk_frozen BK295.out 0; have hfz12_1 := blk_frozen BK295.out 1; have hfz12_2 := blk_frozen BK295.out 2) | ((with_reducible refine gate_callee (f := 19) rfl ?_); refine goesL_ (some 9) rfl rfl Try.func19 (by kernel_rfl) rfl #[.agg #[.slice A0_0 l0_0.length c0_0, .slice A0_1 l0_1.length c0_1, .slice A0_2 l0_2.length c0_2]] rfl (by (try simp only [List.map_toArray, List.map_cons, List.map_nil]); first | done | rfl | (simp only [List.length_drop, List.length_take]; rfl)) ?_; (with_reducible refine (laganref04_CheckBoard.calls k _ _ l0_0 _ _ l0_1 _ _ l0_2 t296 _ ?side1 ?side2 ?side3 ?side4 ?side5 ?side6 A4.out).mono ?_); (case side1 => repeat (first | exact (Kd.C_below HR0_0.out HB.out) | (with_reducible refine Kd.C_alloc ?_ _) | (with_reducible refine Kd.C_drewN ?_ _) | (with_reducible refine Kd.C_drew ?_))); (case side2 => exact HC0_0.out); (case side3 => repeat (first | exact (Kd.C_below HR0_1.out HB.out) | (with_reducible refine Kd.C_alloc ?_ _) | (with_reducible refine Kd.C_drewN ?_ _) | (with_reducible refine Kd.C_drew ?_))); (case side4 => exact HC0_1.out); (case side5 => repeat (first | exact (Kd.C_below HR0_2.out HB.out) | (with_reducible refine Kd.C_alloc ?_ _) | (with_reducible refine Kd.C_drewN ?_ _) | (with_reducible refine Kd.C_drew ?_))); (case side6 => exact HC0_2.out); rintro e w13 ⟨rfl, hb⟩; refine ⟨_, rfl, ?_⟩; have n0_ := Aside0.mk (blk_below (g := gb295) (o := .cells #[.slice A0_0 l0_0.length c0_0, .slice A0_1 l0_1.length c0_1, .slice A0_2 l0_2.length c0_2] 26 (0, 0)) (by (with_reducible repeat (first | refine blk_drewN ?_ _ | refine blk_drew ?_ | refine blk_alloc ?_ _)); exact BK295.out) hb); have n1_ := Aside0.mk (below_step (by repeat (first | (with_reducible first | exact HB.out | apply below_alloc | apply pw_below_drewN | apply below_drew1 | refine below_set ?_ GE295.out) | exact HB.out)) hb); clear BK295; clear HB; have BK295 := n0_; have HB := n1_; clear n0_ n1_; (try clear hb); (try clear hb2); (try clear hk); (try clear hi); have hcz14_0 : w13.cell? ⟨gb295, 0, none⟩ = some (.slice A0_0 l0_0.length c0_0) := (blk_cell BK295.out 0).trans rfl; have hcz14_1 : w13.cell? ⟨gb295, 1, none⟩ = some (.slice A0_1 l0_1.length c0_1) := (blk_cell BK295.out 1).trans rfl; have hcz14_2 : w13.cell? ⟨gb295, 2, none⟩ = some (.slice A0_2 l0_2.length c0_2) := (blk_cell BK295.out 2).trans rfl; have hfz14_0 := blk_frozen BK295.out 0; have hfz14_1 := blk_frozen BK295.out 1; have hfz14_2 := blk_frozen BK295.out 2))
  go_ret
  exact ⟨by first | rfl | (simp [errW_none, errW_some] <;> rfl) | (simp [*, errW_none, errW_some] <;> rfl), by repeat (first | (with_reducible first | exact HB.out | apply below_alloc | apply pw_below_drewN | apply below_drew1 | refine below_set ?_ GE295.out) | exact HB.out)⟩
 rw [if_neg c10] at H
 have c10b0 : decide ((l0_0.length : Int) ≤ a1) = false := decide_eq_false c10
 clear c10
 by_cases c15 : a2 < 0
 ·
  rw [if_pos c15] at H
  have c15b0 : decide (a2 < 0) = true := decide_eq_true c15
  clear c15
  obtain rfl := Option.some.inj H
  go_enter Try.func72, Try.ntmps72
  go_wp2_with (first | ((with_reducible refine gate_dst (N := 3) rfl ?_); (try (refine gate_guard (by rfl) ?_; dsimp only)); refine box_event ?hg (N := 3) ?hd (cs := #[.slice A0_0 l0_0.length c0_0, .slice A0_1 l0_1.length c0_1, .slice A0_2 l0_2.length c0_2]) (t := 26) ?hr ?_; (case hd => rfl); (case hg => rfl); (case hr => first | (go_simp; done) | (go_simp; rfl)); intro gb295 hg w16 hbox hb; have n0_ := Aside0.mk (below_step (by repeat (first | (with_reducible first | exact HB.out | apply below_alloc | apply pw_below_drewN | apply below_drew1) | exact HB.out)) hb); have n1_ := Aside0.mk (hbox); have n2_ := Aside0.mk ((by rw [hg]; exact (below_size (by repeat (first | (with_reducible first | exact HB.out | apply below_alloc | apply pw_below_drewN | apply below_drew1) | exact HB.out))) : w.heap.size ≤ gb295)); have n3_ := Aside0.mk ((by rw [hg]; exact (below_size (by repeat (first | (with_reducible first | exact HB.out | apply below_alloc | apply pw_below_drewN | apply below_drew1) | exact HB.out))) : w.heap.size ≤ gb295)); clear HB; have HB := n0_; have BK295 := n1_; have GW295 := n2_; have GE295 := n3_; clear n0_ n1_ n2_ n3_; clear hb hbox hg; have hcz17_0 : w16.cell? ⟨gb295, 0, none⟩ = some (.slice A0_0 l0_0.length c0_0) := (blk_cell BK295.out 0).trans rfl; have hcz17_1 : w16.cell? ⟨gb295, 1, none⟩ = some (.slice A0_1 l0_1.length c0_1) := (blk_cell BK295.out 1).trans rfl; have hcz17_2 : w16.cell? ⟨gb295, 2, none⟩ = some (.slice A0_2 l0_2.length c0_2) := (blk_cell BK295.out 2).trans rfl; have hfz17_0 := blk_frozen BK295.out 0; have hfz17_1 := blk_frozen BK295.out 1; have hfz17_2 := blk_frozen BK295.out 2) | ((with_reducible refine gate_callee (f := 19) rfl ?_); refine goesL_ (some 9) rfl rfl Try.func19 (by kernel_rfl) rfl #[.agg #[.slice A0_0 l0_0.length c0_0, .slice A0_1 l0_1.length c0_1, .slice A0_2 l0_2.length c0_2]] rfl (by (try simp only [List.map_toArray, List.map_cons, List.map_nil]); first | done | rfl | (simp only [List.length_drop, List.length_take]; rfl)) ?_; (with_reducible refine (laganref04_CheckBoard.calls k _ _ l0_0 _ _ l0_1 _ _ l0_2 t296 _ ?side1 ?side2 ?side3 ?side4 ?side5 ?side6 A4.out).mono ?_); (case side1 => repeat (first | exact (Kd.C_below HR0_0.out HB.out) | (with_reducible refine Kd.C_alloc ?_ _) | (with_reducible refine Kd.C_drewN ?_ _) | (with_reducible refine Kd.C_drew ?_))); (case side2 => exact HC0_0.out); (case side3 => repeat (first | exact (Kd.C_below HR0_1.out HB.out) | (with_reducible refine Kd.C_alloc ?_ _) | (with_reducible refine Kd.C_drewN ?_ _) | (with_reducible refine Kd.C_drew ?_))); (case side4 => exact HC0_1.out); (case side5 => repeat (first | exact (Kd.C_below HR0_2.out HB.out) | (with_reducible refine Kd.C_alloc ?_ _) | (with_reducible refine Kd.C_drewN ?_ _) | (with_reducible refine Kd.C_drew ?_))); (case side6 => exact HC0_2.out); rintro e w18 ⟨rfl, hb⟩; refine ⟨_, rfl, ?_⟩; have n0_ := Aside0.mk (blk_below (g := gb295) (o := .cells #[.slice A0_0 l0_0.length c0_0, .slice A0_1 l0_1.length c0_1, .slice A0_2 l0_2.length c0_2] 26 (0, 0)) (by (with_reducible repeat (first | refine blk_drewN ?_ _ | refine blk_drew ?_ | refine blk_alloc ?_ _)); exact BK295.out) hb); have n1_ := Aside0.mk (below_step (by repeat (first | (with_reducible first | exact HB.out | apply below_alloc | apply pw_below_drewN | apply below_drew1 | refine below_set ?_ GE295.out) | exact HB.out)) hb); clear BK295; clear HB; have BK295 := n0_; have HB := n1_; clear n0_ n1_; (try clear hb); (try clear hb2); (try clear hk); (try clear hi); have hcz19_0 : w18.cell? ⟨gb295, 0, none⟩ = some (.slice A0_0 l0_0.length c0_0) := (blk_cell BK295.out 0).trans rfl; have hcz19_1 : w18.cell? ⟨gb295, 1, none⟩ = some (.slice A0_1 l0_1.length c0_1) := (blk_cell BK295.out 1).trans rfl; have hcz19_2 : w18.cell? ⟨gb295, 2, none⟩ = some (.slice A0_2 l0_2.length c0_2) := (blk_cell BK295.out 2).trans rfl; have hfz19_0 := blk_frozen BK295.out 0; have hfz19_1 := blk_frozen BK295.out 1; have hfz19_2 := blk_frozen BK295.out 2))
  go_ret
  exact ⟨by first | rfl | (simp [errW_none, errW_some] <;> rfl) | (simp [*, errW_none, errW_some] <;> rfl), by repeat (first | (with_reducible first | exact HB.out | apply below_alloc | apply pw_below_drewN | apply below_drew1 | refine below_set ?_ GE295.out) | exact HB.out)⟩
 rw [if_neg c15] at H
 have c15b0 : decide (a2 < 0) = false := decide_eq_false c15
 clear c15
 by_cases c20 : a2 ≥ (l0_1.length : Int)
 ·
  rw [if_pos c20] at H
  have c20b0 : decide ((l0_1.length : Int) ≤ a2) = true := decide_eq_true c20
  clear c20
  obtain rfl := Option.some.inj H
  go_enter Try.func72, Try.ntmps72
  go_wp2_with (first | ((with_reducible refine gate_dst (N := 3) rfl ?_); (try (refine gate_guard (by rfl) ?_; dsimp only)); refine box_event ?hg (N := 3) ?hd (cs := #[.slice A0_0 l0_0.length c0_0, .slice A0_1 l0_1.length c0_1, .slice A0_2 l0_2.length c0_2]) (t := 26) ?hr ?_; (case hd => rfl); (case hg => rfl); (case hr => first | (go_simp; done) | (go_simp; rfl)); intro gb295 hg w21 hbox hb; have n0_ := Aside0.mk (below_step (by repeat (first | (with_reducible first | exact HB.out | apply below_alloc | apply pw_below_drewN | apply below_drew1) | exact HB.out)) hb); have n1_ := Aside0.mk (hbox); have n2_ := Aside0.mk ((by rw [hg]; exact (below_size (by repeat (first | (with_reducible first | exact HB.out | apply below_alloc | apply pw_below_drewN | apply below_drew1) | exact HB.out))) : w.heap.size ≤ gb295)); have n3_ := Aside0.mk ((by rw [hg]; exact (below_size (by repeat (first | (with_reducible first | exact HB.out | apply below_alloc | apply pw_below_drewN | apply below_drew1) | exact HB.out))) : w.heap.size ≤ gb295)); clear HB; have HB := n0_; have BK295 := n1_; have GW295 := n2_; have GE295 := n3_; clear n0_ n1_ n2_ n3_; clear hb hbox hg; have hcz22_0 : w21.cell? ⟨gb295, 0, none⟩ = some (.slice A0_0 l0_0.length c0_0) := (blk_cell BK295.out 0).trans rfl; have hcz22_1 : w21.cell? ⟨gb295, 1, none⟩ = some (.slice A0_1 l0_1.length c0_1) := (blk_cell BK295.out 1).trans rfl; have hcz22_2 : w21.cell? ⟨gb295, 2, none⟩ = some (.slice A0_2 l0_2.length c0_2) := (blk_cell BK295.out 2).trans rfl; have hfz22_0 := blk_frozen BK295.out 0; have hfz22_1 := blk_frozen BK295.out 1; have hfz22_2 := blk_frozen BK295.out 2) | ((with_reducible refine gate_callee (f := 19) rfl ?_); refine goesL_ (some 9) rfl rfl Try.func19 (by kernel_rfl) rfl #[.agg #[.slice A0_0 l0_0.length c0_0, .slice A0_1 l0_1.length c0_1, .slice A0_2 l0_2.length c0_2]] rfl (by (try simp only [List.map_toArray, List.map_cons, List.map_nil]); first | done | rfl | (simp only [List.length_drop, List.length_take]; rfl)) ?_; (with_reducible refine (laganref04_CheckBoard.calls k _ _ l0_0 _ _ l0_1 _ _ l0_2 t296 _ ?side1 ?side2 ?side3 ?side4 ?side5 ?side6 A4.out).mono ?_); (case side1 => repeat (first | exact (Kd.C_below HR0_0.out HB.out) | (with_reducible refine Kd.C_alloc ?_ _) | (with_reducible refine Kd.C_drewN ?_ _) | (with_reducible refine Kd.C_drew ?_))); (case side2 => exact HC0_0.out); (case side3 => repeat (first | exact (Kd.C_below HR0_1.out HB.out) | (with_reducible refine Kd.C_alloc ?_ _) | (with_reducible refine Kd.C_drewN ?_ _) | (with_reducible refine Kd.C_drew ?_))); (case side4 => exact HC0_1.out); (case side5 => repeat (first | exact (Kd.C_below HR0_2.out HB.out) | (with_reducible refine Kd.C_alloc ?_ _) | (with_reducible refine Kd.C_drewN ?_ _) | (with_reducible refine Kd.C_drew ?_))); (case side6 => exact HC0_2.out); rintro e w23 ⟨rfl, hb⟩; refine ⟨_, rfl, ?_⟩; have n0_ := Aside0.mk (blk_below (g := gb295) (o := .cells #[.slice A0_0 l0_0.length c0_0, .slice A0_1 l0_1.length c0_1, .slice A0_2 l0_2.length c0_2] 26 (0, 0)) (by (with_reducible repeat (first | refine blk_drewN ?_ _ | refine blk_drew ?_ | refine blk_alloc ?_ _)); exact BK295.out) hb); have n1_ := Aside0.mk (below_step (by repeat (first | (with_reducible first | exact HB.out | apply below_alloc | apply pw_below_drewN | apply below_drew1 | refine below_set ?_ GE295.out) | exact HB.out)) hb); clear BK295; clear HB; have BK295 := n0_; have HB := n1_; clear n0_ n1_; (try clear hb); (try clear hb2); (try clear hk); (try clear hi); have hcz24_0 : w23.cell? ⟨gb295, 0, none⟩ = some (.slice A0_0 l0_0.length c0_0) := (blk_cell BK295.out 0).trans rfl; have hcz24_1 : w23.cell? ⟨gb295, 1, none⟩ = some (.slice A0_1 l0_1.length c0_1) := (blk_cell BK295.out 1).trans rfl; have hcz24_2 : w23.cell? ⟨gb295, 2, none⟩ = some (.slice A0_2 l0_2.length c0_2) := (blk_cell BK295.out 2).trans rfl; have hfz24_0 := blk_frozen BK295.out 0; have hfz24_1 := blk_frozen BK295.out 1; have hfz24_2 := blk_frozen BK295.out 2))
  go_ret
  exact ⟨by first | rfl | (simp [errW_none, errW_some] <;> rfl) | (simp [*, errW_none, errW_some] <;> rfl), by repeat (first | (with_reducible first | exact HB.out | apply below_alloc | apply pw_below_drewN | apply below_drew1 | refine below_set ?_ GE295.out) | exact HB.out)⟩
 rw [if_neg c20] at H
 have c20b0 : decide ((l0_1.length : Int) ≤ a2) = false := decide_eq_false c20
 clear c20
 obtain rfl := Option.some.inj H
 go_enter Try.func72, Try.ntmps72
 go_wp2_with (first | ((with_reducible refine gate_dst (N := 3) rfl ?_); (try (refine gate_guard (by rfl) ?_; dsimp only)); refine box_event ?hg (N := 3) ?hd (cs := #[.slice A0_0 l0_0.length c0_0, .slice A0_1 l0_1.length c0_1, .slice A0_2 l0_2.length c0_2]) (t := 26) ?hr ?_; (case hd => rfl); (case hg => rfl); (case hr => first | (go_simp; done) | (go_simp; rfl)); intro gb295 hg w25 hbox hb; have n0_ := Aside0.mk (below_step (by repeat (first | (with_reducible first | exact HB.out | apply below_alloc | apply pw_below_drewN | apply below_drew1) | exact HB.out)) hb); have n1_ := Aside0.mk (hbox); have n2_ := Aside0.mk ((by rw [hg]; exact (below_size (by repeat (first | (with_reducible first | exact HB.out | apply below_alloc | apply pw_below_drewN | apply below_drew1) | exact HB.out))) : w.heap.size ≤ gb295)); have n3_ := Aside0.mk ((by rw [hg]; exact (below_size (by repeat (first | (with_reducible first | exact HB.out | apply below_alloc | apply pw_below_drewN | apply below_drew1) | exact HB.out))) : w.heap.size ≤ gb295)); clear HB; have HB := n0_; have BK295 := n1_; have GW295 := n2_; have GE295 := n3_; clear n0_ n1_ n2_ n3_; clear hb hbox hg; have hcz26_0 : w25.cell? ⟨gb295, 0, none⟩ = some (.slice A0_0 l0_0.length c0_0) := (blk_cell BK295.out 0).trans rfl; have hcz26_1 : w25.cell? ⟨gb295, 1, none⟩ = some (.slice A0_1 l0_1.length c0_1) := (blk_cell BK295.out 1).trans rfl; have hcz26_2 : w25.cell? ⟨gb295, 2, none⟩ = some (.slice A0_2 l0_2.length c0_2) := (blk_cell BK295.out 2).trans rfl; have hfz26_0 := blk_frozen BK295.out 0; have hfz26_1 := blk_frozen BK295.out 1; have hfz26_2 := blk_frozen BK295.out 2) | ((with_reducible refine gate_callee (f := 19) rfl ?_); refine goesL_ (some 9) rfl rfl Try.func19 (by kernel_rfl) rfl #[.agg #[.slice A0_0 l0_0.length c0_0, .slice A0_1 l0_1.length c0_1, .slice A0_2 l0_2.length c0_2]] rfl (by (try simp only [List.map_toArray, List.map_cons, List.map_nil]); first | done | rfl | (simp only [List.length_drop, List.length_take]; rfl)) ?_; (with_reducible refine (laganref04_CheckBoard.calls k _ _ l0_0 _ _ l0_1 _ _ l0_2 t296 _ ?side1 ?side2 ?side3 ?side4 ?side5 ?side6 A4.out).mono ?_); (case side1 => repeat (first | exact (Kd.C_below HR0_0.out HB.out) | (with_reducible refine Kd.C_alloc ?_ _) | (with_reducible refine Kd.C_drewN ?_ _) | (with_reducible refine Kd.C_drew ?_))); (case side2 => exact HC0_0.out); (case side3 => repeat (first | exact (Kd.C_below HR0_1.out HB.out) | (with_reducible refine Kd.C_alloc ?_ _) | (with_reducible refine Kd.C_drewN ?_ _) | (with_reducible refine Kd.C_drew ?_))); (case side4 => exact HC0_1.out); (case side5 => repeat (first | exact (Kd.C_below HR0_2.out HB.out) | (with_reducible refine Kd.C_alloc ?_ _) | (with_reducible refine Kd.C_drewN ?_ _) | (with_reducible refine Kd.C_drew ?_))); (case side6 => exact HC0_2.out); rintro e w27 ⟨rfl, hb⟩; refine ⟨_, rfl, ?_⟩; have n0_ := Aside0.mk (blk_below (g := gb295) (o := .cells #[.slice A0_0 l0_0.length c0_0, .slice A0_1 l0_1.length c0_1, .slice A0_2 l0_2.length c0_2] 26 (0, 0)) (by (with_reducible repeat (first | refine blk_drewN ?_ _ | refine blk_drew ?_ | refine blk_alloc ?_ _)); exact BK295.out) hb); have n1_ := Aside0.mk (below_step (by repeat (first | (with_reducible first | exact HB.out | apply below_alloc | apply pw_below_drewN | apply below_drew1 | refine below_set ?_ GE295.out) | exact HB.out)) hb); clear BK295; clear HB; have BK295 := n0_; have HB := n1_; clear n0_ n1_; (try clear hb); (try clear hb2); (try clear hk); (try clear hi); have hcz28_0 : w27.cell? ⟨gb295, 0, none⟩ = some (.slice A0_0 l0_0.length c0_0) := (blk_cell BK295.out 0).trans rfl; have hcz28_1 : w27.cell? ⟨gb295, 1, none⟩ = some (.slice A0_1 l0_1.length c0_1) := (blk_cell BK295.out 1).trans rfl; have hcz28_2 : w27.cell? ⟨gb295, 2, none⟩ = some (.slice A0_2 l0_2.length c0_2) := (blk_cell BK295.out 2).trans rfl; have hfz28_0 := blk_frozen BK295.out 0; have hfz28_1 := blk_frozen BK295.out 1; have hfz28_2 := blk_frozen BK295.out 2))
 go_ret
 exact ⟨by first | rfl | (simp [errW_none, errW_some] <;> rfl) | (simp [*, errW_none, errW_some] <;> rfl), by repeat (first | (with_reducible first | exact HB.out | apply below_alloc | apply pw_below_drewN | apply below_drew1 | refine below_set ?_ GE295.out) | exact HB.out)⟩
end Go.Proofs.Ytkmmihadcbfkoaa.PM
end

section
namespace Go.Proofs.Ytkmmihadcbfkoaa
open PM
def inB (n a b : Int) : Bool := decide (a ≤ n) && decide (n ≤ b)
/-- Rising at place i. -/
def risAt (l : List Int) (a b : Int) (i : Nat) : Bool := inB (l.getD i 0) a b && (decide (i = 0) || decide (l.getD (i - 1) 0 < l.getD i 0))
def risB (l : List Int) (a b : Int) : Bool := (List.range l.length).all (risAt l a b)
def slotKey (s : S50) : Int × Int × Int := (s.f0, s.f1, 0)
def slotIn (s : S50) : Bool := inB s.f0 1 20 && inB s.f1 1 200 && inB s.f2 1 20
/-- A slot that comes before the one ahead of it. -/
def slotBack (S : List S50) (k : Nat) : Bool := decide (0 < k) && (decide ((S.getD k z50).f0 < (S.getD (k - 1) z50).f0) || decide ((S.getD k z50).f0 = (S.getD (k - 1) z50).f0) && decide ((S.getD k z50).f1 < (S.getD (k - 1) z50).f1))
def slotAt (S : List S50) (k : Nat) : Bool := slotIn (S.getD k z50) && !(decide (slotKey (S.getD k z50) ∈ (S.take k).map slotKey)) && !slotBack S k
def slotsB (S : List S50) : Bool := (List.range S.length).all (slotAt S)
def fitsB (S : List S50) (T : List (List Int)) : Bool := T.all fun l => risB l 0 ((S.length : Int) - 1)
def checkB (F : List Int) (S : List S50) (T : List (List Int)) : Int :=
 if 60 < F.length ∨ 200 < S.length then 2
 else if risB F 10 10000007 = false ∨ T.length ≠ F.length then 1
 else if slotsB S = false then 1
 else if fitsB S T = false then 1 else 0
theorem all_range_step {p : Nat → Bool} {n k : Nat} (hk : k < n) : ((List.range n).drop k).all p = (p k && ((List.range n).drop (k + 1)).all p) := by
 rw [List.drop_eq_getElem_cons (by simpa using hk)]
 simp
end Go.Proofs.Ytkmmihadcbfkoaa
end

section
namespace Go.Proofs.Ytkmmihadcbfkoaa.PM
open Go.RowKit Go.Proofs.YtkmmihadcbfkoaaW.PrintWords Go.Proofs.YtkmmihadcbfkoaaW.PrintLast Go.Proofs.YtkmmihadcbfkoaaW.PrintMore
set_option linter.unusedVariables false
set_option linter.unusedSimpArgs false
def match_copied_int_53.f (l0 : List (List Int)) : Option ((List (List Int))) := (some (([] : List (List Int)) : List (List Int))).bind fun y496 => (if y496.length + l0.length < 5864062014805 then (some (y496 ++ l0)) else (none))
set_option maxHeartbeats 8000000 in
set_option maxRecDepth 100000 in
theorem match_copied_int_53.calls (P0_ : Nat → Prop) (A0 : Option Addr) (c0 : Nat) (l0 : List (List Int)) (r : List (List Int)) (w : World) (hs0 : Kd.V (Kd.slice 3 (Kd.int .i64)) 22 w w.heap.size (fun k_ => P0_ k_) (.slice A0 l0.length c0) l0) (h : match_copied_int_53.f l0 = some r) :
  Calls Try.prog 53 #[.slice A0 l0.length c0] w fun e w' => ∃ v0_ : Value, e = .returned (v0_) ∧ Kd.N (Kd.slice 3 (Kd.int .i64)) 22 w' w.heap.size (fun k_ => (P0_ k_ ∨ w.heap.size ≤ k_)) v0_ r ∧ Below w.heap.size w w' := by
 have HO0 := Aside0.mk (show Kd.V (Kd.slice 3 (Kd.int .i64)) 22 w w.heap.size (fun k_ => (P0_ k_ ∨ w.heap.size ≤ k_)) (.slice A0 l0.length c0) l0 from Kd.V_mono hs0 (fun k_ hk => .inl hk))
 have HB := Aside0.mk (Below.refl w.heap.size w)
 have H : ((some (([] : List (List Int)) : List (List Int))).bind fun y496 => (if y496.length + l0.length < 5864062014805 then (some (y496 ++ l0)) else (none))) = some r := h
 clear h
 obtain ⟨y496, hy496⟩ : ∃ y_ : List (List Int), y_ = (([] : List (List Int))) := ⟨_, rfl⟩
 replace H : (if y496.length + l0.length < 5864062014805 then (some (y496 ++ l0)) else (none)) = some r := by first | (rw [hy496]; with_reducible exact H) | (have H2_ := (Option.bind_some _ _).symm.trans H; rw [hy496]; with_reducible exact H2_) | (have H2_ := (Option.bind_some _ _).symm.trans H; with_reducible exact H2_) | with_reducible exact H | (rw [hy496]; exact H) | exact H
 have Ny496 := Aside0.mk hy496
 clear hy496
 by_cases c2 : y496.length + l0.length < 5864062014805
 rotate_left
 ·
  rw [if_neg c2] at H
  exact absurd H (by simp)
 rw [if_pos c2] at H
 have LMc2 := Aside0.mk c2
 clear c2
 obtain ⟨y499, hy499⟩ : ∃ y_ : List (List Int), y_ = (y496 ++ l0) := ⟨_, rfl⟩
 replace H : (some y499) = some r := by first | (rw [hy499]; with_reducible exact H) | (have H2_ := (Option.bind_some _ _).symm.trans H; rw [hy499]; with_reducible exact H2_) | (have H2_ := (Option.bind_some _ _).symm.trans H; with_reducible exact H2_) | with_reducible exact H | (rw [hy499]; exact H) | exact H
 have Ny499 := Aside0.mk hy499
 clear hy499
 obtain rfl := Option.some.inj H
 go_enter Try.func53, Try.ntmps53
 go_wp2_with (first | ((with_reducible refine gate_dst (N := 3) rfl ?_); refine Kd.N_lit (Kd.slice 3 (Kd.int .i64)) _ 22 ?hg (N' := 3) ?hd (xs := ([] : List (List Int))) (inner := []) (ok := (fun k_ => (P0_ k_ ∨ w.heap.size ≤ k_))) (okp := (fun k_ => (P0_ k_ ∨ w.heap.size ≤ k_))) ?hr ?hp (fun _ hk => hk) ((show ∀ k_, w.heap.size ≤ k_ → (fun k_ => (P0_ k_ ∨ w.heap.size ≤ k_)) k_ from fun k_ hk => (.inr (Nat.le_trans (below_size (by repeat (first | (with_reducible first | exact HB.out | apply below_alloc | apply pw_below_drewN | apply below_drew1) | exact HB.out))) hk))) _ (Nat.le_refl _)) (Below.refl _ _) (Nat.le_refl _) (by simp) ?_; (case hd => rfl); (case hg => rfl); (case hr => first | (go_simp; done) | (go_simp; rfl)); (case hp => exact (Reps.none _ _)); intro v497 w3 ho4 hb hg_ hnew_; clear hg_ hnew_; (first | rw [← Ny496.out] at ho4 | (simp only [Int.reduceToNat] at ho4; rw [← Ny496.out] at ho4)); have n0_ := Aside0.mk (Kd.V_elder' (by (with_reducible repeat (first | apply Kd.V_alloc | apply Kd.V_drewN | apply Kd.V_drew)); exact HO0.out) (Kd.N_base ho4) hb); have n1_ := Aside0.mk (Kd.N_lower ho4 (below_size (by repeat (first | (with_reducible first | exact HB.out | apply below_alloc | apply pw_below_drewN | apply below_drew1) | exact HB.out)))); have n2_ := Aside0.mk (below_step (by repeat (first | (with_reducible first | exact HB.out | apply below_alloc | apply pw_below_drewN | apply below_drew1) | exact HB.out)) hb); clear HO0; clear HB; have HO0 := n0_; have HO498 := n1_; have HB := n2_; clear n0_ n1_ n2_; clear hb ho4) | ((with_reducible refine gate_builtin (b := .append) (xs := #[.tmp 3, .tmp 4]) rfl ?_); at_builtin; refine Kd.N_append_rows (Kd.slice 3 (Kd.int .i64)) (w0 := w) w.heap.size rfl (.tmp 3) (.tmp 4) 24 22 (.slice none 0 0) 24 rfl Try.underlying24 info22 rfl (by decide) (by omega) v497 y496 l0 _ _ _ (fun k_ => (P0_ k_ ∨ w.heap.size ≤ k_)) (fun k_ => ((fun k_ => (P0_ k_ ∨ w.heap.size ≤ k_))) k_ ∧ some k_ ≠ (v497 : Value).ownBlock) rfl rfl ?aO ?aR (fun _ hk => hk) ?aF ?aB ?aS ?aL ?_; (case aR => exact (by skip; exact Kd.V_F (Kd.V_mono (ok' := (fun k_ => ((fun k_ => (P0_ k_ ∨ w.heap.size ≤ k_))) k_ ∧ some k_ ≠ (v497 : Value).ownBlock)) (HO0.out) (fun k_ hk => ⟨hk.1, hk.2⟩)))); (case aB => exact (by repeat (first | (with_reducible first | exact HB.out | apply below_alloc | apply pw_below_drewN | apply below_drew1) | exact HB.out))); (case aF => exact (fun k_ hk => (.inr (Nat.le_trans (below_size (by repeat (first | (with_reducible first | exact HB.out | apply below_alloc | apply pw_below_drewN | apply below_drew1) | exact HB.out))) hk)))); (case aO => exact (by (with_reducible repeat (first | apply Kd.N_alloc | apply Kd.N_drewN | apply Kd.N_drew)); exact HO498.out)); (case aS => exact (below_size (by repeat (first | (with_reducible first | exact HB.out | apply below_alloc | apply pw_below_drewN | apply below_drew1) | exact HB.out)))); (case aL => have := LMc2.out; omega); intro v500 w5 ho hb hg hat; rw [← Ny499.out] at ho; have n0_ := Aside0.mk (Kd.V_afterv (ok := (fun k_ => (P0_ k_ ∨ w.heap.size ≤ k_))) (by (with_reducible repeat (first | apply Kd.V_alloc | apply Kd.V_drewN | apply Kd.V_drew)); exact HO0.out) hg hat); have n1_ := Aside0.mk (hb); have n2_ := Aside0.mk (ho); clear HO0; clear HB; clear HO498; have HO0 := n0_; have HB := n1_; have HO501 := n2_; clear n0_ n1_ n2_; clear ho hb hg hat))
 go_ret
 exact ⟨_, by first | rfl | (simp [errW_none, errW_some] <;> rfl) | (simp [*, errW_none, errW_some] <;> rfl), by (with_reducible repeat (first | apply Kd.N_alloc | apply Kd.N_drewN | apply Kd.N_drew)); exact HO501.out, by repeat (first | (with_reducible first | exact HB.out | apply below_alloc | apply pw_below_drewN | apply below_drew1) | exact HB.out)⟩
def slices_Index_int_int.l0 : Nat → List Int → Int → Int → Int → Option (Int)
 | 0, _, _, _, _ => none
 | k + 1, x0, x1, x7, x8 => if x8 < x7 then (if 0 ≤ x8 then (if x8 < (x0.length : Int) then (if x1 = (rd x0 x8) then (some x8) else (slices_Index_int_int.l0 k x0 x1 x7 (wrap64 (x8 + 1)))) else (none)) else (none)) else (some (-1))
def slices_Index_int_int.f (k : Nat) (l0 : List Int) (a1 : Int) : Option (Int) := slices_Index_int_int.l0 k l0 a1 (l0.length : Int) 0
set_option maxHeartbeats 8000000 in
set_option maxRecDepth 100000 in
theorem slices_Index_int_int.calls (k : Nat) (A0 : Option Addr) (c0 : Nat) (l0 : List Int) (a1 : Int) (r : Int) (w : World) (hr0 : Kd.C (Kd.int .i64) w A0 l0.length l0) (hc0 : l0.length ≤ c0) (h : slices_Index_int_int.f k l0 a1 = some r) :
  Calls Try.prog 86 #[.slice A0 l0.length c0, .int .i64 a1] w fun e w' => e = .returned (.int .i64 r) ∧ Drawn0 w w' := by
 have HR0 := Aside0.mk hr0
 have HC0 := Aside0.mk hc0
 clear hr0 hc0
 have H : (slices_Index_int_int.l0 k l0 a1 (l0.length : Int) 0) = some r := h
 clear h
 have H' := Aside0.mk H
 clear H
 go_enter Try.func86, Try.ntmps86
 go_wp2
 go_loopg [8] k (fun kq v8 w' => ∃ (x8_1 : Int), v8 = .int .i64 x8_1 ∧ Aside0 (slices_Index_int_int.l0 kq l0 a1 (l0.length : Int) x8_1 = some r) ∧ Aside0 (kq ≤ k) ∧ Drawn0 w w')
 case atStart => exact ⟨(0), (by first | rfl | (simp; done) | (simp [*]; done)), H', ⟨Nat.le_refl _⟩, by repeat (first | exact Drawn0.refl _ | apply Drawn0.step)⟩
 clear H'
 try clear p2
 obtain ⟨x8_1, rfl, HA, HK1, ⟨m1, rfl⟩⟩ := hrel
 cases gk with
 | zero => exact absurd HA.out (by simp [slices_Index_int_int.l0])
 | succ k1 =>
  have H := HA.out
  clear HA
  simp only [slices_Index_int_int.l0] at H
  by_cases c3 : x8_1 < (l0.length : Int)
  rotate_left
  ·
   rw [if_neg c3] at H
   have c3b0 : decide (x8_1 < (l0.length : Int)) = false := decide_eq_false c3
   clear c3
   obtain rfl := Option.some.inj H
   go_wp2
   go_ret
   exact ⟨by first | rfl | (simp; done) | (simp [*]; done), by repeat (first | exact Drawn0.refl _ | apply Drawn0.step)⟩
  rw [if_pos c3] at H
  have c3b0 : decide (x8_1 < (l0.length : Int)) = true := decide_eq_true c3
  clear c3
  by_cases c4 : 0 ≤ x8_1
  rotate_left
  ·
   rw [if_neg c4] at H
   exact absurd H (by simp)
  rw [if_pos c4] at H
  have c4b0 : decide (0 ≤ x8_1) = true := decide_eq_true c4
  clear c4
  by_cases c5 : x8_1 < (l0.length : Int)
  rotate_left
  ·
   rw [if_neg c5] at H
   exact absurd H (by simp)
  rw [if_pos c5] at H
  have c5b0 : decide (x8_1 < (l0.length : Int)) = true := decide_eq_true c5
  clear c5
  by_cases c6 : a1 = (rd l0 x8_1)
  ·
   rw [if_pos c6] at H
   have c6b0 : (a1 == (rd l0 x8_1)) = true := beq_iff_eq.mpr c6
   have c6b1 : (a1 != (rd l0 x8_1)) = false := bne_eq_false_iff_eq.mpr c6
   clear c6
   obtain rfl := Option.some.inj H
   have p502 : 0 ≤ (x8_1 : Int) := of_decide_eq_true (by first | (with_reducible assumption) | assumption)
   have q502 : x8_1 < (l0.length : Int) := of_decide_eq_true (by first | (with_reducible assumption) | assumption)
   obtain ⟨ad502, e502, hx502_0⟩ := Kd.at_int HR0.out x8_1 p502 q502
   cases e502
   replace p502 := eq_true p502
   replace q502 := eq_true q502
   go_wp2
   go_ret
   exact ⟨by first | rfl | (simp; done) | (simp [*]; done), by repeat (first | exact Drawn0.refl _ | apply Drawn0.step)⟩
  rw [if_neg c6] at H
  have c6b0 : (a1 == (rd l0 x8_1)) = false := beq_eq_false_iff_ne.mpr c6
  have c6b1 : (a1 != (rd l0 x8_1)) = true := bne_iff_ne.mpr c6
  have H' := Aside0.mk H
  clear H
  have p502 : 0 ≤ (x8_1 : Int) := of_decide_eq_true (by first | (with_reducible assumption) | assumption)
  have q502 : x8_1 < (l0.length : Int) := of_decide_eq_true (by first | (with_reducible assumption) | assumption)
  obtain ⟨ad502, e502, hx502_0⟩ := Kd.at_int HR0.out x8_1 p502 q502
  cases e502
  replace p502 := eq_true p502
  replace q502 := eq_true q502
  go_wp2
  go_roundg k1
  case measure => have := HK1.out; omega
  case rel => exact ⟨(wrap64 (x8_1 + 1)), (by first | rfl | (simp; done) | (simp [*]; done)), H', ⟨by have := HK1.out; omega⟩, by repeat (first | exact Drawn0.refl _ | apply Drawn0.step)⟩
def slices_Contains_int_int.f (k : Nat) (l0 : List Int) (a1 : Int) : Option (Bool) := (slices_Index_int_int.f k l0 a1).bind fun t503 => (some (decide (t503 ≥ 0)))
set_option maxHeartbeats 8000000 in
set_option maxRecDepth 100000 in
theorem slices_Contains_int_int.calls (k : Nat) (A0 : Option Addr) (c0 : Nat) (l0 : List Int) (a1 : Int) (r : Bool) (w : World) (hr0 : Kd.C (Kd.int .i64) w A0 l0.length l0) (hc0 : l0.length ≤ c0) (h : slices_Contains_int_int.f k l0 a1 = some r) :
  Calls Try.prog 59 #[.slice A0 l0.length c0, .int .i64 a1] w fun e w' => e = .returned (.bool r) ∧ Drawn0 w w' := by
 have HR0 := Aside0.mk hr0
 have HC0 := Aside0.mk hc0
 clear hr0 hc0
 have H : ((slices_Index_int_int.f k l0 a1).bind fun t503 => (some (decide (t503 ≥ 0)))) = some r := h
 clear h
 replace H := Option.bind_eq_some_iff.mp H
 obtain ⟨t503, A30, H⟩ := H
 replace H : (some (decide (t503 ≥ 0))) = some r := H
 have A3 := Aside0.mk A30
 clear A30
 obtain rfl := Option.some.inj H
 go_enter Try.func59, Try.ntmps59
 go_wp2_with (first | ((with_reducible refine gate_callee (f := 86) rfl ?_); refine goesL_ (some 7) rfl rfl Try.func86 (by kernel_rfl) rfl #[.slice A0 l0.length c0, .int .i64 a1] rfl (by (try simp only [List.map_toArray, List.map_cons, List.map_nil]); first | done | rfl | (simp only [List.length_drop, List.length_take]; rfl)) ?_; (with_reducible refine (slices_Index_int_int.calls k _ _ l0 a1 t503 _ ?side1 ?side2 A3.out).mono ?_); (case side1 => repeat (first | exact HR0.out | (with_reducible refine Kd.C_alloc ?_ _) | (with_reducible refine Kd.C_drewN ?_ _) | (with_reducible refine Kd.C_drew ?_))); (case side2 => exact HC0.out); rintro e w' ⟨rfl, ⟨nd, rfl⟩⟩; refine ⟨_, rfl, ?_⟩))
 go_ret
 exact ⟨by first | rfl | (simp; done) | (simp [*]; done), by repeat (first | exact Drawn0.refl _ | apply Drawn0.step)⟩
def match_in.f (a0 : Int) (a1 : Int) (a2 : Int) : Option (Bool) := if a0 ≥ a1 then (some (decide (a0 ≤ a2))) else (some false)
set_option maxHeartbeats 8000000 in
set_option maxRecDepth 100000 in
theorem match_in.calls (a0 : Int) (a1 : Int) (a2 : Int) (r : Bool) (w : World) (h : match_in.f a0 a1 a2 = some r) :
  Calls Try.prog 82 #[.int .i64 a0, .int .i64 a1, .int .i64 a2] w fun e w' => e = .returned (.bool r) ∧ Drawn0 w w' := by
 have H : (if a0 ≥ a1 then (some (decide (a0 ≤ a2))) else (some false)) = some r := h
 clear h
 by_cases c4 : a0 ≥ a1
 ·
  rw [if_pos c4] at H
  have c4b0 : decide (a1 ≤ a0) = true := decide_eq_true c4
  clear c4
  obtain rfl := Option.some.inj H
  go_enter Try.func82, Try.ntmps82
  go_wp2
  go_ret
  exact ⟨by first | rfl | (simp; done) | (simp [*]; done), by repeat (first | exact Drawn0.refl _ | apply Drawn0.step)⟩
 rw [if_neg c4] at H
 have c4b0 : decide (a1 ≤ a0) = false := decide_eq_false c4
 clear c4
 obtain rfl := Option.some.inj H
 go_enter Try.func82, Try.ntmps82
 go_wp2
 go_ret
 exact ⟨by first | rfl | (simp; done) | (simp [*]; done), by repeat (first | exact Drawn0.refl _ | apply Drawn0.step)⟩
def match_rising.l0 : Nat → List Int → Int → Int → List Int → Int → Int → Option (Bool)
 | 0, _, _, _, _, _, _ => none
 | k + 1, x0, x1, x2, x9, x10, x11 => if x11 < x10 then (if 0 ≤ x11 then (if x11 < (x9.length : Int) then ((match_in.f (rd x9 x11) x1 x2).bind fun t505 => (if t505 = true then (if x11 > 0 then (if 0 ≤ (wrap64 (x11 - 1)) then (if (wrap64 (x11 - 1)) < (x0.length : Int) then (if (rd x0 (wrap64 (x11 - 1))) ≥ (rd x9 x11) then (some false) else (match_rising.l0 k x0 x1 x2 x9 x10 (wrap64 (x11 + 1)))) else (none)) else (none)) else (match_rising.l0 k x0 x1 x2 x9 x10 (wrap64 (x11 + 1)))) else (some false))) else (none)) else (none)) else (some true)
def match_rising.f (k : Nat) (l0 : List Int) (a1 : Int) (a2 : Int) : Option (Bool) := match_rising.l0 k l0 a1 a2 l0 (l0.length : Int) 0
set_option maxHeartbeats 8000000 in
set_option maxRecDepth 100000 in
theorem match_rising.calls (k : Nat) (A0 : Option Addr) (c0 : Nat) (l0 : List Int) (a1 : Int) (a2 : Int) (r : Bool) (w : World) (hr0 : Kd.C (Kd.int .i64) w A0 l0.length l0) (hc0 : l0.length ≤ c0) (h : match_rising.f k l0 a1 a2 = some r) :
  Calls Try.prog 68 #[.slice A0 l0.length c0, .int .i64 a1, .int .i64 a2] w fun e w' => e = .returned (.bool r) ∧ Drawn0 w w' := by
 have HR0 := Aside0.mk hr0
 have HC0 := Aside0.mk hc0
 clear hr0 hc0
 have H : (match_rising.l0 k l0 a1 a2 l0 (l0.length : Int) 0) = some r := h
 clear h
 have H' := Aside0.mk H
 clear H
 go_enter Try.func68, Try.ntmps68
 go_wp2
 go_loopg [11] k (fun kq v11 w' => ∃ (x11_1 : Int), v11 = .int .i64 x11_1 ∧ Aside0 (match_rising.l0 kq l0 a1 a2 l0 (l0.length : Int) x11_1 = some r) ∧ Aside0 (kq ≤ k) ∧ Drawn0 w w')
 case atStart => exact ⟨(0), (by first | rfl | (simp; done) | (simp [*]; done)), H', ⟨Nat.le_refl _⟩, by repeat (first | exact Drawn0.refl _ | apply Drawn0.step)⟩
 clear H'
 try clear p2
 obtain ⟨x11_1, rfl, HA, HK1, ⟨m1, rfl⟩⟩ := hrel
 cases gk with
 | zero => exact absurd HA.out (by simp [match_rising.l0])
 | succ k1 =>
  have H := HA.out
  clear HA
  simp only [match_rising.l0] at H
  by_cases c4 : x11_1 < (l0.length : Int)
  rotate_left
  ·
   rw [if_neg c4] at H
   have c4b0 : decide (x11_1 < (l0.length : Int)) = false := decide_eq_false c4
   clear c4
   obtain rfl := Option.some.inj H
   go_wp2
   go_ret
   exact ⟨by first | rfl | (simp; done) | (simp [*]; done), by repeat (first | exact Drawn0.refl _ | apply Drawn0.step)⟩
  rw [if_pos c4] at H
  have c4b0 : decide (x11_1 < (l0.length : Int)) = true := decide_eq_true c4
  clear c4
  by_cases c5 : 0 ≤ x11_1
  rotate_left
  ·
   rw [if_neg c5] at H
   exact absurd H (by simp)
  rw [if_pos c5] at H
  have c5b0 : decide (0 ≤ x11_1) = true := decide_eq_true c5
  clear c5
  by_cases c6 : x11_1 < (l0.length : Int)
  rotate_left
  ·
   rw [if_neg c6] at H
   exact absurd H (by simp)
  rw [if_pos c6] at H
  have c6b0 : decide (x11_1 < (l0.length : Int)) = true := decide_eq_true c6
  clear c6
  replace H := Option.bind_eq_some_iff.mp H
  obtain ⟨t505, A70, H⟩ := H
  replace H : (if t505 = true then (if x11_1 > 0 then (if 0 ≤ (wrap64 (x11_1 - 1)) then (if (wrap64 (x11_1 - 1)) < (l0.length : Int) then (if (rd l0 (wrap64 (x11_1 - 1))) ≥ (rd l0 x11_1) then (some false) else (match_rising.l0 k1 l0 a1 a2 l0 (l0.length : Int) (wrap64 (x11_1 + 1)))) else (none)) else (none)) else (match_rising.l0 k1 l0 a1 a2 l0 (l0.length : Int) (wrap64 (x11_1 + 1)))) else (some false)) = some r := H
  have A7 := Aside0.mk A70
  clear A70
  by_cases c8 : t505 = true
  rotate_left
  ·
   replace c8 := Bool.eq_false_iff.mpr c8
   subst c8
   have H1 : (some false) = some r := by rw [if_neg (show ¬ (false = true) by decide)] at H; exact H
   clear H
   have H := H1
   clear H1
   obtain rfl := Option.some.inj H
   have p504 : 0 ≤ (x11_1 : Int) := of_decide_eq_true (by first | (with_reducible assumption) | assumption)
   have q504 : x11_1 < (l0.length : Int) := of_decide_eq_true (by first | (with_reducible assumption) | assumption)
   obtain ⟨ad504, e504, hx504_0⟩ := Kd.at_int HR0.out x11_1 p504 q504
   cases e504
   replace p504 := eq_true p504
   replace q504 := eq_true q504
   go_wp2_with (first | ((with_reducible refine gate_callee (f := 82) rfl ?_); refine goesL_ (some 19) rfl rfl Try.func82 (by kernel_rfl) rfl #[.int .i64 (rd l0 x11_1), .int .i64 a1, .int .i64 a2] rfl (by (try simp only [List.map_toArray, List.map_cons, List.map_nil]); first | done | rfl | (simp only [List.length_drop, List.length_take]; rfl)) ?_; (with_reducible refine (match_in.calls (rd l0 x11_1) a1 a2 false _ A7.out).mono ?_); rintro e w' ⟨rfl, ⟨nd, rfl⟩⟩; refine ⟨_, rfl, ?_⟩))
   go_ret
   exact ⟨by first | rfl | (simp; done) | (simp [*]; done), by repeat (first | exact Drawn0.refl _ | apply Drawn0.step)⟩
  subst c8
  have H1 : (if x11_1 > 0 then (if 0 ≤ (wrap64 (x11_1 - 1)) then (if (wrap64 (x11_1 - 1)) < (l0.length : Int) then (if (rd l0 (wrap64 (x11_1 - 1))) ≥ (rd l0 x11_1) then (some false) else (match_rising.l0 k1 l0 a1 a2 l0 (l0.length : Int) (wrap64 (x11_1 + 1)))) else (none)) else (none)) else (match_rising.l0 k1 l0 a1 a2 l0 (l0.length : Int) (wrap64 (x11_1 + 1)))) = some r := by rw [if_pos rfl] at H; exact H
  clear H
  have H := H1
  clear H1
  by_cases c9 : x11_1 > 0
  rotate_left
  ·
   rw [if_neg c9] at H
   have c9b0 : decide (0 < x11_1) = false := decide_eq_false c9
   clear c9
   have H' := Aside0.mk H
   clear H
   have p504 : 0 ≤ (x11_1 : Int) := of_decide_eq_true (by first | (with_reducible assumption) | assumption)
   have q504 : x11_1 < (l0.length : Int) := of_decide_eq_true (by first | (with_reducible assumption) | assumption)
   obtain ⟨ad504, e504, hx504_0⟩ := Kd.at_int HR0.out x11_1 p504 q504
   cases e504
   replace p504 := eq_true p504
   replace q504 := eq_true q504
   go_wp2_with (first | ((with_reducible refine gate_callee (f := 82) rfl ?_); refine goesL_ (some 19) rfl rfl Try.func82 (by kernel_rfl) rfl #[.int .i64 (rd l0 x11_1), .int .i64 a1, .int .i64 a2] rfl (by (try simp only [List.map_toArray, List.map_cons, List.map_nil]); first | done | rfl | (simp only [List.length_drop, List.length_take]; rfl)) ?_; (with_reducible refine (match_in.calls (rd l0 x11_1) a1 a2 true _ A7.out).mono ?_); rintro e w' ⟨rfl, ⟨nd, rfl⟩⟩; refine ⟨_, rfl, ?_⟩))
   go_roundg k1
   case measure => have := HK1.out; omega
   case rel => exact ⟨(wrap64 (x11_1 + 1)), (by first | rfl | (simp; done) | (simp [*]; done)), H', ⟨by have := HK1.out; omega⟩, by repeat (first | exact Drawn0.refl _ | apply Drawn0.step)⟩
  rw [if_pos c9] at H
  have c9b0 : decide (0 < x11_1) = true := decide_eq_true c9
  clear c9
  obtain ⟨ji10, hji10⟩ : ∃ j_ : Int, (wrap64 (x11_1 - 1)) = j_ := ⟨_, rfl⟩
  replace H : (if 0 ≤ (ji10) then (if (ji10) < (l0.length : Int) then (if (rd l0 (ji10)) ≥ (rd l0 x11_1) then (some false) else (match_rising.l0 k1 l0 a1 a2 l0 (l0.length : Int) (wrap64 (x11_1 + 1)))) else (none)) else (none)) = some r := by first | (rw [hji10] at H; exact H) | (simp only [hji10] at H ⊢; exact H)
  (try rw [hji10] at A7)
  have hji10w : (IntKind.i64.wrap (x11_1 - 1)) = ji10 := (i64_w _).trans hji10
  by_cases c11 : 0 ≤ (ji10)
  rotate_left
  ·
   rw [if_neg c11] at H
   exact absurd H (by simp)
  rw [if_pos c11] at H
  have c11b0 : decide (0 ≤ (ji10)) = true := decide_eq_true c11
  clear c11
  by_cases c12 : (ji10) < (l0.length : Int)
  rotate_left
  ·
   rw [if_neg c12] at H
   exact absurd H (by simp)
  rw [if_pos c12] at H
  have c12b0 : decide ((ji10) < (l0.length : Int)) = true := decide_eq_true c12
  clear c12
  by_cases c13 : (rd l0 (ji10)) ≥ (rd l0 x11_1)
  ·
   rw [if_pos c13] at H
   have c13b0 : decide ((rd l0 x11_1) ≤ (rd l0 (ji10))) = true := decide_eq_true c13
   clear c13
   obtain rfl := Option.some.inj H
   have p504 : 0 ≤ (x11_1 : Int) := of_decide_eq_true (by first | (with_reducible assumption) | assumption)
   have q504 : x11_1 < (l0.length : Int) := of_decide_eq_true (by first | (with_reducible assumption) | assumption)
   obtain ⟨ad504, e504, hx504_0⟩ := Kd.at_int HR0.out x11_1 p504 q504
   cases e504
   replace p504 := eq_true p504
   replace q504 := eq_true q504
   go_wp2_with (first | ((with_reducible refine gate_callee (f := 82) rfl ?_); refine goesL_ (some 19) rfl rfl Try.func82 (by kernel_rfl) rfl #[.int .i64 (rd l0 x11_1), .int .i64 a1, .int .i64 a2] rfl (by (try simp only [List.map_toArray, List.map_cons, List.map_nil]); first | done | rfl | (simp only [List.length_drop, List.length_take]; rfl)) ?_; (with_reducible refine (match_in.calls (rd l0 x11_1) a1 a2 true _ A7.out).mono ?_); rintro e w' ⟨rfl, ⟨nd, rfl⟩⟩; refine ⟨_, rfl, ?_⟩; have p506 : 0 ≤ ((ji10) : Int) := of_decide_eq_true (by first | (with_reducible assumption) | assumption); have q506 : (ji10) < (l0.length : Int) := of_decide_eq_true (by first | (with_reducible assumption) | assumption); obtain ⟨ad506, e506, hx506_0⟩ := Kd.at_int HR0.out (ji10) p506 q506; obtain rfl : ad504 = ad506 := (by injection e506); replace p506 := eq_true p506; replace q506 := eq_true q506))
   go_ret
   exact ⟨by first | rfl | (simp; done) | (simp only [← hji10] <;> (first | rfl | simp)) | (simp [*]; done), by repeat (first | exact Drawn0.refl _ | apply Drawn0.step)⟩
  rw [if_neg c13] at H
  have c13b0 : decide ((rd l0 x11_1) ≤ (rd l0 (ji10))) = false := decide_eq_false c13
  clear c13
  have H' := Aside0.mk H
  clear H
  have p504 : 0 ≤ (x11_1 : Int) := of_decide_eq_true (by first | (with_reducible assumption) | assumption)
  have q504 : x11_1 < (l0.length : Int) := of_decide_eq_true (by first | (with_reducible assumption) | assumption)
  obtain ⟨ad504, e504, hx504_0⟩ := Kd.at_int HR0.out x11_1 p504 q504
  cases e504
  replace p504 := eq_true p504
  replace q504 := eq_true q504
  go_wp2_with (first | ((with_reducible refine gate_callee (f := 82) rfl ?_); refine goesL_ (some 19) rfl rfl Try.func82 (by kernel_rfl) rfl #[.int .i64 (rd l0 x11_1), .int .i64 a1, .int .i64 a2] rfl (by (try simp only [List.map_toArray, List.map_cons, List.map_nil]); first | done | rfl | (simp only [List.length_drop, List.length_take]; rfl)) ?_; (with_reducible refine (match_in.calls (rd l0 x11_1) a1 a2 true _ A7.out).mono ?_); rintro e w' ⟨rfl, ⟨nd, rfl⟩⟩; refine ⟨_, rfl, ?_⟩; have p506 : 0 ≤ ((ji10) : Int) := of_decide_eq_true (by first | (with_reducible assumption) | assumption); have q506 : (ji10) < (l0.length : Int) := of_decide_eq_true (by first | (with_reducible assumption) | assumption); obtain ⟨ad506, e506, hx506_0⟩ := Kd.at_int HR0.out (ji10) p506 q506; obtain rfl : ad504 = ad506 := (by injection e506); replace p506 := eq_true p506; replace q506 := eq_true q506))
  go_roundg k1
  case measure => have := HK1.out; omega
  case rel => exact ⟨(wrap64 (x11_1 + 1)), (by first | rfl | (simp; done) | (simp [*]; done)), H', ⟨by have := HK1.out; omega⟩, by repeat (first | exact Drawn0.refl _ | apply Drawn0.step)⟩
def match_copied_int_88.f (l0 : List Int) : Option (List Int) := (some (([] : List Int) : List Int)).bind fun y507 => (if y507.length + l0.length < 17592186044416 then (some (y507 ++ l0)) else (none))
set_option maxHeartbeats 8000000 in
set_option maxRecDepth 100000 in
theorem match_copied_int_88.calls (A0 : Option Addr) (c0 : Nat) (l0 : List Int) (r : List Int) (w : World) (hr0 : Kd.C (Kd.int .i64) w A0 l0.length l0) (hc0 : l0.length ≤ c0) (h : match_copied_int_88.f l0 = some r) :
  Calls Try.prog 88 #[.slice A0 l0.length c0] w fun e w' => ∃ v0_ : Value, e = .returned (v0_) ∧ Kd.R (Kd.int .i64) 3 w' w.heap.size (fun _ => True) v0_ r ∧ Below w.heap.size w w' := by
 have HR0 := Aside0.mk hr0
 have HC0 := Aside0.mk hc0
 clear hr0 hc0
 have HB := Aside0.mk (Below.refl w.heap.size w)
 have H : ((some (([] : List Int) : List Int)).bind fun y507 => (if y507.length + l0.length < 17592186044416 then (some (y507 ++ l0)) else (none))) = some r := h
 clear h
 obtain ⟨y507, hy507⟩ : ∃ y_ : List Int, y_ = (([] : List Int)) := ⟨_, rfl⟩
 replace H : (if y507.length + l0.length < 17592186044416 then (some (y507 ++ l0)) else (none)) = some r := by first | (rw [hy507]; with_reducible exact H) | (have H2_ := (Option.bind_some _ _).symm.trans H; rw [hy507]; with_reducible exact H2_) | (have H2_ := (Option.bind_some _ _).symm.trans H; with_reducible exact H2_) | with_reducible exact H | (rw [hy507]; exact H) | exact H
 have Ny507 := Aside0.mk hy507
 clear hy507
 by_cases c2 : y507.length + l0.length < 17592186044416
 rotate_left
 ·
  rw [if_neg c2] at H
  exact absurd H (by simp)
 rw [if_pos c2] at H
 have LMc2 := Aside0.mk c2
 clear c2
 obtain ⟨y510, hy510⟩ : ∃ y_ : List Int, y_ = (y507 ++ l0) := ⟨_, rfl⟩
 replace H : (some y510) = some r := by first | (rw [hy510]; with_reducible exact H) | (have H2_ := (Option.bind_some _ _).symm.trans H; rw [hy510]; with_reducible exact H2_) | (have H2_ := (Option.bind_some _ _).symm.trans H; with_reducible exact H2_) | with_reducible exact H | (rw [hy510]; exact H) | exact H
 have Ny510 := Aside0.mk hy510
 clear hy510
 obtain rfl := Option.some.inj H
 go_enter Try.func88, Try.ntmps88
 go_wp2_with (first | ((with_reducible refine gate_dst (N := 3) rfl ?_); refine Kd.R_lit (Kd.int .i64) _ 3 ?hg (N := 3) ?hd (xs := ([] : List Int)) (inner := []) (ok := fun _ => True) (okp := fun _ => True) ?hr ?hp (fun _ hk => hk) trivial (Below.refl _ _) (Nat.le_refl _) (by simp) ?_; (case hd => rfl); (case hg => rfl); (case hr => first | (go_simp; done) | (go_simp; rfl)); (case hp => exact (Reps.none _ _)); intro v508 w3 ho4 hb hg_ hnew_; clear hg_ hnew_; (first | rw [← Ny507.out] at ho4 | (simp only [Int.reduceToNat] at ho4; rw [← Ny507.out] at ho4)); have n0_ := Aside0.mk (Kd.R_lower ho4 (below_size (by repeat (first | (with_reducible first | exact HB.out | apply below_alloc | apply pw_below_drewN | apply below_drew1) | exact HB.out)))); have n1_ := Aside0.mk (below_step (by repeat (first | (with_reducible first | exact HB.out | apply below_alloc | apply pw_below_drewN | apply below_drew1) | exact HB.out)) hb); clear HB; have HO509 := n0_; have HB := n1_; clear n0_ n1_; clear hb ho4) | ((with_reducible refine gate_builtin (b := .append) (xs := #[.tmp 3, .tmp 4]) rfl ?_); at_builtin; refine Kd.R_append_rows (Kd.int .i64) (w0 := w) w.heap.size rfl (.tmp 3) (.tmp 4) 22 3 (.int .i64 0) 8 rfl Try.underlying22 info3 rfl (by decide) (by omega) v508 y507 l0 _ _ _ (fun _ => True) (fun _ => False) rfl rfl ?aO ?aR (fun _ _ h => h) (fun _ h => h.elim) ?aF ?aB ?aS ?aL ?_; (case aR => repeat (first | exact (Kd.C_below HR0.out HB.out) | (with_reducible refine Kd.C_alloc ?_ _) | (with_reducible refine Kd.C_drewN ?_ _) | (with_reducible refine Kd.C_drew ?_))); (case aB => exact (by repeat (first | (with_reducible first | exact HB.out | apply below_alloc | apply pw_below_drewN | apply below_drew1) | exact HB.out))); (case aF => exact (fun _ _ => trivial)); (case aO => exact (by (with_reducible repeat (first | apply Kd.R_alloc | apply Kd.R_drewN | apply Kd.R_drew)); exact HO509.out)); (case aS => exact (below_size (by repeat (first | (with_reducible first | exact HB.out | apply below_alloc | apply pw_below_drewN | apply below_drew1) | exact HB.out)))); (case aL => have := LMc2.out; omega); intro v511 w5 ho hb hg hat; rw [← Ny510.out] at ho; have n0_ := Aside0.mk (hb); have n1_ := Aside0.mk (ho); clear HB; clear HO509; have HB := n0_; have HO512 := n1_; clear n0_ n1_; clear ho hb hg hat))
 go_ret
 exact ⟨_, by first | rfl | (simp [errW_none, errW_some] <;> rfl) | (simp [*, errW_none, errW_some] <;> rfl), by (with_reducible repeat (first | apply Kd.R_alloc | apply Kd.R_drewN | apply Kd.R_drew)); exact HO512.out, by repeat (first | (with_reducible first | exact HB.out | apply below_alloc | apply pw_below_drewN | apply below_drew1) | exact HB.out)⟩
def api_Slot.f (l0 : List (S50)) : Option ((List (S50))) := (some (([] : List (S50)) : List (S50))).bind fun y513 => (if y513.length + l0.length < 5864062014805 then (some (y513 ++ l0)) else (none))
set_option maxHeartbeats 8000000 in
set_option maxRecDepth 100000 in
theorem api_Slot.calls (A0 : Option Addr) (c0 : Nat) (l0 : List (S50)) (r : List (S50)) (w : World) (hr0 : Kd.C k50 w A0 l0.length l0) (hc0 : l0.length ≤ c0) (h : api_Slot.f l0 = some r) :
  Calls Try.prog 92 #[.slice A0 l0.length c0] w fun e w' => ∃ v0_ : Value, e = .returned (v0_) ∧ Kd.R k50 50 w' w.heap.size (fun _ => True) v0_ r ∧ Below w.heap.size w w' := by
 have HR0 := Aside0.mk hr0
 have HC0 := Aside0.mk hc0
 clear hr0 hc0
 have HB := Aside0.mk (Below.refl w.heap.size w)
 have H : ((some (([] : List (S50)) : List (S50))).bind fun y513 => (if y513.length + l0.length < 5864062014805 then (some (y513 ++ l0)) else (none))) = some r := h
 clear h
 obtain ⟨y513, hy513⟩ : ∃ y_ : List (S50), y_ = (([] : List (S50))) := ⟨_, rfl⟩
 replace H : (if y513.length + l0.length < 5864062014805 then (some (y513 ++ l0)) else (none)) = some r := by first | (rw [hy513]; with_reducible exact H) | (have H2_ := (Option.bind_some _ _).symm.trans H; rw [hy513]; with_reducible exact H2_) | (have H2_ := (Option.bind_some _ _).symm.trans H; with_reducible exact H2_) | with_reducible exact H | (rw [hy513]; exact H) | exact H
 have Ny513 := Aside0.mk hy513
 clear hy513
 by_cases c2 : y513.length + l0.length < 5864062014805
 rotate_left
 ·
  rw [if_neg c2] at H
  exact absurd H (by simp)
 rw [if_pos c2] at H
 have LMc2 := Aside0.mk c2
 clear c2
 obtain ⟨y516, hy516⟩ : ∃ y_ : List (S50), y_ = (y513 ++ l0) := ⟨_, rfl⟩
 replace H : (some y516) = some r := by first | (rw [hy516]; with_reducible exact H) | (have H2_ := (Option.bind_some _ _).symm.trans H; rw [hy516]; with_reducible exact H2_) | (have H2_ := (Option.bind_some _ _).symm.trans H; with_reducible exact H2_) | with_reducible exact H | (rw [hy516]; exact H) | exact H
 have Ny516 := Aside0.mk hy516
 clear hy516
 obtain rfl := Option.some.inj H
 go_enter Try.func92, Try.ntmps92
 go_wp2_with (first | ((with_reducible refine gate_dst (N := 3) rfl ?_); refine Kd.R_lit k50 _ 50 ?hg (N := 3) ?hd (xs := ([] : List (S50))) (inner := []) (ok := fun _ => True) (okp := fun _ => True) ?hr ?hp (fun _ hk => hk) trivial (Below.refl _ _) (Nat.le_refl _) (by simp) ?_; (case hd => rfl); (case hg => rfl); (case hr => first | (go_simp; done) | (go_simp; rfl)); (case hp => exact (Reps.none _ _)); intro v514 w3 ho4 hb hg_ hnew_; clear hg_ hnew_; (first | rw [← Ny513.out] at ho4 | (simp only [Int.reduceToNat] at ho4; rw [← Ny513.out] at ho4)); have n0_ := Aside0.mk (Kd.R_lower ho4 (below_size (by repeat (first | (with_reducible first | exact HB.out | apply below_alloc | apply pw_below_drewN | apply below_drew1) | exact HB.out)))); have n1_ := Aside0.mk (below_step (by repeat (first | (with_reducible first | exact HB.out | apply below_alloc | apply pw_below_drewN | apply below_drew1) | exact HB.out)) hb); clear HB; have HO515 := n0_; have HB := n1_; clear n0_ n1_; clear hb ho4) | ((with_reducible refine gate_builtin (b := .append) (xs := #[.tmp 3, .tmp 4]) rfl ?_); at_builtin; refine Kd.R_append_rows k50 (w0 := w) w.heap.size rfl (.tmp 3) (.tmp 4) 23 50 (.agg #[(.int .i64 0), (.int .i64 0), (.int .i64 0)]) 24 rfl Try.underlying23 info50 rfl (by decide) (by omega) v514 y513 l0 _ _ _ (fun _ => True) (fun _ => False) rfl rfl ?aO ?aR (fun _ _ h => h) (fun _ h => h.elim) ?aF ?aB ?aS ?aL ?_; (case aR => repeat (first | exact (Kd.C_below HR0.out HB.out) | (with_reducible refine Kd.C_alloc ?_ _) | (with_reducible refine Kd.C_drewN ?_ _) | (with_reducible refine Kd.C_drew ?_))); (case aB => exact (by repeat (first | (with_reducible first | exact HB.out | apply below_alloc | apply pw_below_drewN | apply below_drew1) | exact HB.out))); (case aF => exact (fun _ _ => trivial)); (case aO => exact (by (with_reducible repeat (first | apply Kd.R_alloc | apply Kd.R_drewN | apply Kd.R_drew)); exact HO515.out)); (case aS => exact (below_size (by repeat (first | (with_reducible first | exact HB.out | apply below_alloc | apply pw_below_drewN | apply below_drew1) | exact HB.out)))); (case aL => have := LMc2.out; omega); intro v517 w5 ho hb hg hat; rw [← Ny516.out] at ho; have n0_ := Aside0.mk (hb); have n1_ := Aside0.mk (ho); clear HB; clear HO515; have HB := n0_; have HO518 := n1_; clear n0_ n1_; clear ho hb hg hat))
 go_ret
 exact ⟨_, by first | rfl | (simp [errW_none, errW_some] <;> rfl) | (simp [*, errW_none, errW_some] <;> rfl), by (with_reducible repeat (first | apply Kd.R_alloc | apply Kd.R_drewN | apply Kd.R_drew)); exact HO518.out, by repeat (first | (with_reducible first | exact HB.out | apply below_alloc | apply pw_below_drewN | apply below_drew1) | exact HB.out)⟩
end Go.Proofs.Ytkmmihadcbfkoaa.PM
end

section
namespace Go.Proofs.Ytkmmihadcbfkoaa
/-- The finds below k that were given the slot. -/
def atTo (zs : List Int) (s : Int) (k : Nat) : List Int := ((List.range k).filter (fun j => zs[j]?.getD 0 == s)).map Int.ofNat
def atOf (zs : List Int) (s : Int) : List Int := atTo zs s zs.length
theorem atTo_yes {zs : List Int} {s : Int} {k : Nat} (h : zs[k]?.getD 0 = s) : atTo zs s (k + 1) = atTo zs s k ++ [(k : Int)] := by
 simp [atTo, List.range_succ, List.filter_append, h]
theorem atTo_no {zs : List Int} {s : Int} {k : Nat} (h : zs[k]?.getD 0 ≠ s) : atTo zs s (k + 1) = atTo zs s k := by
 simp [atTo, List.range_succ, List.filter_append, h]
theorem atTo_length (zs : List Int) (s : Int) (k : Nat) : (atTo zs s k).length ≤ k := by
 simp only [atTo, List.length_map]
 exact Nat.le_trans (List.length_filter_le _ _) (by simp)
theorem mem_atOf {zs : List Int} {s g : Int} : g ∈ atOf zs s ↔ 0 ≤ g ∧ g < zs.length ∧ zs[g.toNat]?.getD 0 = s := by
 simp only [atOf, atTo, List.mem_map, List.mem_filter, List.mem_range, beq_iff_eq]
 constructor
 ·
  rintro ⟨j, ⟨h1, h2⟩, rfl⟩
  exact ⟨Int.natCast_nonneg _, by simpa using h1, by simpa using h2⟩
 rintro ⟨h0, h1, h2⟩
 exact ⟨g.toNat, ⟨by omega, h2⟩, by simp; omega⟩
def ld (has : List Int) (s : Int) : Int := (atOf has s).length
/-- What the search comes to: found or not, the slots seen, the finds' slots. -/
structure SR where
 ok : Bool
 seen : List Bool
 has : List Int
def seekG (rec : Int → List Bool → List Int → SR) (f : Int) : List Int → List Bool → List Int → SR
 | [], seen, has => ⟨false, seen, has⟩
 | g :: gs, seen, has =>
  if g = f then seekG rec f gs seen has
  else if (rec g seen has).ok then rec g seen has else seekG rec f gs (rec g seen has).seen (rec g seen has).has
def seekS (rec : Int → List Bool → List Int → SR) (room : List Int) (f : Int) : List Int → List Bool → List Int → SR
 | [], seen, has => ⟨false, seen, has⟩
 | s :: ss, seen, has =>
  if seen.getD s.toNat false then seekS rec room f ss seen has
  else if ld has s < room.getD s.toNat 0 then ⟨true, seen.set s.toNat true, has.set f.toNat s⟩
  else if (seekG rec f (atOf has s) (seen.set s.toNat true) has).ok then
   ⟨true, (seekG rec f (atOf has s) (seen.set s.toNat true) has).seen, (seekG rec f (atOf has s) (seen.set s.toNat true) has).has.set f.toNat s⟩
  else seekS rec room f ss (seekG rec f (atOf has s) (seen.set s.toNat true) has).seen (seekG rec f (atOf has s) (seen.set s.toNat true) has).has
def seekF (fits : List (List Int)) (room : List Int) : Nat → Int → List Bool → List Int → SR
 | 0, _, seen, has => ⟨false, seen, has⟩
 | m + 1, f, seen, has => seekS (seekF fits room m) room f (fits.getD f.toNat []) seen has
/-- How many slots have not been seen. -/
def cnt (seen : List Bool) : Nat := seen.count false
/-- Nothing has been lost of the lists' lengths; what was seen stays seen. -/
def SRok (seen : List Bool) (has : List Int) (r : SR) : Prop := r.seen.length = seen.length ∧ r.has.length = has.length ∧ cnt r.seen ≤ cnt seen
theorem cnt_set {seen : List Bool} {i : Nat} (hi : i < seen.length) (h : seen.getD i false = false) : cnt (seen.set i true) + 1 = cnt seen := by
 have h' : seen[i] = false := by simpa [List.getD_eq_getElem?_getD, List.getElem?_eq_getElem hi] using h
 have hp : 0 < seen.count false := List.count_pos_iff.2 (h' ▸ List.getElem_mem hi)
 unfold cnt
 rw [List.count_set hi, h']
 simp
 omega
theorem cnt_set_le {seen : List Bool} {i : Nat} : cnt (seen.set i true) ≤ cnt seen := by
 by_cases hi : i < seen.length
 rotate_left
 ·
  rw [List.set_eq_of_length_le (by omega)]; omega
 by_cases h : seen.getD i false = false
 ·
  have := cnt_set hi h; omega
 have h' : seen[i] = true := by
  have : ¬ seen[i] = false := by simpa [List.getD_eq_getElem?_getD, List.getElem?_eq_getElem hi] using h
  simpa using this
 have : seen.set i true = seen := by
  apply List.ext_getElem (by simp)
  intro j h1 h2
  rw [List.getElem_set]
  split
  ·
   rename_i e; subst e; exact h'.symm
  ·
   rfl
 rw [this]; omega
theorem seekG_ok {rec : Int → List Bool → List Int → SR} (hr : ∀ g seen has, SRok seen has (rec g seen has)) (f : Int) : ∀ gs seen has, SRok seen has (seekG rec f gs seen has)
 | [], seen, has => ⟨rfl, rfl, Nat.le_refl _⟩
 | g :: gs, seen, has => by
  unfold seekG
  have h0 := hr g seen has
  have ih := seekG_ok hr f gs
  split
  ·
   exact ih _ _
  ·
   split
   ·
    exact h0
   ·
    have h1 := ih (rec g seen has).seen (rec g seen has).has
    exact ⟨h1.1.trans h0.1, h1.2.1.trans h0.2.1, Nat.le_trans h1.2.2 h0.2.2⟩
theorem seekS_ok {rec : Int → List Bool → List Int → SR} (hr : ∀ g seen has, SRok seen has (rec g seen has)) (room : List Int) (f : Int) : ∀ ss seen has, SRok seen has (seekS rec room f ss seen has)
 | [], seen, has => ⟨rfl, rfl, Nat.le_refl _⟩
 | s :: ss, seen, has => by
  unfold seekS
  have ih := seekS_ok hr room f ss
  have h0 := seekG_ok hr f (atOf has s) (seen.set s.toNat true) has
  have hc := cnt_set_le (seen := seen) (i := s.toNat)
  have hl : (seen.set s.toNat true).length = seen.length := by simp
  split
  ·
   exact ih _ _
  ·
   split
   ·
    exact ⟨by simp, by simp, hc⟩
   ·
    split
    ·
     exact ⟨h0.1.trans hl, by simpa using h0.2.1, Nat.le_trans h0.2.2 hc⟩
    ·
     have h1 := ih (seekG rec f (atOf has s) (seen.set s.toNat true) has).seen (seekG rec f (atOf has s) (seen.set s.toNat true) has).has
     exact ⟨h1.1.trans (h0.1.trans hl), h1.2.1.trans h0.2.1, Nat.le_trans h1.2.2 (Nat.le_trans h0.2.2 hc)⟩
theorem seekF_ok (fits : List (List Int)) (room : List Int) : ∀ m f seen has, SRok seen has (seekF fits room m f seen has)
 | 0, _, _, _ => ⟨rfl, rfl, Nat.le_refl _⟩
 | m + 1, f, seen, has => by
  unfold seekF
  exact seekS_ok (fun g s h => seekF_ok fits room m g s h) room f _ _ _
/-- The finds that stand in each other's way, as they are gathered. -/
def hallTo (find : Int) (seen : List Bool) (has : List Int) (k : Nat) : List Int := find :: ((List.range k).filter (fun s : Nat => seen.getD s false)).flatMap (fun s : Nat => atOf has (s : Int))
theorem hallTo_yes {find : Int} {seen : List Bool} {has : List Int} {k : Nat} (h : seen.getD k false = true) : hallTo find seen has (k + 1) = hallTo find seen has k ++ atOf has (k : Int) := by
 simp only [hallTo, List.range_succ, List.filter_append, List.flatMap_append, List.cons_append]
 rw [List.filter_cons_of_pos (by simpa using h)]
 simp
theorem hallTo_no {find : Int} {seen : List Bool} {has : List Int} {k : Nat} (h : seen.getD k false = false) : hallTo find seen has (k + 1) = hallTo find seen has k := by
 simp only [hallTo, List.range_succ, List.filter_append]
 rw [List.filter_cons_of_neg (by simp only [h]; simp)]
 simp
def giveR (fits : List (List Int)) (room : List Int) (ns : Nat) (find : Int) (has : List Int) : SR := seekF fits room (ns + 1) find (List.replicate ns false) has
def giveH (fits : List (List Int)) (room : List Int) (ns : Nat) (find : Int) (has : List Int) : List Int :=
 if (giveR fits room ns find has).ok then [] else
  Lib.compact ((hallTo find (giveR fits room ns find has).seen (giveR fits room ns find has).has ns).mergeSort fun x y => decide (x ≤ y))
/-- What filling comes to: all have a slot, or a Hall set; the finds' slots. -/
structure FR where
 ok : Bool
 hall : List Int
 has : List Int
def fillL (fits : List (List Int)) (room : List Int) (ns : Nat) (out : Int) : List Nat → List Int → FR
 | [], has => ⟨true, [], has⟩
 | f :: fs, has =>
  if (fits.getD f []).length = 0 ∨ (f : Int) = out ∨ 0 ≤ has.getD f 0 then fillL fits room ns out fs has
  else if (giveR fits room ns f has).ok then fillL fits room ns out fs (giveR fits room ns f has).has
  else ⟨false, giveH fits room ns f has, (giveR fits room ns f has).has⟩
def fillF (fits : List (List Int)) (room : List Int) (ns : Nat) (out : Int) (has : List Int) : FR := fillL fits room ns out (List.range fits.length) has
theorem giveR_len (fits : List (List Int)) (room : List Int) (ns : Nat) (f : Int) (has : List Int) : (giveR fits room ns f has).has.length = has.length := (seekF_ok fits room (ns + 1) f _ has).2.1
theorem fillL_len (fits : List (List Int)) (room : List Int) (ns : Nat) (out : Int) : ∀ fs has, (fillL fits room ns out fs has).has.length = has.length
 | [], _ => rfl
 | f :: fs, has => by
  unfold fillL
  split
  ·
   exact fillL_len fits room ns out fs has
  ·
   split
   ·
    exact (fillL_len fits room ns out fs _).trans (giveR_len ..)
   ·
    exact giveR_len ..
end Go.Proofs.Ytkmmihadcbfkoaa
end

section
namespace Go.Proofs.Ytkmmihadcbfkoaa
open Go.RowKit Go.Shelf
attribute [local go_sem] Oper.semAt_some
set_option linter.unusedVariables false
set_option linter.unusedSimpArgs false
/-- What a round keeps: all below n₀, and the box of the slot. -/
def Kp2 (n₀ Bs : Nat) (W W' : World) : Prop := Below n₀ W W' ∧ W'.heap[Bs]? = W.heap[Bs]?
theorem Kp2.refl (n₀ Bs : Nat) (W : World) : Kp2 n₀ Bs W W := ⟨Below.refl _ _, rfl⟩
theorem Kp2.trans {n₀ Bs : Nat} {A B C : World} (h : Kp2 n₀ Bs A B) (k : Kp2 n₀ Bs B C) : Kp2 n₀ Bs A C := ⟨h.1.trans k.1, k.2.trans h.2⟩
theorem Kp2.cell {n₀ Bs : Nat} {W W' : World} (h : Kp2 n₀ Bs W W') (o : Nat) : W'.cell? ⟨Bs, o, none⟩ = W.cell? ⟨Bs, o, none⟩ := World.cell?_of_block (w := W) h.2
theorem Kp2.put {n₀ Bs m : Nat} (hn : n₀ ≤ m) (hB : Bs < m) (W : World) (l : Nat) (o o' : Obj) (hl : m ≤ l) (h : W.heap[l]? = some o) (_ : o.isCells = false) (_ : o.isWalk = false) : Kp2 n₀ Bs W (W.putObj l o') :=
 ⟨(Below.refl n₀ W).grown (grownBy_putObj' W l o') (by have := (Array.getElem?_eq_some_iff.1 h).1; omega) (fun k e => by cases e; omega), World.putObj_heap_other (by omega)⟩
theorem Kp2.setCell {n₀ Bs b : Nat} (W : World) (o : Nat) (v : Value) (hb : n₀ ≤ b) (hne : Bs ≠ b) : Kp2 n₀ Bs W (W.setCell ⟨b, o, none⟩ v) :=
 ⟨(Below.refl n₀ W).setCell (p := ⟨b, o, none⟩) hb v, Below.heap_setCell _ _ _ _ hne⟩
set_option maxRecDepth 100000 in
set_option maxHeartbeats 2000000 in
theorem at1_in (n : Nat) (hn : 1 ≤ n) (l Bt Bs g n₀ : Nat) (ad : Option Addr) (len cap : Nat) (s : Int) (zs : List Int) (hlen : zs.length = len) (hreach : len ≤ 9223372036854775807) (J Jx : List Int → World → Prop)
  (hY : ∀ pre x W, J pre W → pre.length < len → YieldAt Fence.wide (n - 1) Try.prog l #[.int .i64 x] W fun e W' =>
   (e = .returned (.bool true) ∧ J (pre ++ [x]) W' ∧ Kp2 n₀ Bs W W') ∨ (e = .returned (.bool false) ∧ Jx (pre ++ [x]) W'))
  (W : World) (hBt : W.cell? ⟨Bt, 0, none⟩ = some (.pointer (some ⟨g, 0, none⟩))) (hBs : W.cell? ⟨Bs, 0, none⟩ = some (.int .i64 s)) (hg : W.cell? ⟨g, 4, none⟩ = some (.slice ad len cap))
  (hc : ∀ j, j < len → ∃ a, ad = some a ∧ a.block < n₀ ∧ W.cell? (a.add j) = some (.int .i64 (zs[j]?.getD 0))) (h0 : J [] W) :
  CallsIn Fence.wide n Try.prog 100 #[.func (.yield l) #[] #[], .pointer (some ⟨Bt, 0, none⟩), .pointer (some ⟨Bs, 0, none⟩)] W fun e W' => (∃ v, e = .returned v) ∧
   ((∃ ys, ys = atTo zs s len ∧ J ys W') ∨ (∃ pre, (∃ k, k ≤ len ∧ pre = atTo zs s k) ∧ Jx pre W')) := by
 refine callsIn_of_wp Try.func100 rfl trivial ?_ rfl
 simp only [Try.ntmps100, List.size_toArray, List.length_cons, List.length_nil, Nat.reduceAdd, Nat.reduceSub, Array.replicate_succ, Array.replicate_zero, List.push_toArray, List.append_toArray, List.nil_append, List.cons_append]
 gi_wp2
 gi_loopw [11] (fun i wr => ∃ k : Nat, k ≤ len ∧ i = .int .i64 k ∧ J (atTo zs s k) wr ∧ Kp2 n₀ Bs W wr)
  (fun i _ => len - (intOf i).toNat)
 case atStart => exact ⟨0, Nat.zero_le _, rfl, h0, Kp2.refl _ _ _⟩
 obtain ⟨k, hk, rfl, hJs, hnx⟩ := hrel
 by_cases hlt : k < len
 rotate_left
 ·
  obtain rfl : k = len := by omega
  gi_wp2
  go_end0
  exact ⟨⟨_, rfl⟩, .inl ⟨_, rfl, hJs⟩⟩
 obtain ⟨a, rfl, hab, hca⟩ := hc k hlt
 have hcx : wr.cell? (a.add k) = some (.int .i64 (zs[k]?.getD 0)) := (hnx.1.cell (p := a.add k) (by rw [Go.ChangeShapes.block_add]; exact hab)).trans hca
 have hsx : wr.cell? ⟨Bs, 0, none⟩ = some (.int .i64 s) := (hnx.cell 0).trans hBs
 have hyes := atTo_yes (zs := zs) (s := s) (k := k)
 have hno := atTo_no (zs := zs) (s := s) (k := k)
 have hY' := hY (atTo zs s k) (k : Int) wr hJs (Nat.lt_of_le_of_lt (atTo_length _ _ _) hlt)
 clear hY hca
 generalize zs[k]?.getD 0 = x at *
 have HY := Go.Lib.hid hyes
 have HN := Go.Lib.hid hno
 have HK := Go.Lib.hid hnx
 clear hyes hno hc hnx
 by_cases he : x = s
 rotate_left
 ·
  have he1 : (x == s) = false := by simpa using he
  clear hY'
  gi_wp2
  refine ⟨fun _ h => (by cases h), ?_⟩
  gi_wp2
  go_roundw
  case rel => exact ⟨k + 1, by omega, by simp, by rw [HN.out he]; exact hJs, HK.out⟩
  case measure => simp [intOf]; omega
 subst he
 obtain ⟨fn, tmps, assign, body, hy, hR⟩ := hY'
 gi_wp2
 refine hR.mono ?_
 rintro e W3 (⟨rfl, hJ3, hk3⟩ | ⟨rfl, hJx3⟩)
 ·
  gi_wp2
  go_roundw
  case rel => exact ⟨k + 1, by omega, by simp, by rw [HY.out trivial]; exact hJ3, HK.out.trans hk3⟩
  case measure => simp [intOf]; omega
 gi_wp2
 refine bodyPost_ret (results_none rfl _ _ _) rfl ?_
 exact ⟨⟨_, rfl⟩, .inr ⟨_, ⟨k + 1, by omega, (HY.out trivial).symm⟩, hJx3⟩⟩
/-- What a reader of a row of ints needs. -/
def IntsAt (w : World) (ad : Option Addr) (zs : List Int) : Prop := ∀ j, j < zs.length → ∃ a, ad = some a ∧ a.block < w.heap.size ∧ w.cell? (a.add j) = some (.int .i64 (zs[j]?.getD 0))
theorem IntsAt.below {w w' : World} {ad : Option Addr} {zs : List Int} (h : IntsAt w ad zs) (hb : Below w.heap.size w w') : IntsAt w' ad zs := fun j hj => by
 obtain ⟨a, e, hl, hc⟩ := h j hj
 exact ⟨a, e, Nat.lt_of_lt_of_le hl hb.size, (hb.cell (p := a.add j) (by rw [Go.ChangeShapes.block_add]; exact hl)).trans hc⟩
set_option maxHeartbeats 1000000 in
theorem at_in (n : Nat) (g : Option Addr) (s : Int) (w : World) :
  CallsIn Fence.wide n Try.prog 90 #[.pointer g, .int .i64 s] w fun e w' => e = .returned (.func (.func 100) #[] #[.pointer (some ⟨w.heap.size, 0, none⟩), .pointer (some ⟨w.heap.size + 1, 0, none⟩)]) ∧ w' = (w.alloc (.cells #[.pointer g] 68)).alloc (.cells #[.int .i64 s] 3) := by
 refine callsIn_of_wp Try.func90 rfl trivial ?_ rfl
 simp only [Try.ntmps90, List.size_toArray, List.length_cons, List.length_nil, Nat.reduceAdd, Nat.reduceSub, Array.replicate_succ, Array.replicate_zero, List.push_toArray, List.append_toArray, List.nil_append, List.cons_append]
 gi_wp2
 go_ret
 exact ⟨rfl, rfl⟩
theorem at_stops (n : Nat) (hn : 1 ≤ n) (Bt Bs g : Nat) (ad : Option Addr) (cap : Nat) (s : Int) (zs : List Int) (hreach : zs.length ≤ 9223372036854775807) (n₀ : Nat) (w w0 : World) (hw0 : w0.heap.size = n₀) (hb : Below n₀ w0 w)
  (hBt : Bt < w.heap.size) (hBt0 : w.cell? ⟨Bt, 0, none⟩ = some (.pointer (some ⟨g, 0, none⟩))) (hBs : Bs < w.heap.size) (hBs0 : w.cell? ⟨Bs, 0, none⟩ = some (.int .i64 s)) (hg : w0.cell? ⟨g, 4, none⟩ = some (.slice ad zs.length cap)) (hgl : g < n₀)
  (hz : IntsAt w0 ad zs)  :
  SeqStopsK Fence.wide n Try.prog 100 #[.pointer (some ⟨Bt, 0, none⟩), .pointer (some ⟨Bs, 0, none⟩)] (fun x : Int => #[Value.int .i64 x]) (Kp2 n₀ Bs) (fun ys => ys = atOf zs s) (fun pre => ∃ k, k ≤ zs.length ∧ pre = atTo zs s k) zs.length w := fun l J Jx W hW _ _ hY h0 => by
 have hbW : Below n₀ w0 W := hb.trans (hW.mono (by have := hb.size; omega))
 refine at1_in n hn l Bt Bs g n₀ ad zs.length cap s zs rfl hreach J Jx hY W ((hW.cell (p := ⟨Bt, 0, none⟩) hBt).trans hBt0) ((hW.cell (p := ⟨Bs, 0, none⟩) hBs).trans hBs0) ((hbW.cell (p := ⟨g, 4, none⟩) hgl).trans hg) (fun j hj => ?_) h0
 obtain ⟨a, e, hl, hc⟩ := hz j hj
 rw [hw0] at hl
 exact ⟨a, e, by omega, (hbW.cell (p := a.add j) (by rw [Go.ChangeShapes.block_add]; exact hl)).trans hc⟩
set_option maxRecDepth 100000 in
set_option maxHeartbeats 2000000 in
theorem load_in (g : Nat) (ad : Option Addr) (cap : Nat) (s : Int) (zs : List Int) (hreach : zs.length ≤ 9223372036854775807) (w : World)
  (hg : w.cell? ⟨g, 4, none⟩ = some (.slice ad zs.length cap)) (hz : IntsAt w ad zs) :
  CallsIn Fence.wide 5 Try.prog 74 #[.pointer (some ⟨g, 0, none⟩), .int .i64 s] w fun e W' => e = .returned (.int .i64 ((atOf zs s).length : Int)) ∧ Below w.heap.size w W' := by
 have hgl : g < w.heap.size := World.block_lt_of_cell? w _ hg
 refine callsIn_of_wp_marks Try.func74 rfl trivial ?_ rfl
 simp only [Try.ntmps74, List.size_toArray, List.length_cons, List.length_nil, Nat.reduceAdd, Nat.reduceSub, Array.replicate_succ, Array.replicate_zero, List.push_toArray, List.append_toArray, List.nil_append, List.cons_append]
 gi_wp2_with fail
 refine ⟨trivial, ?_⟩
 refine (at_in (5 - 1) _ _ _).mono ?_
 rintro e w' ⟨rfl, rfl⟩
 gi_wp2
 have hB0 : Below w.heap.size w (((w.alloc (.cells #[.int .i64 0] 3)).alloc (.cells #[.pointer (some ⟨g, 0, none⟩)] 68)).alloc (.cells #[.int .i64 s] 3)) := (((Below.refl _ w).alloc (Nat.le_refl _) _).alloc (by simp) _).alloc (by simp; omega) _
 have bN := (((Boxed.new w 3 (.int .i64 0)).alloc (.cells #[.pointer (some ⟨g, 0, none⟩)] 68)).alloc (.cells #[.int .i64 s] 3))
 have bT := ((Boxed.new (w.alloc (.cells #[.int .i64 0] 3)) 68 (.pointer (some ⟨g, 0, none⟩))).alloc (.cells #[.int .i64 s] 3))
 have bS := Boxed.new ((w.alloc (.cells #[.int .i64 0] 3)).alloc (.cells #[.pointer (some ⟨g, 0, none⟩)] 68)) 3 (.int .i64 s)
 simp only [World.size_alloc] at bT bS
 obtain ⟨W0, hW0⟩ : ∃ W0, (((w.alloc (.cells #[.int .i64 0] 3)).alloc (.cells #[.pointer (some ⟨g, 0, none⟩)] 68)).alloc (.cells #[.int .i64 s] 3)) = W0 := ⟨_, rfl⟩
 have hsz : W0.heap.size = w.heap.size + 3 := by rw [← hW0]; simp
 rw [hW0] at hB0 bN bT bS ⊢
 refine wpIn_rangeFunc_ownG (w0 := W0) rfl (by omega) (gf := 100) (lb := #[.pointer (some ⟨w.heap.size + 1, 0, none⟩), .pointer (some ⟨w.heap.size + 1 + 1, 0, none⟩)]) rfl trivial (enters_of Try.func100 (by kernel_rfl) rfl)
  (at_stops (5 - 1) (by omega) (w.heap.size + 1) (w.heap.size + 1 + 1) g ad cap s zs hreach w.heap.size W0 w rfl hB0 (by omega) bT.cell (by omega) bS.cell hg hgl hz)
  Kp2.trans (Kp2.put (by omega) (by omega)) (Below.refl _ _) (fun _ => rfl)
  (fun pre W => Boxed W w.heap.size 3 (.int .i64 (pre.length : Int)) ∧ Below w.heap.size w W)
  (fun _ _ _ => False)
  (OwnFrom.and (Own.from (boxed_own w.heap.size 3 (fun pre : List Int => Value.int .i64 (pre.length : Int))) _) (ownFrom_below (Nat.le_refl _) (by omega)))
  (fun _ _ _ _ _ hs _ _ => hs)
  ⟨bN, hB0⟩
  (fun x => { tmps := #[.pointer (some ⟨g, 0, none⟩), .int .i64 s, undef, undef, .int .i64 0, .pointer (some ⟨w.heap.size, 0, none⟩), .pointer (some ⟨g, 0, none⟩), .int .i64 s, .func (.func 100) #[] #[.pointer (some ⟨w.heap.size + 1, 0, none⟩), .pointer (some ⟨w.heap.size + 1 + 1, 0, none⟩)], .int .i64 x, undef, undef, undef], defers := [] }) ?assign ?body ?done ?stop
 case assign =>
  intro l x W K hK
  gi_wp2
  simpa using hK
 case body =>
  rintro l pre x W ⟨hb, hB⟩ hlt
  have hc := hb.cell
  have hf := hb.frozen
  gi_wp2
  exact ⟨(KeepsOthers.setCell _ _ _).from _, Kp2.setCell _ _ _ (Nat.le_refl _) (by omega), by simp; exact hb.set _, hB.setCell (p := ⟨w.heap.size, 0, none⟩) (Nat.le_refl _) _⟩
 case done =>
  rintro D ys W hD rfl ⟨hb, hB⟩ hK
  have hc := hb.cell
  gi_wp2
  refine ⟨by simp, .inl ⟨_, _, rfl, run_takeDeferred hK, ?_⟩⟩
  exact ⟨_, results_tmp rfl _ _ _, rfl, hB.trans (belowK_b (w := w) (Nat.le_refl _) W D _ _ (by omega) hK rfl rfl)⟩
 case stop =>
  rintro D c pre W _ _ h _
  exact h.elim
theorem itinfo3 : (Try.prog.info? 3).map (fun i => (i.zero, i.size, i.bytes)) = some (some (.int .i64 0), 1, 8) := by kernel_rfl
set_option maxRecDepth 100000 in
set_option maxHeartbeats 2000000 in
theorem appendSeq_in (Bt Bs g : Nat) (ad : Option Addr) (cap : Nat) (s : Int) (zs : List Int) (hreach : zs.length * 8 ≤ 140737488355328) (w : World)
  (hBt : w.cell? ⟨Bt, 0, none⟩ = some (.pointer (some ⟨g, 0, none⟩))) (hBs : w.cell? ⟨Bs, 0, none⟩ = some (.int .i64 s))
  (hg : w.cell? ⟨g, 4, none⟩ = some (.slice ad zs.length cap)) (hz : IntsAt w ad zs) :
  CallsIn Fence.wide 5 Try.prog 99 #[.slice none 0 0, .func (.func 100) #[] #[.pointer (some ⟨Bt, 0, none⟩), .pointer (some ⟨Bs, 0, none⟩)]] w fun e W' => ∃ v, e = .returned v ∧ W'.ownsRow w.heap.size 3 1 v (atOf zs s).length ((atOf zs s).map (Value.int .i64)) ∧ Below w.heap.size w W' := by
 have hgl : g < w.heap.size := World.block_lt_of_cell? w _ hg
 have hBtl : Bt < w.heap.size := World.block_lt_of_cell? w _ hBt
 have hBsl : Bs < w.heap.size := World.block_lt_of_cell? w _ hBs
 obtain ⟨i0, hi, hz0, hz1, hz2⟩ := info_parts itinfo3
 refine callsIn_of_wp_marks Try.func99 rfl trivial ?_ rfl
 simp only [Try.ntmps99, List.size_toArray, List.length_cons, List.length_nil, Nat.reduceAdd, Nat.reduceSub, Array.replicate_succ, Array.replicate_zero, List.push_toArray, List.append_toArray, List.nil_append, List.cons_append]
 gi_wp2
 have hB0 : Below w.heap.size w (w.alloc (.cells #[.slice none 0 0] 22)) := (Below.refl _ w).alloc (Nat.le_refl _) _
 have bN := Boxed.new w 22 (.slice none 0 0)
 obtain ⟨W0, hW0⟩ : ∃ W0, (w.alloc (.cells #[.slice none 0 0] 22)) = W0 := ⟨_, rfl⟩
 have hsz : W0.heap.size = w.heap.size + 1 := by rw [← hW0]; simp
 rw [hW0] at hB0 bN ⊢
 refine wpIn_rangeFunc_ownG (w0 := W0) rfl (by omega) (gf := 100) (lb := #[.pointer (some ⟨Bt, 0, none⟩), .pointer (some ⟨Bs, 0, none⟩)]) rfl trivial (enters_of Try.func100 (by kernel_rfl) rfl)
  (at_stops (5 - 1) (by omega) Bt Bs g ad cap s zs (by omega) w.heap.size W0 w rfl hB0 (by omega) ((hB0.cell (p := ⟨Bt, 0, none⟩) hBtl).trans hBt) (by omega) ((hB0.cell (p := ⟨Bs, 0, none⟩) hBsl).trans hBs) hg hgl hz)
  Kp2.trans (Kp2.put (by omega) (by omega)) (Below.refl _ _) (fun _ => rfl)
  (fun pre W => (∃ v, Boxed W w.heap.size 22 v ∧ W.ownsRow w.heap.size 3 1 v pre.length (pre.map (Value.int .i64)) ∧ True) ∧ Below w.heap.size w W)
  (fun _ _ _ => False)
  (OwnFrom.and (Own.from (holdsRow_own w.heap.size w.heap.size 22 3 1 (fun pre : List Int => pre.length) (fun pre => pre.map (Value.int .i64)) (fun _ _ => True)) _) (ownFrom_below (Nat.le_refl _) (by omega)))
  (fun _ _ _ _ _ hs _ _ => hs)
  ⟨⟨_, bN, World.ownsRow_nil _ _ _ _, trivial⟩, hB0⟩
  (fun x => { tmps := #[.slice none 0 0, .func (.func 100) #[] #[.pointer (some ⟨Bt, 0, none⟩), .pointer (some ⟨Bs, 0, none⟩)], .pointer (some ⟨w.heap.size, 0, none⟩), undef, .slice none 0 0, .int .i64 x, .func (.func 100) #[] #[.pointer (some ⟨Bt, 0, none⟩), .pointer (some ⟨Bs, 0, none⟩)], .int .i64 x, undef, undef, undef, undef, undef], defers := [] }) ?assign ?body ?done ?stop
 case assign =>
  intro l x W K hK
  gi_wp2
  exact hK
 case body =>
  rintro l pre x W ⟨⟨v, hv, hrow, _⟩, hB⟩ hlt
  have hc := hv.cell
  gi_wp2_with (gi_at_builtin; refine wpListIn_append_own _ rfl _ _ 22 rfl w.heap.size 3 i0 (.int .i64 0) 1 8 Try.underlying22 hi hz0 hz1 hz2 rfl (by decide) _ _ _ rfl (hrow.alloc _) ⟨W.heap.size, 0, none⟩ 1 1 [.int .i64 x] rfl rfl (cell_one_new _ _ _) (by simp [Value.oneCell']) (by unfold maxLen; omega) (by omega) (by have := hB.size; simp; omega) ?_; intro v' w1 hown' hgrow _; obtain ⟨g', cap', rfl⟩ := ownsRow_succ hown'; obtain ⟨hv1, hv2, hr2, hk2, hb2⟩ := hv.appended (by decide) hrow hB.size (Nat.le_refl _) hown' hgrow; have hc1 := hv1.cell; have hf1 := hv1.frozen)
  exact ⟨hk2.from _, ⟨hb2, hb2.block Bs hBsl⟩, ⟨_, hv2, by simpa using hr2, trivial⟩, hB.trans hb2⟩
 case done =>
  rintro D ys W hD rfl ⟨⟨v, hv, hrow, _⟩, hB⟩ hK
  have hc := hv.cell
  gi_wp2
  refine ⟨by simp, .inl ⟨_, _, rfl, run_takeDeferred hK, ?_⟩⟩
  exact ⟨_, results_tmp rfl _ _ _, v, rfl, ownsRow_putObj hrow _ hK rfl, hB.trans (belowK_b (w := w) (Nat.le_refl _) W D _ _ (by omega) hK rfl rfl)⟩
 case stop =>
  rintro D c pre W _ _ h _
  exact h.elim
set_option maxHeartbeats 1000000 in
theorem collect_in (Bt Bs g : Nat) (ad : Option Addr) (cap : Nat) (s : Int) (zs : List Int) (hreach : zs.length * 8 ≤ 140737488355328) (w : World)
  (hBt : w.cell? ⟨Bt, 0, none⟩ = some (.pointer (some ⟨g, 0, none⟩))) (hBs : w.cell? ⟨Bs, 0, none⟩ = some (.int .i64 s))
  (hg : w.cell? ⟨g, 4, none⟩ = some (.slice ad zs.length cap)) (hz : IntsAt w ad zs) :
  Calls Try.prog 89 #[.func (.func 100) #[] #[.pointer (some ⟨Bt, 0, none⟩), .pointer (some ⟨Bs, 0, none⟩)]] w fun e W' => ∃ v, e = .returned v ∧ W'.ownsRow w.heap.size 3 1 v (atOf zs s).length ((atOf zs s).map (Value.int .i64)) ∧ Below w.heap.size w W' := by
 have H := callsIn_wide.1 (appendSeq_in Bt Bs g ad cap s zs hreach w hBt hBs hg hz)
 go_enter Try.func89, Try.ntmps89
 go_wp2_with fail
 refine H.mono ?_
 rintro e w' ⟨v, rfl, ho, hb⟩
 go_wp2_with fail
 go_ret
 exact ⟨v, rfl, ho, hb⟩
/-- 'load' and 'at' as plain calls. -/
theorem load_calls (g : Nat) (ad : Option Addr) (cap : Nat) (s : Int) (zs : List Int) (hreach : zs.length ≤ 9223372036854775807) (w : World)
  (hg : w.cell? ⟨g, 4, none⟩ = some (.slice ad zs.length cap)) (hz : IntsAt w ad zs) :
  Calls Try.prog 74 #[.pointer (some ⟨g, 0, none⟩), .int .i64 s] w fun e W' => e = .returned (.int .i64 ((atOf zs s).length : Int)) ∧ Below w.heap.size w W' :=
 callsIn_wide.1 (load_in g ad cap s zs hreach w hg hz)
theorem at_calls (g : Option Addr) (s : Int) (w : World) :
  Calls Try.prog 90 #[.pointer g, .int .i64 s] w fun e w' => e = .returned (.func (.func 100) #[] #[.pointer (some ⟨w.heap.size, 0, none⟩), .pointer (some ⟨w.heap.size + 1, 0, none⟩)]) ∧ w' = (w.alloc (.cells #[.pointer g] 68)).alloc (.cells #[.int .i64 s] 3) :=
 callsIn_wide.1 (at_in 1 g s w)
end Go.Proofs.Ytkmmihadcbfkoaa
end

section
namespace Go.Proofs.Ytkmmihadcbfkoaa
open Go.RowKit Go.Proofs.YtkmmihadcbfkoaaW.PrintWords
set_option linter.unusedVariables false
set_option linter.unusedSimpArgs false
theorem cell_of_heap {w : World} {g t j : Nat} {cs : Array Value} {fr : Nat × Nat} {v : Value} (h : w.heap[g]? = some (.cells cs t fr)) (hj : cs[j]? = some v) : w.cell? ⟨g, j, none⟩ = some v := by
 simp [World.cell?, h, hj]
theorem frozen_of_heap {w : World} {g t j : Nat} {cs : Array Value} (h : w.heap[g]? = some (.cells cs t (0, 0))) : w.frozen? ⟨g, j, none⟩ = false := by
 simp [World.frozen?, h]
/-- Block b (element type t) begins with the values xs. -/
def RowAt {α : Type} (w : World) (b t : Nat) (enc : α → Value) (xs : List α) : Prop :=
 ∃ cs, w.heap[b]? = some (.cells cs t (0, 0)) ∧ ∀ (j : Nat) (h : j < xs.length), cs[j]? = some (enc xs[j])
theorem RowAt.lt {α : Type} {w : World} {b t : Nat} {enc : α → Value} {xs : List α} (h : RowAt w b t enc xs) : b < w.heap.size := by
 obtain ⟨cs, h, _⟩ := h
 exact (Array.getElem?_eq_some_iff.1 h).1
theorem RowAt.cell {α : Type} {w : World} {b t : Nat} {enc : α → Value} {xs : List α} (h : RowAt w b t enc xs) (j : Nat) (hj : j < xs.length) : w.cell? ⟨b, j, none⟩ = some (enc xs[j]) := by
 obtain ⟨cs, h, hc⟩ := h
 simp [World.cell?, h, hc j hj]
theorem RowAt.cellD {α : Type} {w : World} {b t : Nat} {enc : α → Value} {xs : List α} (h : RowAt w b t enc xs) (d : α) (i : Int) (h0 : 0 ≤ i) (h1 : i < xs.length) : w.cell? ⟨b, i.toNat, none⟩ = some (enc (xs.getD i.toNat d)) := by
 rw [h.cell i.toNat (by omega)]
 congr 2
 simp [List.getD_eq_getElem?_getD, List.getElem?_eq_getElem (show i.toNat < xs.length by omega)]
theorem RowAt.frozen {α : Type} {w : World} {b t : Nat} {enc : α → Value} {xs : List α} (h : RowAt w b t enc xs) (j : Nat) : w.frozen? ⟨b, j, none⟩ = false := by
 obtain ⟨cs, h, hc⟩ := h
 simp [World.frozen?, h]
theorem RowAt.set {α : Type} {w : World} {b t : Nat} {enc : α → Value} {xs : List α} (h : RowAt w b t enc xs) (i : Nat) (v : α) : RowAt (w.setCell ⟨b, i, none⟩ (enc v)) b t enc (xs.set i v) := by
 obtain ⟨cs, h, hc⟩ := h
 refine ⟨cs.setIfInBounds i (enc v), ?_, fun j hj => ?_⟩
 ·
  simp [World.setCell, Array.getElem?_modify, h]
 have hj' : j < xs.length := by simpa using hj
 rw [Array.getElem?_setIfInBounds, List.getElem_set]
 have hsz : j < cs.size := (Array.getElem?_eq_some_iff.1 (hc j hj')).1
 by_cases e : i = j
 rotate_left
 ·
  simp [e, hc j hj']
 subst e; simp [hsz]
theorem RowAt.same {α : Type} {w w' : World} {b t : Nat} {enc : α → Value} {xs : List α} (h : RowAt w b t enc xs) (e : w'.heap[b]? = w.heap[b]?) : RowAt w' b t enc xs := by
 obtain ⟨cs, h, hc⟩ := h
 exact ⟨cs, e.trans h, hc⟩
theorem RowAt.below {α : Type} {w w' : World} {b t : Nat} {enc : α → Value} {xs : List α} (h : RowAt w b t enc xs) (hb : Below w.heap.size w w') : RowAt w' b t enc xs :=
 h.same (hb.block b h.lt)
theorem below_of_drew {B : Nat} {w w' : World} (h : Below B w.drew w') : Below B w w' := ⟨h.os, h.tape, h.output, h.size, h.block⟩
/-- How many cells a block has. -/
def szOf : Option Obj → Nat
 | some (.cells cs _ _) => cs.size
 | _ => 0
theorem szOf_setCell (w : World) (a : Addr) (v : Value) (k : Nat) : szOf ((w.setCell a v).heap[k]?) = szOf (w.heap[k]?) := by
 simp only [World.setCell, Array.getElem?_modify]
 split
 ·
  cases w.heap[k]? with
  | none => rfl
  | some o =>
   cases o with
   | cells cs e fr =>
    simp only [Option.map_some, szOf]
    split <;> simp
   | _ => rfl
 rfl
/-- Two blocks apart, what lay lies as it lay; these two have as many cells as they had. -/
structure Agree (b1 b2 : Nat) (w w' : World) : Prop where
 os : w'.os = w.os
 tape : w'.tape = w.tape
 output : w'.output = w.output
 size : w.heap.size ≤ w'.heap.size
 block : ∀ k, k < w.heap.size → k ≠ b1 → k ≠ b2 → w'.heap[k]? = w.heap[k]?
 cells : ∀ k, k < w.heap.size → szOf (w'.heap[k]?) = szOf (w.heap[k]?)
theorem Agree.refl (b1 b2 : Nat) (w : World) : Agree b1 b2 w w := ⟨rfl, rfl, rfl, Nat.le_refl _, fun _ _ _ _ => rfl, fun _ _ => rfl⟩
theorem Agree.trans {b1 b2 : Nat} {a b c : World} (h : Agree b1 b2 a b) (k : Agree b1 b2 b c) : Agree b1 b2 a c :=
 ⟨k.os.trans h.os, k.tape.trans h.tape, k.output.trans h.output, Nat.le_trans h.size k.size, fun i hi h1 h2 => (k.block i (Nat.lt_of_lt_of_le hi h.size) h1 h2).trans (h.block i hi h1 h2), fun i hi => (k.cells i (Nat.lt_of_lt_of_le hi h.size)).trans (h.cells i hi)⟩
theorem Agree.of_below {b1 b2 : Nat} {w w' : World} (h : Below w.heap.size w w') : Agree b1 b2 w w' := ⟨h.os, h.tape, h.output, h.size, fun k hk _ _ => h.block k hk, fun k hk => by rw [h.block k hk]⟩
theorem Agree.set1 {b1 b2 : Nat} (w : World) (o : Nat) (v : Value) : Agree b1 b2 w (w.setCell ⟨b1, o, none⟩ v) :=
 ⟨rfl, rfl, rfl, by simp [World.setCell], fun k _ h _ => Below.heap_setCell _ _ _ _ h, fun k _ => szOf_setCell _ _ _ _⟩
theorem Agree.set2 {b1 b2 : Nat} (w : World) (o : Nat) (v : Value) : Agree b1 b2 w (w.setCell ⟨b2, o, none⟩ v) :=
 ⟨rfl, rfl, rfl, by simp [World.setCell], fun k _ _ h => Below.heap_setCell _ _ _ _ h, fun k _ => szOf_setCell _ _ _ _⟩
/-- If both blocks are new, all that lay lies as it lay. -/
theorem Agree.below {b1 b2 B : Nat} {w0 w w' : World} (h0 : Below B w0 w) (hB : B ≤ w.heap.size) (h : Agree b1 b2 w w') (h1 : B ≤ b1) (h2 : B ≤ b2) : Below B w0 w' :=
 h0.trans ⟨h.os, h.tape, h.output, h.size, fun k hk => h.block k (by omega) (by omega) (by omega)⟩
theorem rows_at {w : World} {A : Option Addr} {n : Nat} {xs : List (List Int)} (h : Kd.C (Kd.slice 3 (Kd.int .i64)) w A n xs) (i : Int) (h0 : 0 ≤ i) (h1 : i < n) : ∃ ad A0 c0, A = some ad ∧ w.cell? (ad.add i.toNat) = some (.slice A0 (xs.getD i.toNat []).length c0) ∧ (xs.getD i.toNat []).length ≤ c0 ∧ Kd.C (Kd.int .i64) w A0 (xs.getD i.toNat []).length (xs.getD i.toNat []) := by
 obtain ⟨ad, c, e, _, hK, hc0⟩ := Kd.C_get h ([] : List Int) i h0 h1
 have hc : ∀ j u, c[j]? = some u → w.cell? (ad.add (i.toNat * 1 + j)) = some u := hc0
 obtain ⟨A0, c0, rfl, l0, g0⟩ := hK
 exact ⟨ad, A0, c0, e, by have hq := hc 0 _ rfl; rwa [Nat.mul_one, Nat.add_zero] at hq, l0, g0⟩
/-- The rows of a list of lists, each at an address of its own. -/
def RowsAt (w : World) (A2 : Option Addr) (ra : Nat → Option Addr) (rc : Nat → Nat) (fits : List (List Int)) : Prop :=
 ∀ i, i < fits.length → ∃ a, A2 = some a ∧ w.cell? (a.add i) = some (.slice (ra i) (fits.getD i []).length (rc i)) ∧ Kd.C (Kd.int .i64) w (ra i) (fits.getD i []).length (fits.getD i [])
theorem RowsAt.below {w w' : World} {A2 : Option Addr} {ra : Nat → Option Addr} {rc : Nat → Nat} {fits : List (List Int)} (h : RowsAt w A2 ra rc fits) (hb : Below w.heap.size w w') : RowsAt w' A2 ra rc fits := fun i hi => by
 obtain ⟨a, e, hc, hk⟩ := h i hi
 exact ⟨a, e, pw_cell_below hb hc, Kd.C_below hk hb⟩
theorem RowsAt.of_C {w : World} {A2 : Option Addr} {fits : List (List Int)} (h : Kd.C (Kd.slice 3 (Kd.int .i64)) w A2 fits.length fits) : ∃ ra rc, RowsAt w A2 ra rc fits := by
 have hx : ∀ i : Nat, ∃ p : Option Addr × Nat, i < fits.length → ∃ a, A2 = some a ∧ w.cell? (a.add i) = some (.slice p.1 (fits.getD i []).length p.2) ∧ Kd.C (Kd.int .i64) w p.1 (fits.getD i []).length (fits.getD i []) := fun i => by
  by_cases hi : i < fits.length
  ·
   obtain ⟨a, A0, c0, e, hc, _, hk⟩ := rows_at h (i : Int) (by omega) (by omega)
   exact ⟨(A0, c0), fun _ => ⟨a, e, by simpa using hc, by simpa using hk⟩⟩
  ·
   exact ⟨(none, 0), fun h => absurd h hi⟩
 exact ⟨fun i => (Classical.choose (hx i)).1, fun i => (Classical.choose (hx i)).2, fun i hi => Classical.choose_spec (hx i) hi⟩
/-- Where the parts of a search lie: the trial g; the boxes of t, seen and seek; the rows seen and has; the slices fits and room. -/
structure Lay where
 g : Nat
 Bt : Nat
 Bn : Nat
 Bk : Nat
 bs : Nat
 bh : Nat
 ns : Nat
 nh : Nat
 A2 : Option Addr
 c2 : Nat
 Ar : Option Addr
 cr : Nat
 ch : Nat
 ra : Nat → Option Addr
 rc : Nat → Nat
/-- What stands still in a search. -/
structure Still (c : Lay) (fits : List (List Int)) (room : List Int) (w : World) : Prop where
 t : w.cell? ⟨c.Bt, 0, none⟩ = some (.pointer (some ⟨c.g, 0, none⟩))
 n : w.cell? ⟨c.Bn, 0, none⟩ = some (.slice (some ⟨c.bs, 0, none⟩) c.ns c.ns)
 k : w.cell? ⟨c.Bk, 0, none⟩ = some (.func (.func 96) #[] #[.pointer (some ⟨c.Bt, 0, none⟩), .pointer (some ⟨c.Bn, 0, none⟩), .pointer (some ⟨c.Bk, 0, none⟩)])
 f2 : w.cell? ⟨c.g, 2, none⟩ = some (.slice c.A2 fits.length c.c2)
 f3 : w.cell? ⟨c.g, 3, none⟩ = some (.slice c.Ar room.length c.cr)
 f4 : w.cell? ⟨c.g, 4, none⟩ = some (.slice (some ⟨c.bh, 0, none⟩) c.nh c.ch)
 fits : RowsAt w c.A2 c.ra c.rc fits
 room : Kd.C (Kd.int .i64) w c.Ar room.length room
/-- .. however the rows seen and has turn. -/
def Stands (c : Lay) (fits : List (List Int)) (room : List Int) (w : World) : Prop := ∀ w', Agree c.bs c.bh w w' → Still c fits room w'
theorem Stands.still {c : Lay} {fits : List (List Int)} {room : List Int} {w : World} (h : Stands c fits room w) : Still c fits room w := h w (Agree.refl _ _ _)
theorem Stands.later {c : Lay} {fits : List (List Int)} {room : List Int} {w w' : World} (h : Stands c fits room w) (a : Agree c.bs c.bh w w') : Stands c fits room w' := fun w2 k => h w2 (a.trans k)
/-- What turns in a search. -/
structure Turns (c : Lay) (w : World) (seen : List Bool) (has : List Int) : Prop where
 rs : RowAt w c.bs 4 Value.bool seen
 rh : RowAt w c.bh 3 (Value.int .i64) has
 ls : seen.length = c.ns
 lh : has.length = c.nh
theorem Turns.below {c : Lay} {w w' : World} {seen : List Bool} {has : List Int} (h : Turns c w seen has) (hb : Below w.heap.size w w') : Turns c w' seen has := ⟨h.rs.below hb, h.rh.below hb, h.ls, h.lh⟩
theorem Turns.ne {c : Lay} {w : World} {seen : List Bool} {has : List Int} (h : Turns c w seen has) : c.bs ≠ c.bh := by
 obtain ⟨⟨cs, h1, _⟩, ⟨ct, h2, _⟩, _, _⟩ := h
 intro e
 rw [e, h2] at h1
 injection h1 with h1
 injection h1 with _ h1
 exact absurd h1 (by decide)
theorem Turns.setSeen {c : Lay} {w : World} {seen : List Bool} {has : List Int} (h : Turns c w seen has) (i : Nat) (v : Bool) : Turns c (w.setCell ⟨c.bs, i, none⟩ (.bool v)) (seen.set i v) has :=
 ⟨h.rs.set i v, h.rh.same (Below.heap_setCell _ _ _ _ h.ne.symm), by simp [h.ls], h.lh⟩
theorem Turns.setHas {c : Lay} {w : World} {seen : List Bool} {has : List Int} (h : Turns c w seen has) (i : Nat) (v : Int) : Turns c (w.setCell ⟨c.bh, i, none⟩ (.int .i64 v)) seen (has.set i v) :=
 ⟨h.rs.same (Below.heap_setCell _ _ _ _ h.ne), h.rh.set i v, h.ls, by simp [h.lh]⟩
theorem RowAt.ints {w : World} {b : Nat} {xs : List Int} (h : RowAt w b 3 (Value.int .i64) xs) : IntsAt w (some ⟨b, 0, none⟩) xs := fun j hj => by
 refine ⟨⟨b, 0, none⟩, rfl, h.lt, ?_⟩
 rw [add_plain, h.cell j hj]
 simp [List.getElem?_eq_getElem hj]
end Go.Proofs.Ytkmmihadcbfkoaa
end

section
namespace Go.Proofs.Ytkmmihadcbfkoaa
open Go.RowKit Go.Proofs.YtkmmihadcbfkoaaW.PrintWords PM
set_option linter.unusedVariables false
set_option linter.unusedSimpArgs false
theorem in_calls (n a b : Int) (w : World) : Calls Try.prog 82 #[.int .i64 n, .int .i64 a, .int .i64 b] w fun e w' => e = .returned (.bool (inB n a b)) ∧ Drawn0 w w' :=
 match_in.calls n a b (inB n a b) w (by
  unfold match_in.f inB
  by_cases h : n ≥ a
  ·
   rw [if_pos h]; simp [show a ≤ n from h]
  ·
   rw [if_neg h]; simp [show ¬ a ≤ n from h])
theorem wrap_pm {i : Int} (h0 : 0 ≤ i) (h1 : i ≤ 9223372036854775806) : wrap64 (i + 1) = i + 1 ∧ wrap64 (i - 1) = i - 1 := by
 unfold wrap64
 omega
theorem rising_loop (l : List Int) (a b : Int) (hl : l.length ≤ 9223372036854775807) (d : Nat) : ∀ (k i : Nat), l.length - i = d → i ≤ l.length → d < k →
  match_rising.l0 k l a b l (l.length : Int) (i : Int) = some (((List.range l.length).drop i).all (risAt l a b)) := by
 induction d with
 | zero =>
  intro k i hd hi hk
  obtain ⟨k, rfl⟩ : ∃ m, k = m + 1 := ⟨k - 1, by omega⟩
  simp only [match_rising.l0]
  rw [if_neg (by omega), List.drop_of_length_le (by simp; omega)]
  rfl
 | succ d ih =>
  intro k i hd hi hk
  obtain ⟨k, rfl⟩ : ∃ m, k = m + 1 := ⟨k - 1, by omega⟩
  have hlt : i < l.length := by omega
  have hw := wrap_pm (i := (i : Int)) (by omega) (by omega)
  simp only [match_rising.l0]
  rw [if_pos (by omega), if_pos (by omega), if_pos (by omega), all_range_step hlt]
  have e1 : rd l (i : Int) = l.getD i 0 := by simp [rd]
  rw [e1]
  have e2 : match_in.f (l.getD i 0) a b = some (inB (l.getD i 0) a b) := by
   unfold match_in.f inB
   by_cases h : l.getD i 0 ≥ a
   ·
    rw [if_pos h]; simp only [decide_eq_true (show a ≤ l.getD i 0 from h), Bool.true_and]
   ·
    rw [if_neg h]; simp only [decide_eq_false (show ¬ a ≤ l.getD i 0 from h), Bool.false_and]
  rw [e2, Option.bind_some]
  have ih' := ih k (i + 1) (by omega) (by omega) (by omega)
  rw [show (((i + 1 : Nat)) : Int) = (i : Int) + 1 from by omega] at ih'
  unfold risAt at ih' ⊢
  cases inB (l.getD i 0) a b with
  | false => simp
  | true =>
   rw [if_pos rfl]
   by_cases hz : i = 0
   ·
    subst hz
    rw [if_neg (by omega), hw.1]
    simpa using ih'
   rw [if_pos (by omega), hw.2, if_pos (by omega), if_pos (by omega), hw.1]
   have e3 : rd l ((i : Int) - 1) = l.getD (i - 1) 0 := by
    unfold rd
    congr 1
    omega
   rw [e3]
   by_cases hge : l.getD (i - 1) 0 ≥ l.getD i 0
   rotate_left
   ·
    rw [if_neg hge, ih']
    have : l.getD (i - 1) 0 < l.getD i 0 := by omega
    simp only [decide_eq_true this, Bool.or_true, Bool.true_and]
   rw [if_pos hge]
   simp only [decide_eq_false hz, decide_eq_false (show ¬ l.getD (i - 1) 0 < l.getD i 0 from by omega), Bool.or_false, Bool.and_false, Bool.false_and]
theorem rising_f (l : List Int) (a b : Int) (hl : l.length ≤ 9223372036854775807) : match_rising.f (l.length + 1) l a b = some (risB l a b) := by
 have h := rising_loop l a b hl l.length (l.length + 1) 0 (by omega) (by omega) (by omega)
 unfold match_rising.f risB
 simpa using h
theorem rising_calls (A : Option Addr) (c : Nat) (l : List Int) (a b : Int) (w : World) (hr : Kd.C (Kd.int .i64) w A l.length l) (hc : l.length ≤ c) (hl : l.length ≤ 9223372036854775807) :
  Calls Try.prog 68 #[.slice A l.length c, .int .i64 a, .int .i64 b] w fun e w' => e = .returned (.bool (risB l a b)) ∧ Drawn0 w w' :=
 match_rising.calls (l.length + 1) A c l a b _ w hr hc (rising_f l a b hl)
/-- The closure asks whether a row is not rising. -/
theorem notris_calls (A : Option Addr) (c : Nat) (l : List Int) (B : Nat) (A1 : Option Addr) (n1 c1 : Nat) (w : World) (hb : w.cell? ⟨B, 1, none⟩ = some (.slice A1 n1 c1)) (hn : n1 ≤ 200) (hr : Kd.C (Kd.int .i64) w A l.length l) (hc : l.length ≤ c) (hl : l.length ≤ 9223372036854775807) :
  Calls Try.prog 84 #[.slice A l.length c, .pointer (some ⟨B, 0, none⟩)] w fun e w' => e = .returned (.bool (!risB l 0 ((n1 : Int) - 1))) ∧ Drawn0 w w' := by
 have RC := rising_calls A c l 0 ((n1 : Int) - 1) w hr hc hl
 go_enter Try.func84, Try.ntmps84
 go_wp2_with fail
 refine RC.mono ?_
 clear RC
 rintro e w' ⟨rfl, hd⟩
 go_wp2_with fail
 go_ret
 exact ⟨rfl, hd⟩
def IdxPost (p : List Int → Bool) (T : List (List Int)) (w : World) (e : Ending) (w' : World) : Prop := ∃ r : Int, e = .returned (.int .i64 r) ∧ decide (0 ≤ r) = !(T.all p) ∧ Drawn0 w w'
theorem Drawn0.trans' {a b c : World} (h : Drawn0 a b) (k : Drawn0 b c) : Drawn0 a c := by
 obtain ⟨n, rfl⟩ := h
 obtain ⟨m, rfl⟩ := k
 exact ⟨⟨n + m, World.drewN_drewN ..⟩⟩
set_option maxRecDepth 100000 in
set_option maxHeartbeats 2000000 in
theorem idxfunc_calls (A2 : Option Addr) (c2 : Nat) (T : List (List Int)) (B : Nat) (A1 : Option Addr) (n1 c1 : Nat) (w : World) (hb : w.cell? ⟨B, 1, none⟩ = some (.slice A1 n1 c1)) (hn : n1 ≤ 200) (hr : Kd.C (Kd.slice 3 (Kd.int .i64)) w A2 T.length T) (hl : T.length ≤ 1000000) :
  Calls Try.prog 93 #[.slice A2 T.length c2, .func (.func 84) #[] #[.pointer (some ⟨B, 0, none⟩)]] w (IdxPost (fun l => risB l 0 ((n1 : Int) - 1)) T w) := by
 have HR := Go.Lib.hid hr
 have HB := Go.Lib.hid hb
 clear hr hb
 go_enter Try.func93, Try.ntmps93
 go_wp2_with fail
 go_loopw [8] (fun i wr => ∃ k : Nat, k ≤ T.length ∧ i = .int .i64 k ∧ Hid ((T.take k).all (fun l => risB l 0 ((n1 : Int) - 1)) = true ∧ Drawn0 w wr)) (fun i _ => T.length - (intOf i).toNat)
 case atStart => exact ⟨0, Nat.zero_le _, rfl, rfl, Drawn0.refl _⟩
 obtain ⟨k, hk, rfl, HID⟩ := hrel
 obtain ⟨hall, hd⟩ := HID.out
 by_cases hlt : k < T.length
 rotate_left
 ·
  obtain rfl : k = T.length := by omega
  rw [List.take_length] at hall
  have HAL := Go.Lib.hid hall
  have HD := Go.Lib.hid hd
  clear hall hd HID
  go_wp2_with fail
  go_ret
  exact ⟨-1, rfl, by rw [HAL.out]; rfl, HD.out⟩
 have hbl := hd.below
 obtain ⟨a, A, c, e2, hx, hlc, hC⟩ := rows_at (Kd.C_below HR.out hbl) (k : Int) (by omega) (by omega)
 rw [Int.toNat_natCast] at hx hlc hC
 have hcap : (T.getD k []).length ≤ 9223372036854775807 := hC.2.1
 obtain ⟨row, hrw⟩ : ∃ row, T.getD k [] = row := ⟨_, rfl⟩
 rw [hrw] at hx hlc hC hcap
 have NR := notris_calls A c row B A1 n1 c1 wr ((hbl.cell (World.block_lt_of_cell? w _ HB.out)).trans HB.out) hn hC hlc hcap
 have htk : T.take (k + 1) = T.take k ++ [row] := by
  rw [List.take_succ_eq_append_getElem hlt, ← hrw]
  simp [List.getD_eq_getElem?_getD, List.getElem?_eq_getElem hlt]
 have HTK := Go.Lib.hid htk
 have HRW := Go.Lib.hid hrw
 have HAL := Go.Lib.hid hall
 have HD := Go.Lib.hid hd
 have e2' := e2
 clear htk hrw hall hd hbl hC HID
 subst e2'
 go_wp2_with fail
 refine NR.mono ?_
 clear NR
 rintro e w1 ⟨rfl, hd1⟩
 have HD1 := Go.Lib.hid (Drawn0.trans' HD.out hd1)
 clear hd1
 cases hrs : risB row 0 ((n1 : Int) - 1) with
 | true =>
  have HRS := Go.Lib.hid hrs
  rw [Bool.not_true]
  clear hrs
  go_wp2_with fail
  go_roundw
  case rel => exact ⟨k + 1, by omega, by simp, by rw [HTK.out, List.all_append, HAL.out]; simp [HRS.out], HD1.out⟩
  case measure => simp [intOf]; omega
 | false =>
  have HRS := Go.Lib.hid hrs
  rw [Bool.not_false]
  clear hrs
  go_wp2_with fail
  go_ret
  refine ⟨(k : Int), rfl, ?_, HD1.out⟩
  have hf : T.all (fun l => risB l 0 ((n1 : Int) - 1)) = false := by
   rw [List.all_eq_false]
   refine ⟨row, ?_, by rw [HRS.out]; simp⟩
   rw [← HRW.out, List.getD_eq_getElem?_getD, List.getElem?_eq_getElem hlt]
   exact List.getElem_mem hlt
  rw [hf]
  simp
theorem contfunc_calls (A2 : Option Addr) (c2 : Nat) (T : List (List Int)) (B : Nat) (A1 : Option Addr) (n1 c1 : Nat) (w : World) (hb : w.cell? ⟨B, 1, none⟩ = some (.slice A1 n1 c1)) (hn : n1 ≤ 200) (hr : Kd.C (Kd.slice 3 (Kd.int .i64)) w A2 T.length T) (hl : T.length ≤ 1000000) :
  Calls Try.prog 83 #[.slice A2 T.length c2, .func (.func 84) #[] #[.pointer (some ⟨B, 0, none⟩)]] w fun e w' => e = .returned (.bool (!(T.all fun l => risB l 0 ((n1 : Int) - 1)))) ∧ Drawn0 w w' := by
 have IC := idxfunc_calls A2 c2 T B A1 n1 c1 w hb hn hr hl
 go_enter Try.func83, Try.ntmps83
 go_wp2_with fail
 refine IC.mono ?_
 clear IC
 rintro e w' ⟨r, rfl, hr1, hd⟩
 have HR1 := Go.Lib.hid hr1
 clear hr1
 go_wp2_with fail
 go_ret
 exact ⟨by rw [← HR1.out]; rfl, hd⟩
end Go.Proofs.Ytkmmihadcbfkoaa
end

section
namespace Go.Proofs.Ytkmmihadcbfkoaa
open Go.RowKit Go.Proofs.YtkmmihadcbfkoaaW.PrintWords
set_option linter.unusedVariables false
set_option linter.unusedSimpArgs false
/-- What the search comes to, in memory. -/
def SeekPost (c : Lay) (r : SR) (w : World) (e : Ending) (w' : World) : Prop := e = .returned (.bool r.ok) ∧ Agree c.bs c.bh w w' ∧ Turns c w' r.seen r.has
/-- The board is as said, and not too great. -/
structure Fit (c : Lay) (fits : List (List Int)) (room : List Int) : Prop where
 slot : ∀ i : Nat, i < fits.length → ∀ j : Nat, j < (fits.getD i []).length → 0 ≤ (fits.getD i []).getD j 0 ∧ (fits.getD i []).getD j 0 < c.ns
 room : room.length = c.ns
 row : ∀ i : Nat, i < fits.length → (fits.getD i []).length ≤ 1000000
 finds : fits.length = c.nh
 ns : c.ns ≤ 1000000
 nh : c.nh ≤ 1000000
/-- Between two rounds of the loop over the finds that a slot was given to. -/
structure GRel (c : Lay) (fits : List (List Int)) (room : List Int) (rec : Int → List Bool → List Int → SR) (gs : List Int) (f : Int) (m : Nat) (r : SR) (w : World) (j : Nat) (wr : World) : Prop where
 mk :: (out : ∃ sn hs, seekG rec f (gs.drop j) sn hs = r ∧ Stands c fits room wr ∧ Turns c wr sn hs ∧ Agree c.bs c.bh w wr ∧ cnt sn < m)
/-- The row of a list that was collected reads on, whatever the search does. -/
theorem collected_reads {c : Lay} {w3 w4 : World} {v : Value} {gs : List Int} (h1 : c.bs < w3.heap.size) (h2 : c.bh < w3.heap.size) (ho : w4.ownsRow w3.heap.size 3 1 v gs.length (gs.map (Value.int .i64))) :
  ∃ A cc, v = .slice A gs.length cc ∧ ∀ w5, Agree c.bs c.bh w4 w5 → ReadsInt w5 .i64 A gs.length gs := by
 obtain ⟨A, cc, rfl, _⟩ := own_reads (k := .i64) (xs := gs) ho
 refine ⟨A, cc, rfl, fun w5 ag => ?_⟩
 have ho5 := own_move (w1 := w5) ho (fun k hk => ag.block k (own_lt ho k hk) (by have := own_base ho k hk; omega) (by have := own_base ho k hk; omega))
 obtain ⟨A', c', e, hr⟩ := own_reads (k := .i64) (xs := gs) ho5
 injection e with e1 e2 e3
 rw [e1]
 exact hr
/-- Between two rounds of the loop over the slots that a find fits. -/
structure SkRel (c : Lay) (fits : List (List Int)) (room : List Int) (rec : Int → List Bool → List Int → SR) (row : List Int) (f : Int) (m : Nat) (r : SR) (w : World) (k : Nat) (wr : World) : Prop where
 mk :: (out : ∃ sn hs, seekS rec room f (row.drop k) sn hs = r ∧ Stands c fits room wr ∧ Turns c wr sn hs ∧ Agree c.bs c.bh w wr ∧ cnt sn < m + 1)
set_option maxRecDepth 100000 in
set_option maxHeartbeats 4000000 in
theorem seek_calls (c : Lay) (fits : List (List Int)) (room : List Int) (hF : Fit c fits room) (m : Nat) : ∀ (f : Int) (seen : List Bool) (has : List Int) (w : World), cnt seen < m → 0 ≤ f → f < c.nh →
  Stands c fits room w → Turns c w seen has →
  Calls Try.prog 96 #[.int .i64 f, .pointer (some ⟨c.Bt, 0, none⟩), .pointer (some ⟨c.Bn, 0, none⟩), .pointer (some ⟨c.Bk, 0, none⟩)] w (SeekPost c (seekF fits room m f seen has) w) := by
 induction m with
 | zero => intro f seen has w h; omega
 | succ m ih =>
  intro f seen has w hm h0 h1 hS hT
  have hst := hS.still
  have hlf : f < (fits.length : Int) := by rw [hF.finds]; exact h1
  obtain ⟨fn, rfl⟩ := Int.eq_ofNat_of_zero_le h0
  have hfn : fn < fits.length := by omega
  obtain ⟨ad2, eA2, hrc, hrow⟩ := hst.fits fn hfn
  have hslot := hF.slot fn hfn
  have hrl := hF.row fn hfn
  obtain ⟨r, hr⟩ : ∃ r, seekF fits room (m + 1) (fn : Int) seen has = r := ⟨_, rfl⟩
  rw [hr]
  unfold seekF at hr
  rw [Int.toNat_natCast] at hr
  obtain ⟨row, hrw⟩ : ∃ row, fits.getD fn [] = row := ⟨_, rfl⟩
  rw [hrw] at hr hrl hslot hrow hrc
  have HRW := Go.Lib.hid hrw
  clear hrw
  have t1 := hst.t
  have t2 := hst.f2
  rw [eA2] at t2
  have p0 := eq_true h0
  have q0 := eq_true hlf
  have HT := Go.Lib.hid hT
  have HS := Go.Lib.hid hS
  have HR := Go.Lib.hid hrow
  have hcap : row.length ≤ 9223372036854775807 := by omega
  have HF := Go.Lib.hid hF
  have IH := Go.Lib.hid ih
  have HL := Go.Lib.hid hslot
  have HE := Go.Lib.hid hr
  have HST := Go.Lib.hid hst
  clear hst hT hS ih hF hrow hslot hr
  go_enter Try.func96, Try.ntmps96
  go_wp2_with fail
  go_loopw [19] (fun i wr => ∃ k : Nat, k ≤ row.length ∧ i = .int .i64 k ∧ SkRel c fits room (seekF fits room m) row fn m r w k wr) (fun i _ => row.length - (intOf i).toNat)
  case atStart => exact ⟨0, Nat.zero_le _, rfl, ⟨seen, has, HE.out, HS.out, HT.out, Agree.refl _ _ _, hm⟩⟩
  obtain ⟨k, hk, rfl, ⟨sn, hs, hre, hS, hT, hA, hcn⟩⟩ := hrel
  have hst := hS.still
  by_cases hlt : k < row.length
  rotate_left
  ·
   obtain rfl : k = row.length := by omega
   rw [List.drop_length] at hre
   unfold seekS at hre
   have HT5 := Go.Lib.hid hT
   have HA5 := Go.Lib.hid hA
   have HREa := Go.Lib.hid hre
   clear hT hA hre hst hS
   go_wp2_with fail
   go_ret
   have hfin := HREa.out
   subst hfin
   exact ⟨rfl, HA5.out, HT5.out⟩
  obtain ⟨ad2', eA2', hrc', hrow'⟩ := hst.fits fn hfn
  rw [HRW.out] at hrow' hrc'
  obtain ⟨a3, e3, hx3⟩ := Kd.at_int hrow' (k : Int) (by omega) (by omega)
  obtain ⟨s, hs0⟩ : ∃ s, row.getD k 0 = s := ⟨_, rfl⟩
  have hdrop : row.drop k = s :: row.drop (k + 1) := by
   rw [List.drop_eq_getElem_cons hlt, ← hs0]
   simp [List.getD_eq_getElem?_getD, List.getElem?_eq_getElem hlt]
  have hsl := HL.out k hlt
  have e4 : rd row (k : Int) = s := by rw [← hs0]; simp [rd]
  rw [hs0] at hsl
  rw [hdrop] at hre
  rw [e4, Int.toNat_natCast] at hx3
  obtain ⟨hs1, hs2⟩ := hsl
  have b1 := hst.t
  have b2 := hst.n
  have b3 := hT.rs.cellD false s hs1 (by rw [hT.ls]; exact hs2)
  have p1 := eq_true hs1
  have q1 := eq_true hs2
  clear hrc' hrow' hs0 e4 hdrop eA2'
  have HT := Go.Lib.hid hT
  have HS := Go.Lib.hid hS
  have HST := Go.Lib.hid hst
  have HA := Go.Lib.hid hA
  have HRE := Go.Lib.hid hre
  clear hT hS hst hA hre t1 t2 hrc
  rw [e3]
  clear e3
  by_cases hsn : sn.getD s.toNat false = true
  ·
   rw [hsn] at b3
   have HSN := Go.Lib.hid hsn
   clear hsn
   go_wp2_with fail
   go_roundw
   case rel => exact ⟨k + 1, by omega, by simp, ⟨sn, hs, by have h := HRE.out; unfold seekS at h; rw [if_pos HSN.out] at h; exact h, HS.out, HT.out, HA.out, hcn⟩⟩
   case measure => simp [intOf]; omega
  have hsn' : sn.getD s.toNat false = false := by simpa using hsn
  rw [hsn'] at b3
  have HSN := Go.Lib.hid hsn'
  clear hsn hsn'
  have f1 := HT.out.rs.frozen s.toNat
  go_wp2_with fail
  have ag : Agree c.bs c.bh wr (wr.setCell ⟨c.bs, s.toNat, none⟩ (.bool true)) := Agree.set1 _ _ _
  have hT1 := HT.out.setSeen s.toNat true
  generalize wr.setCell ⟨c.bs, s.toNat, none⟩ (.bool true) = w1 at *
  have hS1 := HS.out.later ag
  have hst1 := hS1.still
  have d1 := hst1.t
  have d3 := hst1.f3
  have d4 := hst1.f4
  have hrl2 : s < (room.length : Int) := by rw [HF.out.room]; exact hs2
  obtain ⟨ar, ear, hxr⟩ := Kd.at_int hst1.room s hs1 hrl2
  rw [ear] at d3
  obtain ⟨q, hq⟩ : ∃ q, rd room s = q := ⟨_, rfl⟩
  rw [hq] at hxr
  have q2 := eq_true hrl2
  have hz := hT1.rh.ints
  have hgl := World.block_lt_of_cell? w1 _ d3
  have htl := World.block_lt_of_cell? w1 _ d1
  have harl := World.block_lt_of_cell? w1 _ hxr
  have d4' : w1.cell? ⟨c.g, 4, none⟩ = some (.slice (some ⟨c.bh, 0, none⟩) hs.length c.ch) := by rw [HT.out.lh]; exact d4
  have hlen : hs.length ≤ 9223372036854775807 := by rw [HT.out.lh]; have := HF.out.nh; omega
  have LC := load_calls c.g (some ⟨c.bh, 0, none⟩) c.ch s hs hlen w1.drew d4' hz
  have HZ := Go.Lib.hid hz
  have HD4 := Go.Lib.hid d4'
  have HQ := Go.Lib.hid hq
  have HT1 := Go.Lib.hid hT1
  have HS1 := Go.Lib.hid hS1
  have HAG := Go.Lib.hid ag
  have HSTt := Go.Lib.hid hst1
  have HEAR := Go.Lib.hid ear
  clear hz d4 d4' hq hT1 hS1 ag hst1 b1 b2 b3 hx3 hlen ear hlf q0 f1 eA2
  go_region_held3 (fun w' => w'.cell? ⟨c.Bt, 0, none⟩ = some (.pointer (some ⟨c.g, 0, none⟩)) ∧ w'.cell? ⟨c.g, 3, none⟩ = some (.slice (some ar) room.length c.cr) ∧ w'.cell? (ar.add s.toNat) = some (.int .i64 q))
   (go_keep)
   (first | (go_at_call 74; refine LC.mono ?_; rintro e w' ⟨rfl, hb0⟩; have hb := below_of_drew hb0; clear hb0; have k1 := (hb.cell (p := ⟨c.Bt, 0, none⟩) htl).trans d1; have k2 := (hb.cell (p := ⟨c.g, 3, none⟩) hgl).trans d3; have k3 := (hb.cell (p := ar.add s.toNat) harl).trans hxr))
  have hT2 : Turns c w' (sn.set s.toNat true) hs := HT1.out.below hb
  have hS2 : Stands c fits room w' := HS1.out.later (Agree.of_below hb)
  have hA2 : Agree c.bs c.bh w w' := HA.out.trans (HAG.out.trans (Agree.of_below hb))
  have hcn2 : cnt (sn.set s.toNat true) < m := by
   have := cnt_set (seen := sn) (i := s.toNat) (by rw [HT.out.ls]; omega) HSN.out
   omega
  have hre := HRE.out
  unfold seekS at hre
  rw [if_neg (by rw [HSN.out]; simp)] at hre
  rw [show room.getD s.toNat 0 = q from HQ.out] at hre
  have g4 := hS2.still.f4
  obtain ⟨x5, g5⟩ : ∃ x5, w'.cell? ⟨c.bh, fn, none⟩ = some (.int .i64 x5) := ⟨_, hT2.rh.cell fn (by rw [hT2.lh]; omega)⟩
  have g6 := hT2.rh.frozen fn
  have qn : ((fn : Int) < (c.nh : Int)) = True := eq_true h1
  have HT2 := Go.Lib.hid hT2
  have HS2 := Go.Lib.hid hS2
  have HA2 := Go.Lib.hid hA2
  have HB := Go.Lib.hid hb
  have HCN := Go.Lib.hid hcn2
  clear hT2 hS2 hA2 hb d1 d3 hxr k2 k3 hcn2 LC
  by_cases hld : ((atOf hs s).length : Int) < q
  ·
   rw [if_pos (show ld hs s < q from hld)] at hre
   have HRE := Go.Lib.hid hre
   clear hre
   go_wp2_with fail
   go_ret
   have hfin := HRE.out
   subst hfin
   exact ⟨rfl, HA2.out.trans (Agree.set2 _ _ _), HT2.out.setHas fn s⟩
  rw [if_neg (show ¬ ld hs s < q from hld)] at hre
  have HRE2 := Go.Lib.hid hre
  clear hre
  go_wp2_with fail
  refine (at_calls _ _ _).mono ?_
  rintro e w3 ⟨rfl, rfl⟩
  go_wp2_with fail
  have hB3 : Below w'.heap.size w' ((w'.alloc (.cells #[.pointer (some ⟨c.g, 0, none⟩)] 68)).alloc (.cells #[.int .i64 s] 3)) := ((Below.refl _ w').alloc (Nat.le_refl _) _).alloc (by simp) _
  have bT := ((Boxed.new w' 68 (.pointer (some ⟨c.g, 0, none⟩))).alloc (.cells #[.int .i64 s] 3)).cell
  have bS := (Boxed.new (w'.alloc (.cells #[.pointer (some ⟨c.g, 0, none⟩)] 68)) 3 (.int .i64 s)).cell
  simp only [World.size_alloc] at bS
  have hlen8 : hs.length * 8 ≤ 140737488355328 := by rw [HT.out.lh]; have := HF.out.nh; omega
  have CO := collect_in w'.heap.size (w'.heap.size + 1) c.g (some ⟨c.bh, 0, none⟩) c.ch s hs hlen8 _ bT bS (by rw [HT2.out.lh]; exact ((HS2.out.later (Agree.of_below hB3)).still.f4)) (HT2.out.below hB3).rh.ints
  refine CO.mono ?_
  clear CO
  rintro e w4 ⟨v4, rfl, ho4, hb4⟩
  have hT4 := (HT2.out.below hB3).below hb4
  have hS4 := (HS2.out.later (Agree.of_below hB3)).later (Agree.of_below hb4)
  have hA4 := (HA2.out.trans (Agree.of_below hB3)).trans (Agree.of_below hb4)
  generalize (w'.alloc (.cells #[.pointer (some ⟨c.g, 0, none⟩)] 68)).alloc (.cells #[.int .i64 s] 3) = w3 at *
  have hb3 := (HT2.out.below hB3)
  obtain ⟨gs, hgs⟩ : ∃ gs, atOf hs s = gs := ⟨_, rfl⟩
  have hgm : ∀ j : Nat, j < gs.length → 0 ≤ gs.getD j 0 ∧ gs.getD j 0 < (c.nh : Int) := fun j hj => by
   have hm2 : gs.getD j 0 ∈ atOf hs s := by
    rw [hgs, List.getD_eq_getElem?_getD, List.getElem?_eq_getElem hj]
    exact List.getElem_mem hj
   have := mem_atOf.1 hm2
   rw [HT.out.lh] at this
   exact ⟨this.1, this.2.1⟩
  have hgl : gs.length ≤ 1000000 := by
   have := atTo_length hs s hs.length
   rw [show atTo hs s hs.length = gs from hgs, HT.out.lh] at this
   have := HF.out.nh
   omega
  have hre := HRE2.out
  rw [hgs] at ho4 hre
  obtain ⟨A4, c4, rfl, hR4⟩ := collected_reads (c := c) (Nat.lt_of_lt_of_le HT2.out.rs.lt hB3.size) (Nat.lt_of_lt_of_le HT2.out.rh.lt hB3.size) ho4
  obtain ⟨r2, hr2⟩ : ∃ r2, seekG (seekF fits room m) (fn : Int) gs (sn.set s.toNat true) hs = r2 := ⟨_, rfl⟩
  rw [hr2] at hre
  have HRE := Go.Lib.hid hre
  have HR2 := Go.Lib.hid hr2
  have HGM := Go.Lib.hid hgm
  have HGS := Go.Lib.hid hgs
  have HT4 := Go.Lib.hid hT4
  have HS4 := Go.Lib.hid hS4
  have HA4 := Go.Lib.hid hA4
  have HR4 := Go.Lib.hid hR4
  clear hre hr2 hgm hgs hT4 hS4 hA4 hR4 ho4 hb4 hb3 bT bS hlen8 k1 g4 g5 g6
  have gcap : gs.length ≤ 9223372036854775807 := by omega
  go_wp2_with fail
  go_loopw [53] (fun i wx => ∃ j : Nat, j ≤ gs.length ∧ i = .int .i64 j ∧ GRel c fits room (seekF fits room m) gs fn m r2 w4 j wx) (fun i _ => gs.length - (intOf i).toNat)
  case atStart => exact ⟨0, Nat.zero_le _, rfl, ⟨_, _, HR2.out, HS4.out, HT4.out, Agree.refl _ _ _, HCN.out⟩⟩
  obtain ⟨j, hj, rfl, ⟨sn2, hs2', hre2, hS5, hT5, hA5, hcn5⟩⟩ := hrel
  by_cases hlt2 : j < gs.length
  rotate_left
  ·
   obtain rfl : j = gs.length := by omega
   have hre := hre2
   rw [List.drop_length] at hre
   unfold seekG at hre
   have HT5 := Go.Lib.hid hT5
   have HS5 := Go.Lib.hid hS5
   have HA5 := Go.Lib.hid hA5
   have HREa := Go.Lib.hid hre
   clear hT5 hS5 hA5 hre hre2
   go_wp2_with fail
   go_roundw
   case rel =>
    have hfin := HRE.out
    rw [← HREa.out, if_neg (by simp)] at hfin
    exact ⟨k + 1, by omega, by simp, ⟨sn2, hs2', hfin, HS5.out, HT5.out, HA4.out.trans HA5.out, by omega⟩⟩
   case measure => simp [intOf]; omega
  obtain ⟨a6, e6, hx6⟩ := (HR4.out _ hA5).at_ (j : Int) (by omega) (by omega)
  obtain ⟨g, hg0⟩ : ∃ g, gs.getD j 0 = g := ⟨_, rfl⟩
  have hdrop2 : gs.drop j = g :: gs.drop (j + 1) := by
   rw [List.drop_eq_getElem_cons hlt2, ← hg0]
   simp [List.getD_eq_getElem?_getD, List.getElem?_eq_getElem hlt2]
  have hgb := HGM.out j hlt2
  have e7 : rd gs (j : Int) = g := by rw [← hg0]; simp [rd]
  rw [hg0] at hgb
  rw [hdrop2] at hre2
  rw [e7, Int.toNat_natCast] at hx6
  obtain ⟨hgb1, hgb2⟩ := hgb
  have b7 := hS5.still.k
  have HRE5 := Go.Lib.hid hre2
  have HT5 := Go.Lib.hid hT5
  have HS5 := Go.Lib.hid hS5
  have HA5 := Go.Lib.hid hA5
  clear hre2 hT5 hS5 hA5 hg0 e7 hdrop2
  rw [e6]
  clear e6
  by_cases hgf : g = (fn : Int)
  ·
   have hgf1 : (g != (fn : Int)) = false := by simpa using hgf
   have HGF := Go.Lib.hid hgf
   clear hgf
   go_wp2_with fail
   go_roundw
   case rel => exact ⟨j + 1, by omega, by simp, ⟨sn2, hs2', by have h := HRE5.out; unfold seekG at h; rw [if_pos HGF.out] at h; exact h, HS5.out, HT5.out, HA5.out, hcn5⟩⟩
   case measure => simp [intOf]; omega
  have hgf1 : (g != (fn : Int)) = true := by simpa using hgf
  have HGF := Go.Lib.hid hgf
  clear hgf
  have CI := IH.out g sn2 hs2' wr hcn5 hgb1 hgb2 HS5.out HT5.out
  go_wp2_with fail
  refine CI.mono ?_
  clear CI
  obtain ⟨r3, hr3⟩ : ∃ r3, seekF fits room m g sn2 hs2' = r3 := ⟨_, rfl⟩
  have hok3 := seekF_ok fits room m g sn2 hs2'
  rw [hr3] at hok3 ⊢
  have HR3 := Go.Lib.hid hr3
  have HOK3 := Go.Lib.hid hok3
  clear hr3 hok3
  rintro e w6 ⟨rfl, ag6, hT6⟩
  have hS6 := HS5.out.later ag6
  have hA6 := HA5.out.trans ag6
  have hre := HRE5.out
  unfold seekG at hre
  rw [if_neg HGF.out, HR3.out] at hre
  by_cases hok : r3.ok = true
  rotate_left
  ·
   rw [if_neg hok] at hre
   have hok' : r3.ok = false := by simpa using hok
   have hcn6 : cnt r3.seen < m := Nat.lt_of_le_of_lt HOK3.out.2.2 hcn5
   have HT6 := Go.Lib.hid hT6
   have HS6 := Go.Lib.hid hS6
   have HA6 := Go.Lib.hid hA6
   have HREa := Go.Lib.hid hre
   rw [hok']
   clear hT6 hS6 hA6 hre ag6 hok hok' hx6 b7
   go_wp2_with fail
   go_roundw
   case rel => exact ⟨j + 1, by omega, by simp, ⟨r3.seen, r3.has, HREa.out, HS6.out, HT6.out, HA6.out, hcn6⟩⟩
   case measure => simp [intOf]; omega
  rw [if_pos hok] at hre
  have g0 := hS6.still.t
  have g4 := hS6.still.f4
  obtain ⟨x5, g5⟩ : ∃ x5, w6.cell? ⟨c.bh, fn, none⟩ = some (.int .i64 x5) := ⟨_, hT6.rh.cell fn (by rw [hT6.lh]; omega)⟩
  have g6 := hT6.rh.frozen fn
  have HT6 := Go.Lib.hid hT6
  have HS6 := Go.Lib.hid hS6
  have HA6 := Go.Lib.hid hA6
  have HREa := Go.Lib.hid hre
  have HOK := Go.Lib.hid hok
  rw [hok]
  clear hT6 hS6 hA6 hre ag6 hok hx6 b7
  go_wp2_with fail
  go_ret
  have hfin := HRE.out
  rw [← HREa.out, if_pos HOK.out] at hfin
  subst hfin
  exact ⟨rfl, (HA4.out.trans HA6.out).trans (Agree.set2 _ _ _), HT6.out.setHas fn s⟩
end Go.Proofs.Ytkmmihadcbfkoaa
end

section
namespace Go.Proofs
open Go.Shelf
def Try.lays189_ren : Go.Shelf.Ren := ⟨fun | 189 => 97 | 125 => 102 | 257 => 101 | 128 => 112 | 129 => 113 | 294 => 103 | 295 => 104 | 296 => 105 | 297 => 106 | 298 => 107 | 299 => 108 | 216 => 109 | 300 => 110 | 301 => 111 | 328 => 114 | 329 => 115 | 330 => 116 | 331 => 117 | 332 => 118 | 215 => 119 | 343 => 120 | n => n, fun | 28 => 22 | 3 => 3 | 46 => 101 | 0 => 0 | 51 => 112 | 53 => 115 | 4 => 4 | 183 => 125 | 182 => 124 | 131 => 129 | 5 => 5 | 9 => 9 | 218 => 133 | 222 => 137 | 228 => 139 | 229 => 43 | n => n, fun | n => n⟩
theorem Try.lays189 : Go.Proofs.Lays.n189 Try.prog Try.lays189_ren := {
 mixed := by kernel_rfl
 f125 := Try.func102.trans (congrArg some (by kernel_rfl))
 f128 := Try.func112.trans (congrArg some (by kernel_rfl))
 f129 := Try.func113.trans (congrArg some (by kernel_rfl))
 f189 := Try.func97.trans (congrArg some (by kernel_rfl))
 f215 := Try.func119.trans (congrArg some (by kernel_rfl))
 f216 := Try.func109.trans (congrArg some (by kernel_rfl))
 f257 := Try.func101.trans (congrArg some (by kernel_rfl))
 f294 := Try.func103.trans (congrArg some (by kernel_rfl))
 f295 := Try.func104.trans (congrArg some (by kernel_rfl))
 f296 := Try.func105.trans (congrArg some (by kernel_rfl))
 f297 := Try.func106.trans (congrArg some (by kernel_rfl))
 f298 := Try.func107.trans (congrArg some (by kernel_rfl))
 f299 := Try.func108.trans (congrArg some (by kernel_rfl))
 f300 := Try.func110.trans (congrArg some (by kernel_rfl))
 f301 := Try.func111.trans (congrArg some (by kernel_rfl))
 f328 := Try.func114.trans (congrArg some (by kernel_rfl))
 f329 := Try.func115.trans (congrArg some (by kernel_rfl))
 f330 := Try.func116.trans (congrArg some (by kernel_rfl))
 f331 := Try.func117.trans (congrArg some (by kernel_rfl))
 f332 := Try.func118.trans (congrArg some (by kernel_rfl))
 f343 := Try.func120.trans (congrArg some (by kernel_rfl))
 t0 := Try.underlying0
 a0 := Try.isAgg0
 z0 := Try.sizeOf0
 v0 := Try.zeroValue0
 t3 := Try.underlying3
 a3 := Try.isAgg3
 z3 := Try.sizeOf3
 v3 := Try.zeroValue3
 t4 := Try.underlying4
 a4 := Try.isAgg4
 z4 := Try.sizeOf4
 v4 := Try.zeroValue4
 t5 := Try.underlying5
 a5 := Try.isAgg5
 z5 := Try.sizeOf5
 v5 := Try.zeroValue5
 t9 := Try.underlying9
 a9 := Try.isAgg9
 z9 := Try.sizeOf9
 v9 := Try.zeroValue9
 t28 := Try.underlying22
 a28 := Try.isAgg22
 z28 := Try.sizeOf22
 v28 := Try.zeroValue22
 t46 := Try.underlying101
 a46 := Try.isAgg101
 z46 := Try.sizeOf101
 v46 := Try.zeroValue101
 t51 := Try.underlying112
 a51 := Try.isAgg112
 z51 := Try.sizeOf112
 v51 := Try.zeroValue112
 t53 := Try.underlying115
 a53 := Try.isAgg115
 z53 := Try.sizeOf115
 v53 := Try.zeroValue115
 t131 := Try.underlying129
 a131 := Try.isAgg129
 z131 := Try.sizeOf129
 v131 := Try.zeroValue129
 t182 := Try.underlying124
 a182 := Try.isAgg124
 z182 := Try.sizeOf124
 v182 := Try.zeroValue124
 t183 := Try.underlying125
 a183 := Try.isAgg125
 z183 := Try.sizeOf125
 v183 := Try.zeroValue125
 t218 := Try.underlying133
 a218 := Try.isAgg133
 z218 := Try.sizeOf133
 v218 := Try.zeroValue133
 t222 := Try.underlying137
 a222 := Try.isAgg137
 z222 := Try.sizeOf137
 v222 := Try.zeroValue137
 t228 := Try.underlying139
 a228 := Try.isAgg139
 z228 := Try.sizeOf139
 v228 := Try.zeroValue139
 t229 := Try.underlying43
 a229 := Try.isAgg43
 z229 := Try.sizeOf43
 v229 := Try.zeroValue43 }
open Go.Sort Go.RowKit in
theorem Try.slices_Sort_int (blk off cap : Nat) (zs : List Int) (w : World) (hH : Holds (Value.int .i64) w blk off zs.toArray) (hblk : blk < w.heap.size) (hsz : zs.length < 4611686018427387904) :
  Calls Try.prog 97 #[.slice (some ⟨blk, off, none⟩) zs.length cap] w fun e w' =>
   e = .returned (.tuple #[]) ∧ ∃ n os, w' = grow (putRow (Value.int .i64) (Sort.ahead w n) blk off (zs.mergeSort fun x y => decide (x ≤ y)).toArray) os := Any.slices_Sort_int Try.lays189 blk off cap zs w hH hblk hsz
def Try.lays212_ren : Go.Shelf.Ren := ⟨fun | 212 => 85 | 263 => 94 | 264 => 95 | n => n, fun | 46 => 101 | 51 => 112 | 146 => 113 | 53 => 115 | 148 => 116 | n => n, fun | n => n⟩
theorem Try.lays212 : Go.Proofs.Lays.n212 Try.prog Try.lays212_ren := {
 mixed := by kernel_rfl
 f212 := Try.func85.trans (congrArg some (by kernel_rfl))
 f263 := Try.func94.trans (congrArg some (by kernel_rfl))
 f264 := Try.func95.trans (congrArg some (by kernel_rfl))
 t46 := Try.underlying101
 a46 := Try.isAgg101
 z46 := Try.sizeOf101
 v46 := Try.zeroValue101
 t51 := Try.underlying112
 a51 := Try.isAgg112
 z51 := Try.sizeOf112
 v51 := Try.zeroValue112
 t53 := Try.underlying115
 a53 := Try.isAgg115
 z53 := Try.sizeOf115
 v53 := Try.zeroValue115
 t146 := Try.underlying113
 a146 := Try.isAgg113
 z146 := Try.sizeOf113
 v146 := Try.zeroValue113
 t148 := Try.underlying116
 a148 := Try.isAgg116
 z148 := Try.sizeOf116
 v148 := Try.zeroValue116 }
open Go.RowKit Go.Lib in
theorem Try.bits_Mul (x y : Nat) (hx : x < 18446744073709551616) (hy : y < 18446744073709551616) (w : World) :
  Calls Try.prog 85 #[.int .u64 x, .int .u64 y] w fun e w' => e = .returned (.tuple #[.int .u64 ((x * y / 18446744073709551616 : Nat) : Int), .int .u64 ((x * y % 18446744073709551616 : Nat) : Int)]) ∧ w' = w := Any.bits_Mul Try.lays212 x y hx hy w
def Try.laysNm220_ren : Go.Shelf.Ren := ⟨fun | 20 => 98 | n => n, fun | 22 => 22 | 3 => 3 | 4 => 4 | 0 => 0 | n => n, fun | n => n⟩
theorem Try.laysNm220 : Go.Proofs.Lays2.n20 Try.prog Try.laysNm220_ren := {
 mixed := by kernel_rfl
 f20 := Try.func98.trans (congrArg some (by kernel_rfl))
 t0 := Try.underlying0
 a0 := Try.isAgg0
 z0 := Try.sizeOf0
 v0 := Try.zeroValue0
 t3 := Try.underlying3
 a3 := Try.isAgg3
 z3 := Try.sizeOf3
 v3 := Try.zeroValue3
 t4 := Try.underlying4
 a4 := Try.isAgg4
 z4 := Try.sizeOf4
 v4 := Try.zeroValue4
 t22 := Try.underlying22
 a22 := Try.isAgg22
 z22 := Try.sizeOf22
 v22 := Try.zeroValue22
 i3 := by kernel_rfl }
open Go.RowKit Go.Lib Go.Sort in
theorem Try.slices_Compact_int (blk off cap : Nat) (zs : List Int) (w : World) (hH : Holds (Value.int .i64) w blk off zs.toArray) (hsz : zs.length ≤ 9223372036854775807) (hcap : zs.length ≤ cap) :
  Calls Try.prog 98 #[.slice (some ⟨blk, off, none⟩) zs.length cap] w fun e w' => e = .returned (.slice (some ⟨blk, off, none⟩) (Lib.compact zs).length cap) ∧ ∃ q, w' = putRow (Value.int .i64) (Sort.ahead w q) blk off (Lib.compact zs ++ List.replicate (zs.length - (Lib.compact zs).length) 0).toArray := Any.slices_Compact_int Try.laysNm220 blk off cap zs w hH hsz hcap
open Go.RowKit Go.Lib Go.Sort in
theorem Try.slices_Compact_int_empty (a : Option Addr) (cap : Nat) (w : World) :
  Calls Try.prog 98 #[.slice a 0 cap] w fun e w' => e = .returned (.slice a 0 cap) ∧ w' = w := Any.slices_Compact_int_empty Try.laysNm220 a cap w
open Go.RowKit Go.Sort in
theorem Try.slices_Sort_int_none (p : Option Addr) (cap : Nat) (w : World) :
  Calls Try.prog 97 #[.slice p 0 cap] w fun e w' => e = .returned (.tuple #[]) ∧ w' = w := Any.slices_Sort_int_none Try.lays189 p cap w
end Go.Proofs
end
