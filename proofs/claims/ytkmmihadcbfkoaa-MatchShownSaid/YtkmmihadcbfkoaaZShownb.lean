/-
  MatchShown holds: for every board, find, slot and two lists, the law returns true and what it is given reads as it did. (part 2 of 6 of the texts that it stands on)
-/
import Derived.Test.YtkmmihadcbfkoaaProg
import Derived.Below
import Derived.Deep.Draws
import Derived.Deep.AppendLies
import Derived.Maps.AppendAt
import Derived.OwnWalk
import Derived.Laws.BytesArg
import Derived.Laws.MakeOwn
import Derived.Laws.OwnMore
import Derived.Deep.OwnRows
import Derived.Tactics
import Derived.Lib.ConvBytes
import Derived.Laws.Slices
import Derived.WalkKit
import Derived.KernelRfl
import Derived.RowKit3
import Derived.Deep.LoopGhost
import Derived.Deep.QuietTactic
import Derived.BigQuiet
import Derived.WideLaws
import Derived.Deep.DeepCutAuto
import Derived.Deep.CutBlock
import Derived.Deep.RegionHeld3
import Derived.Laws.Rows
import Derived.Lib.AppendStr
import Derived.ArgAppend
import Derived.Laws.IdiomCopy
import Derived.OrdersHeld
import Derived.Laws.BitsLemmas
import Derived.RowKit
import Derived.Lib.SlicesCompact
import Derived.Test.YtkmmihadcbfkoaaZShowna
section
namespace Go.Proofs.Ytkmmihadcbfkoaa.PM
open Go.RowKit Go.Proofs.YtkmmihadcbfkoaaW.PrintWords Go.Proofs.YtkmmihadcbfkoaaW.PrintLast Go.Proofs.YtkmmihadcbfkoaaW.PrintMore
set_option linter.unusedVariables false
set_option linter.unusedSimpArgs false
def errW : Option Int → Value
  | none => .nilIface
  | some c => .iface 0 (.int .i64 c)
theorem errW_none : errW none = .nilIface := rfl
theorem errW_some (c : Int) : errW (some c) = .iface 0 (.int .i64 c) := rfl
theorem info3 : (Try.prog.info? 3).map (fun i => (i.zero, i.size, i.bytes)) = some (some (.int .i64 0), 1, 8) := by kernel_rfl
theorem info4 : (Try.prog.info? 4).map (fun i => (i.zero, i.size, i.bytes)) = some (some (.bool false), 1, 1) := by kernel_rfl
theorem info22 : (Try.prog.info? 22).map (fun i => (i.zero, i.size, i.bytes)) = some (some (.slice none 0 0), 1, 24) := by kernel_rfl
theorem info50 : (Try.prog.info? 50).map (fun i => (i.zero, i.size, i.bytes)) = some (some (.agg #[(.int .i64 0), (.int .i64 0), (.int .i64 0)]), 3, 24) := by kernel_rfl
def rd_L1 (xs : List (List Int)) (i : Int) : (List Int) := xs.getD i.toNat ([] : List Int)
theorem at_L1 {w : World} {A : Option Addr} {n : Nat} {xs : List (List Int)} (h : Kd.C (Kd.slice 3 (Kd.int .i64)) w A n xs) (i : Int) (h0 : 0 ≤ i) (h1 : i < n) : ∃ ad A0 c0, A = some ad ∧ w.cell? (ad.add i.toNat) = some (.slice A0 (rd_L1 xs i).length c0) ∧ (rd_L1 xs i).length ≤ c0 ∧ (Kd.int .i64).C w A0 (rd_L1 xs i).length (rd_L1 xs i) := by
  obtain ⟨ad, c, e, _, hK, hc0⟩ := Kd.C_get h ([] : List Int) i h0 h1
  have hc : ∀ j u, c[j]? = some u → w.cell? (ad.add (i.toNat * 1 + j)) = some u := hc0
  obtain ⟨A0, c0, rfl, l0, g0⟩ := hK
  exact ⟨ad, A0, c0, e, by have hq := hc 0 _ rfl; rwa [Nat.mul_one, Nat.add_zero] at hq, l0, g0⟩
structure S50 where
  f0 : Int
  f1 : Int
  f2 : Int
def z50 : S50 := ⟨(0 : Int), (0 : Int), (0 : Int)⟩
def k50 : Kd S50 := Kd.iso (Kd.pair (Kd.int .i64) (Kd.pair (Kd.int .i64) (Kd.int .i64))) (fun x : S50 => (x.f0, x.f1, x.f2))
theorem k50_open {w : World} {x : S50} {cs : List Value} (h : k50.K w x cs) : cs = [.int .i64 x.f0, .int .i64 x.f1, .int .i64 x.f2] := by
  obtain ⟨_, _, rfl, rfl, ⟨_, _, rfl, rfl, rfl⟩⟩ := h
  exact rfl
theorem k50_mk (w : World) (x : S50)  : k50.K w x [.int .i64 x.f0, .int .i64 x.f1, .int .i64 x.f2] := ⟨[.int .i64 x.f0], [.int .i64 x.f1, .int .i64 x.f2], rfl, rfl, ⟨[.int .i64 x.f1], [.int .i64 x.f2], rfl, rfl, rfl⟩⟩
def rd_T50 (xs : List S50) (i : Int) : S50 := xs.getD i.toNat z50
theorem at_T50 {w : World} {A : Option Addr} {n : Nat} {xs : List S50} (h : Kd.C k50 w A n xs) (i : Int) (h0 : 0 ≤ i) (h1 : i < n) : ∃ ad , A = some ad ∧ w.cell? (ad.add (i.toNat * 3)) = some (.int .i64 (rd_T50 xs i).f0) ∧ w.cell? ⟨(ad.add (i.toNat * 3)).block, (ad.add (i.toNat * 3)).off + 1, none⟩ = some (.int .i64 (rd_T50 xs i).f1) ∧ w.cell? ⟨(ad.add (i.toNat * 3)).block, (ad.add (i.toNat * 3)).off + 2, none⟩ = some (.int .i64 (rd_T50 xs i).f2) := by
  obtain ⟨ad, c, e, _, hK, hc0⟩ := Kd.C_get h z50 i h0 h1
  have hc : ∀ j u, c[j]? = some u → w.cell? (ad.add (i.toNat * 3 + j)) = some u := hc0
  obtain rfl := k50_open hK
  exact ⟨ad, e, hc 0 _ rfl, by rw [← add_field _ _ 1 (by omega)]; exact hc 1 _ rfl, by rw [← add_field _ _ 2 (by omega)]; exact hc 2 _ rfl⟩
theorem eqA50 (d : Nat) (w : World) (x0 y0 : Int) (x1 y1 : Int) (x2 y2 : Int) :
    (Op.equalIn (d + 2) 50 (.agg #[.int .i64 x0, .int .i64 x1, .int .i64 x2]) (.agg #[.int .i64 y0, .int .i64 y1, .int .i64 y2])).run Try.prog w = .ok (x0 == y0 && (x1 == y1 && (x2 == y2))) w := by
  refine eqA_of Try.underlying50 (by kernel_rfl) ?_
  refine eqf_cons (by rfl) (by go_simp; rfl) (by go_simp; rfl) (by go_simp) ?_
  refine eqf_cons (by rfl) (by go_simp; rfl) (by go_simp; rfl) (by go_simp) ?_
  exact eqf_last (by rfl) (by go_simp; rfl) (by go_simp; rfl) (by go_simp)
end Go.Proofs.Ytkmmihadcbfkoaa.PM
end

section
namespace Go.Proofs.Ytkmmihadcbfkoaa.PM
open Go.RowKit Go.Proofs.YtkmmihadcbfkoaaW.PrintWords Go.Proofs.YtkmmihadcbfkoaaW.PrintLast Go.Proofs.YtkmmihadcbfkoaaW.PrintMore
set_option linter.unusedVariables false
set_option linter.unusedSimpArgs false
def laganref04_ascending.l0 : Nat → List Int → Int → Int → Option (Bool)
 | 0, _, _, _ => none
 | k + 1, x0, x1, x5 => if x5 < (x0.length : Int) then (if 0 ≤ x5 then (if (rd x0 x5) < 0 then (some false) else (if (rd x0 x5) ≥ x1 then (some false) else (if x5 > 0 then (if 0 ≤ (wrap64 (x5 - 1)) then (if (wrap64 (x5 - 1)) < (x0.length : Int) then (if (rd x0 x5) ≤ (rd x0 (wrap64 (x5 - 1))) then (some false) else (laganref04_ascending.l0 k x0 x1 (wrap64 (x5 + 1)))) else (none)) else (none)) else (laganref04_ascending.l0 k x0 x1 (wrap64 (x5 + 1)))))) else (none)) else (some true)
def laganref04_ascending.f (k : Nat) (l0 : List Int) (a1 : Int) : Option (Bool) := laganref04_ascending.l0 k l0 a1 0
theorem laganref04_ascending.mono_l : ∀ k, (∀ y0 y1 y2, LeO (laganref04_ascending.l0 k y0 y1 y2) (laganref04_ascending.l0 (k + 1) y0 y1 y2))
 | 0 => fun _ _ _ r h => by simp [laganref04_ascending.l0] at h
 | k + 1 => by
  have ih0 := laganref04_ascending.mono_l k
  ·
   intro y0 y1 y2
   unfold laganref04_ascending.l0
   repeat' first
   | (with_reducible exact ih0 _ _ _)
   | (with_reducible exact LeO.refl _)
   | (with_reducible exact LeO.none _)
   | (with_reducible refine LeO.ite ?_ ?_)
   | (with_reducible refine LeO.bind ?_ (fun _ => ?_))
   | exact ih0 _ _ _
   | exact LeO.none _
   | refine LeO.ite ?_ ?_
   | refine LeO.bind ?_ (fun _ => ?_)
theorem laganref04_ascending.mono : ∀ a0 a1 k, LeO (laganref04_ascending.f k a0 a1) (laganref04_ascending.f (k + 1) a0 a1) := by
 intro a0 a1 k
 have ih0 := laganref04_ascending.mono_l k
 unfold laganref04_ascending.f
 repeat' first
   | (with_reducible exact ih0 _ _ _)
   | (with_reducible exact LeO.refl _)
   | (with_reducible exact LeO.none _)
   | (with_reducible refine LeO.ite ?_ ?_)
   | (with_reducible refine LeO.bind ?_ (fun _ => ?_))
   | exact ih0 _ _ _
   | exact LeO.none _
   | refine LeO.ite ?_ ?_
   | refine LeO.bind ?_ (fun _ => ?_)
set_option maxHeartbeats 8000000 in
set_option maxRecDepth 100000 in
theorem laganref04_ascending.calls (k : Nat) (A0 : Option Addr) (c0 : Nat) (l0 : List Int) (a1 : Int) (r : Bool) (w : World) (hr0 : Kd.C (Kd.int .i64) w A0 l0.length l0) (hc0 : l0.length ≤ c0) (h : laganref04_ascending.f k l0 a1 = some r) :
  Calls Try.prog 62 #[.slice A0 l0.length c0, .int .i64 a1] w fun e w' => e = .returned (.bool r) ∧ Drawn0 w w' := by
 have HR0 := Aside0.mk hr0
 have HC0 := Aside0.mk hc0
 clear hr0 hc0
 have H : (laganref04_ascending.l0 k l0 a1 0) = some r := h
 clear h
 have H' := Aside0.mk H
 clear H
 go_enter Try.func62, Try.ntmps62
 go_wp2
 repeat (go_quiet (fail); try go_wp2)
 go_loopg [5] k (fun kq v5 w' => ∃ (x5_1 : Int), v5 = .int .i64 x5_1 ∧ Aside0 (laganref04_ascending.l0 kq l0 a1 x5_1 = some r) ∧ Aside0 (kq ≤ k) ∧ Drawn0 w w')
 case atStart => exact ⟨(0), (by first | rfl | (simp; done) | (simp [*]; done)), H', ⟨Nat.le_refl _⟩, by repeat (first | exact Drawn0.refl _ | apply Drawn0.step)⟩
 case round =>
  clear H'
  try clear p2
  obtain ⟨x5_1, rfl, HA, HK1, ⟨m1, rfl⟩⟩ := hrel
  cases gk with
  | zero => exact absurd HA.out (by simp [laganref04_ascending.l0])
  | succ k1 =>
   have H := HA.out
   clear HA
   simp only [laganref04_ascending.l0] at H
   by_cases c3 : x5_1 < (l0.length : Int)
   ·
    rw [if_pos c3] at H
    have c3b0 : decide (x5_1 < (l0.length : Int)) = true := decide_eq_true c3
    clear c3
    by_cases c4 : 0 ≤ x5_1
    ·
     rw [if_pos c4] at H
     have c4b0 : decide (0 ≤ x5_1) = true := decide_eq_true c4
     clear c4
     by_cases c5 : (rd l0 x5_1) < 0
     ·
      rw [if_pos c5] at H
      have c5b0 : decide ((rd l0 x5_1) < 0) = true := decide_eq_true c5
      clear c5
      obtain rfl := Option.some.inj H
      have p128 : 0 ≤ (x5_1 : Int) := of_decide_eq_true (by first | (with_reducible assumption) | assumption)
      have q128 : x5_1 < (l0.length : Int) := of_decide_eq_true (by first | (with_reducible assumption) | assumption)
      obtain ⟨ad128, e128, hx128_0⟩ := Kd.at_int HR0.out x5_1 p128 q128
      cases e128
      replace p128 := eq_true p128
      replace q128 := eq_true q128
      go_wp2
      repeat (go_quiet (fail); try go_wp2)
      go_ret
      exact ⟨by first | rfl | (simp; done) | (simp [*]; done), by repeat (first | exact Drawn0.refl _ | apply Drawn0.step)⟩
     ·
      rw [if_neg c5] at H
      have c5b0 : decide ((rd l0 x5_1) < 0) = false := decide_eq_false c5
      clear c5
      by_cases c6 : (rd l0 x5_1) ≥ a1
      ·
       rw [if_pos c6] at H
       have c6b0 : decide (a1 ≤ (rd l0 x5_1)) = true := decide_eq_true c6
       clear c6
       obtain rfl := Option.some.inj H
       have p128 : 0 ≤ (x5_1 : Int) := of_decide_eq_true (by first | (with_reducible assumption) | assumption)
       have q128 : x5_1 < (l0.length : Int) := of_decide_eq_true (by first | (with_reducible assumption) | assumption)
       obtain ⟨ad128, e128, hx128_0⟩ := Kd.at_int HR0.out x5_1 p128 q128
       cases e128
       replace p128 := eq_true p128
       replace q128 := eq_true q128
       have p129 : 0 ≤ (x5_1 : Int) := of_decide_eq_true (by first | (with_reducible assumption) | assumption)
       have q129 : x5_1 < (l0.length : Int) := of_decide_eq_true (by first | (with_reducible assumption) | assumption)
       obtain ⟨ad129, e129, hx129_0⟩ := Kd.at_int HR0.out x5_1 p129 q129
       obtain rfl : ad128 = ad129 := (by injection e129)
       replace p129 := eq_true p129
       replace q129 := eq_true q129
       go_wp2
       repeat (go_quiet (fail); try go_wp2)
       go_ret
       exact ⟨by first | rfl | (simp; done) | (simp [*]; done), by repeat (first | exact Drawn0.refl _ | apply Drawn0.step)⟩
      ·
       rw [if_neg c6] at H
       have c6b0 : decide (a1 ≤ (rd l0 x5_1)) = false := decide_eq_false c6
       clear c6
       by_cases c7 : x5_1 > 0
       ·
        rw [if_pos c7] at H
        have c7b0 : decide (0 < x5_1) = true := decide_eq_true c7
        clear c7
        obtain ⟨ji8, hji8⟩ : ∃ j_ : Int, (wrap64 (x5_1 - 1)) = j_ := ⟨_, rfl⟩
        replace H : (if 0 ≤ (ji8) then (if (ji8) < (l0.length : Int) then (if (rd l0 x5_1) ≤ (rd l0 (ji8)) then (some false) else (laganref04_ascending.l0 k1 l0 a1 (wrap64 (x5_1 + 1)))) else (none)) else (none)) = some r := by first | (rw [hji8] at H; exact H) | (simp only [hji8] at H ⊢; exact H)
        have hji8w : (IntKind.i64.wrap (x5_1 - 1)) = ji8 := (i64_w _).trans hji8
        by_cases c9 : 0 ≤ (ji8)
        ·
         rw [if_pos c9] at H
         have c9b0 : decide (0 ≤ (ji8)) = true := decide_eq_true c9
         clear c9
         by_cases c10 : (ji8) < (l0.length : Int)
         ·
          rw [if_pos c10] at H
          have c10b0 : decide ((ji8) < (l0.length : Int)) = true := decide_eq_true c10
          clear c10
          by_cases c11 : (rd l0 x5_1) ≤ (rd l0 (ji8))
          ·
           rw [if_pos c11] at H
           have c11b0 : decide ((rd l0 x5_1) ≤ (rd l0 (ji8))) = true := decide_eq_true c11
           clear c11
           obtain rfl := Option.some.inj H
           have p128 : 0 ≤ (x5_1 : Int) := of_decide_eq_true (by first | (with_reducible assumption) | assumption)
           have q128 : x5_1 < (l0.length : Int) := of_decide_eq_true (by first | (with_reducible assumption) | assumption)
           obtain ⟨ad128, e128, hx128_0⟩ := Kd.at_int HR0.out x5_1 p128 q128
           cases e128
           replace p128 := eq_true p128
           replace q128 := eq_true q128
           have p129 : 0 ≤ (x5_1 : Int) := of_decide_eq_true (by first | (with_reducible assumption) | assumption)
           have q129 : x5_1 < (l0.length : Int) := of_decide_eq_true (by first | (with_reducible assumption) | assumption)
           obtain ⟨ad129, e129, hx129_0⟩ := Kd.at_int HR0.out x5_1 p129 q129
           obtain rfl : ad128 = ad129 := (by injection e129)
           replace p129 := eq_true p129
           replace q129 := eq_true q129
           have p130 : 0 ≤ (x5_1 : Int) := of_decide_eq_true (by first | (with_reducible assumption) | assumption)
           have q130 : x5_1 < (l0.length : Int) := of_decide_eq_true (by first | (with_reducible assumption) | assumption)
           obtain ⟨ad130, e130, hx130_0⟩ := Kd.at_int HR0.out x5_1 p130 q130
           obtain rfl : ad128 = ad130 := (by injection e130)
           replace p130 := eq_true p130
           replace q130 := eq_true q130
           have p131 : 0 ≤ ((ji8) : Int) := of_decide_eq_true (by first | (with_reducible assumption) | assumption)
           have q131 : (ji8) < (l0.length : Int) := of_decide_eq_true (by first | (with_reducible assumption) | assumption)
           obtain ⟨ad131, e131, hx131_0⟩ := Kd.at_int HR0.out (ji8) p131 q131
           obtain rfl : ad128 = ad131 := (by injection e131)
           replace p131 := eq_true p131
           replace q131 := eq_true q131
           go_wp2
           repeat (go_quiet (fail); try go_wp2)
           go_ret
           exact ⟨by first | rfl | (simp; done) | (simp only [← hji8] <;> (first | rfl | simp)) | (simp [*]; done), by repeat (first | exact Drawn0.refl _ | apply Drawn0.step)⟩
          ·
           rw [if_neg c11] at H
           have c11b0 : decide ((rd l0 x5_1) ≤ (rd l0 (ji8))) = false := decide_eq_false c11
           clear c11
           have H' := Aside0.mk H
           clear H
           have p128 : 0 ≤ (x5_1 : Int) := of_decide_eq_true (by first | (with_reducible assumption) | assumption)
           have q128 : x5_1 < (l0.length : Int) := of_decide_eq_true (by first | (with_reducible assumption) | assumption)
           obtain ⟨ad128, e128, hx128_0⟩ := Kd.at_int HR0.out x5_1 p128 q128
           cases e128
           replace p128 := eq_true p128
           replace q128 := eq_true q128
           have p129 : 0 ≤ (x5_1 : Int) := of_decide_eq_true (by first | (with_reducible assumption) | assumption)
           have q129 : x5_1 < (l0.length : Int) := of_decide_eq_true (by first | (with_reducible assumption) | assumption)
           obtain ⟨ad129, e129, hx129_0⟩ := Kd.at_int HR0.out x5_1 p129 q129
           obtain rfl : ad128 = ad129 := (by injection e129)
           replace p129 := eq_true p129
           replace q129 := eq_true q129
           have p130 : 0 ≤ (x5_1 : Int) := of_decide_eq_true (by first | (with_reducible assumption) | assumption)
           have q130 : x5_1 < (l0.length : Int) := of_decide_eq_true (by first | (with_reducible assumption) | assumption)
           obtain ⟨ad130, e130, hx130_0⟩ := Kd.at_int HR0.out x5_1 p130 q130
           obtain rfl : ad128 = ad130 := (by injection e130)
           replace p130 := eq_true p130
           replace q130 := eq_true q130
           have p131 : 0 ≤ ((ji8) : Int) := of_decide_eq_true (by first | (with_reducible assumption) | assumption)
           have q131 : (ji8) < (l0.length : Int) := of_decide_eq_true (by first | (with_reducible assumption) | assumption)
           obtain ⟨ad131, e131, hx131_0⟩ := Kd.at_int HR0.out (ji8) p131 q131
           obtain rfl : ad128 = ad131 := (by injection e131)
           replace p131 := eq_true p131
           replace q131 := eq_true q131
           go_wp2
           repeat (go_quiet (fail); try go_wp2)
           go_roundg k1
           case measure => have := HK1.out; omega
           case rel => exact ⟨(wrap64 (x5_1 + 1)), (by first | rfl | (simp; done) | (simp [*]; done)), H', ⟨by have := HK1.out; omega⟩, by repeat (first | exact Drawn0.refl _ | apply Drawn0.step)⟩
         ·
          rw [if_neg c10] at H
          exact absurd H (by simp)
        ·
         rw [if_neg c9] at H
         exact absurd H (by simp)
       ·
        rw [if_neg c7] at H
        have c7b0 : decide (0 < x5_1) = false := decide_eq_false c7
        clear c7
        have H' := Aside0.mk H
        clear H
        have p128 : 0 ≤ (x5_1 : Int) := of_decide_eq_true (by first | (with_reducible assumption) | assumption)
        have q128 : x5_1 < (l0.length : Int) := of_decide_eq_true (by first | (with_reducible assumption) | assumption)
        obtain ⟨ad128, e128, hx128_0⟩ := Kd.at_int HR0.out x5_1 p128 q128
        cases e128
        replace p128 := eq_true p128
        replace q128 := eq_true q128
        have p129 : 0 ≤ (x5_1 : Int) := of_decide_eq_true (by first | (with_reducible assumption) | assumption)
        have q129 : x5_1 < (l0.length : Int) := of_decide_eq_true (by first | (with_reducible assumption) | assumption)
        obtain ⟨ad129, e129, hx129_0⟩ := Kd.at_int HR0.out x5_1 p129 q129
        obtain rfl : ad128 = ad129 := (by injection e129)
        replace p129 := eq_true p129
        replace q129 := eq_true q129
        go_wp2
        repeat (go_quiet (fail); try go_wp2)
        go_roundg k1
        case measure => have := HK1.out; omega
        case rel => exact ⟨(wrap64 (x5_1 + 1)), (by first | rfl | (simp; done) | (simp [*]; done)), H', ⟨by have := HK1.out; omega⟩, by repeat (first | exact Drawn0.refl _ | apply Drawn0.step)⟩
    ·
     rw [if_neg c4] at H
     exact absurd H (by simp)
   ·
    rw [if_neg c3] at H
    have c3b0 : decide (x5_1 < (l0.length : Int)) = false := decide_eq_false c3
    clear c3
    obtain rfl := Option.some.inj H
    go_wp2
    repeat (go_quiet (fail); try go_wp2)
    go_ret
    exact ⟨by first | rfl | (simp; done) | (simp [*]; done), by repeat (first | exact Drawn0.refl _ | apply Drawn0.step)⟩
def laganref04_SameInts.l0 : Nat → List Int → List Int → Int → Option (Bool)
 | 0, _, _, _ => none
 | k + 1, x0, x1, x5 => if x5 < (x0.length : Int) then (if 0 ≤ x5 then (if x5 < (x1.length : Int) then (if (rd x0 x5) = (rd x1 x5) then (laganref04_SameInts.l0 k x0 x1 (wrap64 (x5 + 1))) else (some false)) else (none)) else (none)) else (some true)
def laganref04_SameInts.f (k : Nat) (l0 : List Int) (l1 : List Int) : Option (Bool) := if (l0.length : Int) = (l1.length : Int) then (laganref04_SameInts.l0 k l0 l1 0) else (some false)
theorem laganref04_SameInts.mono_l : ∀ k, (∀ y0 y1 y2, LeO (laganref04_SameInts.l0 k y0 y1 y2) (laganref04_SameInts.l0 (k + 1) y0 y1 y2))
 | 0 => fun _ _ _ r h => by simp [laganref04_SameInts.l0] at h
 | k + 1 => by
  have ih0 := laganref04_SameInts.mono_l k
  ·
   intro y0 y1 y2
   unfold laganref04_SameInts.l0
   repeat' first
   | (with_reducible exact ih0 _ _ _)
   | (with_reducible exact LeO.refl _)
   | (with_reducible exact LeO.none _)
   | (with_reducible refine LeO.ite ?_ ?_)
   | (with_reducible refine LeO.bind ?_ (fun _ => ?_))
   | exact ih0 _ _ _
   | exact LeO.none _
   | refine LeO.ite ?_ ?_
   | refine LeO.bind ?_ (fun _ => ?_)
theorem laganref04_SameInts.mono : ∀ a0 a1 k, LeO (laganref04_SameInts.f k a0 a1) (laganref04_SameInts.f (k + 1) a0 a1) := by
 intro a0 a1 k
 have ih0 := laganref04_SameInts.mono_l k
 unfold laganref04_SameInts.f
 repeat' first
   | (with_reducible exact ih0 _ _ _)
   | (with_reducible exact LeO.refl _)
   | (with_reducible exact LeO.none _)
   | (with_reducible refine LeO.ite ?_ ?_)
   | (with_reducible refine LeO.bind ?_ (fun _ => ?_))
   | exact ih0 _ _ _
   | exact LeO.none _
   | refine LeO.ite ?_ ?_
   | refine LeO.bind ?_ (fun _ => ?_)
set_option maxHeartbeats 8000000 in
set_option maxRecDepth 100000 in
theorem laganref04_SameInts.calls (k : Nat) (A0 : Option Addr) (c0 : Nat) (l0 : List Int) (A1 : Option Addr) (c1 : Nat) (l1 : List Int) (r : Bool) (w : World) (hr0 : Kd.C (Kd.int .i64) w A0 l0.length l0) (hc0 : l0.length ≤ c0) (hr1 : Kd.C (Kd.int .i64) w A1 l1.length l1) (hc1 : l1.length ≤ c1) (h : laganref04_SameInts.f k l0 l1 = some r) :
  Calls Try.prog 22 #[.slice A0 l0.length c0, .slice A1 l1.length c1] w fun e w' => e = .returned (.bool r) ∧ Drawn0 w w' := by
 have HR0 := Aside0.mk hr0
 have HC0 := Aside0.mk hc0
 clear hr0 hc0
 have HR1 := Aside0.mk hr1
 have HC1 := Aside0.mk hc1
 clear hr1 hc1
 have H : (if (l0.length : Int) = (l1.length : Int) then (laganref04_SameInts.l0 k l0 l1 0) else (some false)) = some r := h
 clear h
 by_cases c3 : (l0.length : Int) = (l1.length : Int)
 ·
  rw [if_pos c3] at H
  have c3b0 : ((l0.length : Int) == (l1.length : Int)) = true := beq_iff_eq.mpr c3
  have c3b1 : ((l0.length : Int) != (l1.length : Int)) = false := bne_eq_false_iff_eq.mpr c3
  have c3b2 : (l0.length == l1.length) = true := by first | simpa using c3 | (simp at c3 ⊢; omega)
  clear c3
  have H' := Aside0.mk H
  clear H
  go_enter Try.func22, Try.ntmps22
  go_wp2
  repeat (go_quiet (fail); try go_wp2)
  go_loopg [5] k (fun kq v5 w' => ∃ (x5_1 : Int), v5 = .int .i64 x5_1 ∧ Aside0 (laganref04_SameInts.l0 kq l0 l1 x5_1 = some r) ∧ Aside0 (kq ≤ k) ∧ Drawn0 w w')
  case atStart => exact ⟨(0), (by first | rfl | (simp; done) | (simp [*]; done)), H', ⟨Nat.le_refl _⟩, by repeat (first | exact Drawn0.refl _ | apply Drawn0.step)⟩
  case round =>
   clear H'
   try clear c1
   try clear c2
   try clear p2
   try clear c3
   try clear c3b0
   try clear c3b1
   try clear c3b2
   obtain ⟨x5_1, rfl, HA, HK1, ⟨m1, rfl⟩⟩ := hrel
   cases gk with
   | zero => exact absurd HA.out (by simp [laganref04_SameInts.l0])
   | succ k1 =>
    have H := HA.out
    clear HA
    simp only [laganref04_SameInts.l0] at H
    by_cases c4 : x5_1 < (l0.length : Int)
    ·
     rw [if_pos c4] at H
     have c4b0 : decide (x5_1 < (l0.length : Int)) = true := decide_eq_true c4
     clear c4
     by_cases c5 : 0 ≤ x5_1
     ·
      rw [if_pos c5] at H
      have c5b0 : decide (0 ≤ x5_1) = true := decide_eq_true c5
      clear c5
      by_cases c6 : x5_1 < (l1.length : Int)
      ·
       rw [if_pos c6] at H
       have c6b0 : decide (x5_1 < (l1.length : Int)) = true := decide_eq_true c6
       clear c6
       by_cases c7 : (rd l0 x5_1) = (rd l1 x5_1)
       ·
        rw [if_pos c7] at H
        have c7b0 : ((rd l0 x5_1) == (rd l1 x5_1)) = true := beq_iff_eq.mpr c7
        have c7b1 : ((rd l0 x5_1) != (rd l1 x5_1)) = false := bne_eq_false_iff_eq.mpr c7
        clear c7
        have H' := Aside0.mk H
        clear H
        have p219 : 0 ≤ (x5_1 : Int) := of_decide_eq_true (by first | (with_reducible assumption) | assumption)
        have q219 : x5_1 < (l0.length : Int) := of_decide_eq_true (by first | (with_reducible assumption) | assumption)
        obtain ⟨ad219, e219, hx219_0⟩ := Kd.at_int HR0.out x5_1 p219 q219
        cases e219
        replace p219 := eq_true p219
        replace q219 := eq_true q219
        have p220 : 0 ≤ (x5_1 : Int) := of_decide_eq_true (by first | (with_reducible assumption) | assumption)
        have q220 : x5_1 < (l1.length : Int) := of_decide_eq_true (by first | (with_reducible assumption) | assumption)
        obtain ⟨ad220, e220, hx220_0⟩ := Kd.at_int HR1.out x5_1 p220 q220
        cases e220
        replace p220 := eq_true p220
        replace q220 := eq_true q220
        go_wp2
        repeat (go_quiet (fail); try go_wp2)
        go_roundg k1
        case measure => have := HK1.out; omega
        case rel => exact ⟨(wrap64 (x5_1 + 1)), (by first | rfl | (simp; done) | (simp [*]; done)), H', ⟨by have := HK1.out; omega⟩, by repeat (first | exact Drawn0.refl _ | apply Drawn0.step)⟩
       ·
        rw [if_neg c7] at H
        have c7b0 : ((rd l0 x5_1) == (rd l1 x5_1)) = false := beq_eq_false_iff_ne.mpr c7
        have c7b1 : ((rd l0 x5_1) != (rd l1 x5_1)) = true := bne_iff_ne.mpr c7
        obtain rfl := Option.some.inj H
        have p219 : 0 ≤ (x5_1 : Int) := of_decide_eq_true (by first | (with_reducible assumption) | assumption)
        have q219 : x5_1 < (l0.length : Int) := of_decide_eq_true (by first | (with_reducible assumption) | assumption)
        obtain ⟨ad219, e219, hx219_0⟩ := Kd.at_int HR0.out x5_1 p219 q219
        cases e219
        replace p219 := eq_true p219
        replace q219 := eq_true q219
        have p220 : 0 ≤ (x5_1 : Int) := of_decide_eq_true (by first | (with_reducible assumption) | assumption)
        have q220 : x5_1 < (l1.length : Int) := of_decide_eq_true (by first | (with_reducible assumption) | assumption)
        obtain ⟨ad220, e220, hx220_0⟩ := Kd.at_int HR1.out x5_1 p220 q220
        cases e220
        replace p220 := eq_true p220
        replace q220 := eq_true q220
        go_wp2
        repeat (go_quiet (fail); try go_wp2)
        go_ret
        exact ⟨by first | rfl | (simp; done) | (simp [*]; done), by repeat (first | exact Drawn0.refl _ | apply Drawn0.step)⟩
      ·
       rw [if_neg c6] at H
       exact absurd H (by simp)
     ·
      rw [if_neg c5] at H
      exact absurd H (by simp)
    ·
     rw [if_neg c4] at H
     have c4b0 : decide (x5_1 < (l0.length : Int)) = false := decide_eq_false c4
     clear c4
     obtain rfl := Option.some.inj H
     go_wp2
     repeat (go_quiet (fail); try go_wp2)
     go_ret
     exact ⟨by first | rfl | (simp; done) | (simp [*]; done), by repeat (first | exact Drawn0.refl _ | apply Drawn0.step)⟩
 ·
  rw [if_neg c3] at H
  have c3b0 : ((l0.length : Int) == (l1.length : Int)) = false := beq_eq_false_iff_ne.mpr c3
  have c3b1 : ((l0.length : Int) != (l1.length : Int)) = true := bne_iff_ne.mpr c3
  have c3b2 : (l0.length == l1.length) = false := by first | simpa using c3 | (simp at c3 ⊢; omega)
  obtain rfl := Option.some.inj H
  go_enter Try.func22, Try.ntmps22
  go_wp2
  repeat (go_quiet (fail); try go_wp2)
  go_ret
  exact ⟨by first | rfl | (simp; done) | (simp [*]; done), by repeat (first | exact Drawn0.refl _ | apply Drawn0.step)⟩
mutual
def laganlaw04_wide.j0 : Nat → Bool → List Int → List (S50) → List (List Int) → Option (Bool)
 | 0, _, _, _, _ => none
 | k + 1, x19, x268000, x268001, x268002 => if x19 = true then (some false) else (laganlaw04_wide.l0 k 0 x268000 x268001 x268002)
def laganlaw04_wide.l0 : Nat → Int → List Int → List (S50) → List (List Int) → Option (Bool)
 | 0, _, _, _, _ => none
 | k + 1, x3, x268000, x268001, x268002 => if x3 < (x268002.length : Int) then (if 0 ≤ x3 then (if ((rd_L1 x268002 x3).length : Int) > 60 then (some false) else (laganlaw04_wide.l0 k (wrap64 (x3 + 1)) x268000 x268001 x268002)) else (none)) else (if (x268000.length : Int) ≤ 30 then (if (x268001.length : Int) ≤ 40 then (some true) else (if (x268000.length : Int) > 60 then (some true) else (some (decide ((x268001.length : Int) > 200))))) else (if (x268000.length : Int) > 60 then (some true) else (some (decide ((x268001.length : Int) > 200)))))
end
def laganlaw04_wide.f (k : Nat) (l0_0 : List Int) (l0_1 : List (S50)) (l0_2 : List (List Int)) : Option (Bool) := if (l0_0.length : Int) > 70 then (laganlaw04_wide.j0 k true l0_0 l0_1 l0_2) else (if (l0_1.length : Int) > 210 then (laganlaw04_wide.j0 k true l0_0 l0_1 l0_2) else (laganlaw04_wide.j0 k (decide ((l0_2.length : Int) > 70)) l0_0 l0_1 l0_2))
theorem laganlaw04_wide.mono_l : ∀ k, (∀ y0 y1 y2 y3, LeO (laganlaw04_wide.j0 k y0 y1 y2 y3) (laganlaw04_wide.j0 (k + 1) y0 y1 y2 y3)) ∧ (∀ y0 y1 y2 y3, LeO (laganlaw04_wide.l0 k y0 y1 y2 y3) (laganlaw04_wide.l0 (k + 1) y0 y1 y2 y3))
 | 0 => ⟨fun _ _ _ _ r h => by simp [laganlaw04_wide.j0] at h, fun _ _ _ _ r h => by simp [laganlaw04_wide.l0] at h⟩
 | k + 1 => by
  obtain ⟨ih0, ih1⟩ := laganlaw04_wide.mono_l k
  refine ⟨?_, ?_⟩
  ·
   intro y0 y1 y2 y3
   unfold laganlaw04_wide.j0
   repeat' first
   | (with_reducible exact ih0 _ _ _ _)
   | (with_reducible exact ih1 _ _ _ _)
   | (with_reducible exact LeO.refl _)
   | (with_reducible exact LeO.none _)
   | (with_reducible refine LeO.ite ?_ ?_)
   | (with_reducible refine LeO.bind ?_ (fun _ => ?_))
   | exact ih0 _ _ _ _
   | exact ih1 _ _ _ _
   | exact LeO.none _
   | refine LeO.ite ?_ ?_
   | refine LeO.bind ?_ (fun _ => ?_)
  ·
   intro y0 y1 y2 y3
   unfold laganlaw04_wide.l0
   repeat' first
   | (with_reducible exact ih0 _ _ _ _)
   | (with_reducible exact ih1 _ _ _ _)
   | (with_reducible exact LeO.refl _)
   | (with_reducible exact LeO.none _)
   | (with_reducible refine LeO.ite ?_ ?_)
   | (with_reducible refine LeO.bind ?_ (fun _ => ?_))
   | exact ih0 _ _ _ _
   | exact ih1 _ _ _ _
   | exact LeO.none _
   | refine LeO.ite ?_ ?_
   | refine LeO.bind ?_ (fun _ => ?_)
theorem laganlaw04_wide.mono : ∀ a0 a1 a2 k, LeO (laganlaw04_wide.f k a0 a1 a2) (laganlaw04_wide.f (k + 1) a0 a1 a2) := by
 intro a0 a1 a2 k
 obtain ⟨ih0, ih1⟩ := laganlaw04_wide.mono_l k
 unfold laganlaw04_wide.f
 repeat' first
   | (with_reducible exact ih0 _ _ _ _)
   | (with_reducible exact ih1 _ _ _ _)
   | (with_reducible exact LeO.refl _)
   | (with_reducible exact LeO.none _)
   | (with_reducible refine LeO.ite ?_ ?_)
   | (with_reducible refine LeO.bind ?_ (fun _ => ?_))
   | exact ih0 _ _ _ _
   | exact ih1 _ _ _ _
   | exact LeO.none _
   | refine LeO.ite ?_ ?_
   | refine LeO.bind ?_ (fun _ => ?_)
set_option maxHeartbeats 8000000 in
set_option maxRecDepth 100000 in
theorem laganlaw04_wide.calls (k : Nat) (A0_0 : Option Addr) (c0_0 : Nat) (l0_0 : List Int) (A0_1 : Option Addr) (c0_1 : Nat) (l0_1 : List (S50)) (A0_2 : Option Addr) (c0_2 : Nat) (l0_2 : List (List Int)) (r : Bool) (w : World) (hr0_0 : Kd.C (Kd.int .i64) w A0_0 l0_0.length l0_0) (hc0_0 : l0_0.length ≤ c0_0) (hr0_1 : Kd.C k50 w A0_1 l0_1.length l0_1) (hc0_1 : l0_1.length ≤ c0_1) (hr0_2 : Kd.C (Kd.slice 3 (Kd.int .i64)) w A0_2 l0_2.length l0_2) (hc0_2 : l0_2.length ≤ c0_2) (h : laganlaw04_wide.f k l0_0 l0_1 l0_2 = some r) :
  Calls Try.prog 25 #[.agg #[.slice A0_0 l0_0.length c0_0, .slice A0_1 l0_1.length c0_1, .slice A0_2 l0_2.length c0_2]] w fun e w' => e = .returned (.bool r) ∧ Below w.heap.size w w' := by
 have hu26 := Try.underlying26
 have HR0_0 := Aside0.mk hr0_0
 have HC0_0 := Aside0.mk hc0_0
 clear hr0_0 hc0_0
 have HR0_1 := Aside0.mk hr0_1
 have HC0_1 := Aside0.mk hc0_1
 clear hr0_1 hc0_1
 have HR0_2 := Aside0.mk hr0_2
 have HC0_2 := Aside0.mk hc0_2
 clear hr0_2 hc0_2
 have HB := Aside0.mk (Below.refl w.heap.size w)
 have H : (if (l0_0.length : Int) > 70 then (laganlaw04_wide.j0 k true l0_0 l0_1 l0_2) else (if (l0_1.length : Int) > 210 then (laganlaw04_wide.j0 k true l0_0 l0_1 l0_2) else (laganlaw04_wide.j0 k (decide ((l0_2.length : Int) > 70)) l0_0 l0_1 l0_2))) = some r := h
 clear h
 have HC2 := Aside0.mk H
 clear H
 go_enter Try.func25, Try.ntmps25
 go_upto_region 1 with (first | ((with_reducible refine gate_dst (N := 1) rfl ?_); (try (refine gate_guard (by rfl) ?_; dsimp only)); refine box_event ?hg (N := 1) ?hd (cs := #[.slice A0_0 l0_0.length c0_0, .slice A0_1 l0_1.length c0_1, .slice A0_2 l0_2.length c0_2]) (t := 26) ?hr ?_; (case hd => rfl); (case hg => rfl); (case hr => first | (go_simp; done) | (go_simp; rfl)); intro gb267 hg w3 hbox hb; have n0_ := Aside0.mk (below_step (by repeat (first | (with_reducible first | exact HB.out | apply below_alloc | apply pw_below_drewN | apply below_drew1) | exact HB.out)) hb); have n1_ := Aside0.mk (hbox); have n2_ := Aside0.mk ((by rw [hg]; exact (below_size (by repeat (first | (with_reducible first | exact HB.out | apply below_alloc | apply pw_below_drewN | apply below_drew1) | exact HB.out))) : w.heap.size ≤ gb267)); have n3_ := Aside0.mk ((by rw [hg]; exact (below_size (by repeat (first | (with_reducible first | exact HB.out | apply below_alloc | apply pw_below_drewN | apply below_drew1) | exact HB.out))) : w.heap.size ≤ gb267)); clear HB; have HB := n0_; have BK267 := n1_; have GW267 := n2_; have GE267 := n3_; clear n0_ n1_ n2_ n3_; clear hb hbox hg))
 (try simp only [Act.put, List.setIfInBounds_toArray, List.set_cons_zero, List.set_cons_succ])
 go_cut [19] (fun v19 wc => ∃ (kq : Nat) (x19_1 : Bool), v19 = .bool x19_1 ∧ Aside0 (laganlaw04_wide.j0 kq x19_1 l0_0 l0_1 l0_2 = some r) ∧ Aside0 (kq ≤ k) ∧ Aside0 (wc.heap[gb267]? = some (.cells #[(.slice A0_0 l0_0.length c0_0), (.slice A0_1 l0_1.length c0_1), (.slice A0_2 l0_2.length c0_2)] 26 (0, 0))) ∧ Aside0 (Below w.heap.size w wc))
 case first =>
  have H := HC2.out
  clear HC2
  by_cases c4 : (l0_0.length : Int) > 70
  ·
   rw [if_pos c4] at H
   have c4b0 : decide (70 < (l0_0.length : Int)) = true := decide_eq_true c4
   have c4b1 : decide (70 < l0_0.length) = true := decide_eq_true (by omega)
   clear c4
   (first | rw [c4b0] | (simp only [i64_w, i32_w]; rw [c4b0]) | skip)
   have H' := Aside0.mk H
   clear H
   have hcz5_0 : w3.cell? ⟨gb267, 0, none⟩ = some (.slice A0_0 l0_0.length c0_0) := (blk_cell BK267.out 0).trans rfl
   have hcz5_1 : w3.cell? ⟨gb267, 1, none⟩ = some (.slice A0_1 l0_1.length c0_1) := (blk_cell BK267.out 1).trans rfl
   have hcz5_2 : w3.cell? ⟨gb267, 2, none⟩ = some (.slice A0_2 l0_2.length c0_2) := (blk_cell BK267.out 2).trans rfl
   have hfz5_0 := blk_frozen BK267.out 0
   have hfz5_1 := blk_frozen BK267.out 1
   have hfz5_2 := blk_frozen BK267.out 2
   go_wp2
   go_meet
   case rel => exact ⟨_, (true), (by first | rfl | (simp; done) | (simp [*]; done)), H', ⟨by first | omega | exact Nat.le_refl _⟩, ⟨by (with_reducible repeat (first | refine blk_drewN ?_ _ | refine blk_drew ?_ | refine blk_alloc ?_ _)); exact BK267.out⟩, ⟨by repeat (first | (with_reducible first | exact HB.out | apply below_alloc | apply pw_below_drewN | apply below_drew1 | refine below_set ?_ GE267.out) | exact HB.out)⟩⟩
  ·
   rw [if_neg c4] at H
   have c4b0 : decide (70 < (l0_0.length : Int)) = false := decide_eq_false c4
   have c4b1 : decide (70 < l0_0.length) = false := decide_eq_false (by omega)
   clear c4
   (first | rw [c4b0] | (simp only [i64_w, i32_w]; rw [c4b0]) | skip)
   by_cases c6 : (l0_1.length : Int) > 210
   ·
    rw [if_pos c6] at H
    have c6b0 : decide (210 < (l0_1.length : Int)) = true := decide_eq_true c6
    have c6b1 : decide (210 < l0_1.length) = true := decide_eq_true (by omega)
    clear c6
    have H' := Aside0.mk H
    clear H
    have hcz7_0 : w3.cell? ⟨gb267, 0, none⟩ = some (.slice A0_0 l0_0.length c0_0) := (blk_cell BK267.out 0).trans rfl
    have hcz7_1 : w3.cell? ⟨gb267, 1, none⟩ = some (.slice A0_1 l0_1.length c0_1) := (blk_cell BK267.out 1).trans rfl
    have hcz7_2 : w3.cell? ⟨gb267, 2, none⟩ = some (.slice A0_2 l0_2.length c0_2) := (blk_cell BK267.out 2).trans rfl
    have hfz7_0 := blk_frozen BK267.out 0
    have hfz7_1 := blk_frozen BK267.out 1
    have hfz7_2 := blk_frozen BK267.out 2
    go_wp2
    go_meet
    case rel => exact ⟨_, (true), (by first | rfl | (simp; done) | (simp [*]; done)), H', ⟨by first | omega | exact Nat.le_refl _⟩, ⟨by (with_reducible repeat (first | refine blk_drewN ?_ _ | refine blk_drew ?_ | refine blk_alloc ?_ _)); exact BK267.out⟩, ⟨by repeat (first | (with_reducible first | exact HB.out | apply below_alloc | apply pw_below_drewN | apply below_drew1 | refine below_set ?_ GE267.out) | exact HB.out)⟩⟩
   ·
    rw [if_neg c6] at H
    have c6b0 : decide (210 < (l0_1.length : Int)) = false := decide_eq_false c6
    have c6b1 : decide (210 < l0_1.length) = false := decide_eq_false (by omega)
    clear c6
    have H' := Aside0.mk H
    clear H
    have hcz8_0 : w3.cell? ⟨gb267, 0, none⟩ = some (.slice A0_0 l0_0.length c0_0) := (blk_cell BK267.out 0).trans rfl
    have hcz8_1 : w3.cell? ⟨gb267, 1, none⟩ = some (.slice A0_1 l0_1.length c0_1) := (blk_cell BK267.out 1).trans rfl
    have hcz8_2 : w3.cell? ⟨gb267, 2, none⟩ = some (.slice A0_2 l0_2.length c0_2) := (blk_cell BK267.out 2).trans rfl
    have hfz8_0 := blk_frozen BK267.out 0
    have hfz8_1 := blk_frozen BK267.out 1
    have hfz8_2 := blk_frozen BK267.out 2
    go_wp2
    go_meet
    case rel => exact ⟨_, (decide ((l0_2.length : Int) > 70)), (by first | rfl | (simp; done) | (simp [*]; done)), H', ⟨by first | omega | exact Nat.le_refl _⟩, ⟨by (with_reducible repeat (first | refine blk_drewN ?_ _ | refine blk_drew ?_ | refine blk_alloc ?_ _)); exact BK267.out⟩, ⟨by repeat (first | (with_reducible first | exact HB.out | apply below_alloc | apply pw_below_drewN | apply below_drew1 | refine below_set ?_ GE267.out) | exact HB.out)⟩⟩
 case rest =>
  clear HC2
  try clear c2
  try clear p2
  try clear c4
  try clear c4b0
  try clear c4b1
  try clear c6
  try clear c6b0
  try clear c6b1
  try clear hcz5_0
  try clear hcz5_1
  try clear hcz5_2
  try clear hcz7_0
  try clear hcz7_1
  try clear hcz7_2
  try clear hcz8_0
  try clear hcz8_1
  try clear hcz8_2
  try clear hfz5_0
  try clear hfz5_1
  try clear hfz5_2
  try clear hfz7_0
  try clear hfz7_1
  try clear hfz7_2
  try clear hfz8_0
  try clear hfz8_1
  try clear hfz8_2
  obtain ⟨kq, x19_1, rfl, HA, HJ1, BK267, HB⟩ := hcut
  cases kq with
  | zero => exact absurd HA.out (by simp [laganlaw04_wide.j0])
  | succ kj1 =>
   have H := HA.out
   clear HA
   simp only [laganlaw04_wide.j0] at H
   by_cases c9 : x19_1 = true
   ·
    subst c9
    have H1 : (some false) = some r := by rw [if_pos rfl] at H; exact H
    clear H
    have H := H1
    clear H1
    obtain rfl := Option.some.inj H
    go_wp2
    go_ret
    exact ⟨by first | rfl | (simp [errW_none, errW_some] <;> rfl) | (simp [*, errW_none, errW_some] <;> rfl), by repeat (first | (with_reducible first | exact HB.out | apply below_alloc | apply pw_below_drewN | apply below_drew1 | refine below_set ?_ GE267.out) | exact HB.out)⟩
   ·
    replace c9 := Bool.eq_false_iff.mpr c9
    subst c9
    have H1 : (laganlaw04_wide.l0 kj1 0 l0_0 l0_1 l0_2) = some r := by rw [if_neg (show ¬ (false = true) by decide)] at H; exact H
    clear H
    have H := H1
    clear H1
    have H' := Aside0.mk H
    clear H
    go_wp2
    go_loopg [3] kj1 (fun kq v3 w' => ∃ (x3_2 : Int), v3 = .int .i64 x3_2 ∧ Aside0 (laganlaw04_wide.l0 kq x3_2 l0_0 l0_1 l0_2 = some r) ∧ Aside0 (kq ≤ kj1) ∧ Aside0 (w'.heap[gb267]? = some (.cells #[(.slice A0_0 l0_0.length c0_0), (.slice A0_1 l0_1.length c0_1), (.slice A0_2 l0_2.length c0_2)] 26 (0, 0))) ∧ Aside0 (Below w.heap.size w w'))
    case atStart => exact ⟨(0), (by first | rfl | (simp; done) | (simp [*]; done)), H', ⟨Nat.le_refl _⟩, ⟨by (with_reducible repeat (first | refine blk_drewN ?_ _ | refine blk_drew ?_ | refine blk_alloc ?_ _)); exact BK267.out⟩, ⟨by repeat (first | (with_reducible first | exact HB.out | apply below_alloc | apply pw_below_drewN | apply below_drew1 | refine below_set ?_ GE267.out) | exact HB.out)⟩⟩
    case round =>
     clear H'
     try clear c2
     try clear p2
     try clear c4
     try clear c4b0
     try clear c4b1
     try clear c6
     try clear c6b0
     try clear c6b1
     try clear c9
     try clear hcz5_0
     try clear hcz5_1
     try clear hcz5_2
     try clear hcz7_0
     try clear hcz7_1
     try clear hcz7_2
     try clear hcz8_0
     try clear hcz8_1
     try clear hcz8_2
     try clear hfz5_0
     try clear hfz5_1
     try clear hfz5_2
     try clear hfz7_0
     try clear hfz7_1
     try clear hfz7_2
     try clear hfz8_0
     try clear hfz8_1
     try clear hfz8_2
     try clear p2
     obtain ⟨x3_2, rfl, HA, HK2, BK267, HB⟩ := hrel
     cases gk with
     | zero => exact absurd HA.out (by simp [laganlaw04_wide.l0])
     | succ k2 =>
      have H := HA.out
      clear HA
      simp only [laganlaw04_wide.l0] at H
      by_cases c10 : x3_2 < (l0_2.length : Int)
      ·
       rw [if_pos c10] at H
       have c10b0 : decide (x3_2 < (l0_2.length : Int)) = true := decide_eq_true c10
       clear c10
       by_cases c11 : 0 ≤ x3_2
       ·
        rw [if_pos c11] at H
        have c11b0 : decide (0 ≤ x3_2) = true := decide_eq_true c11
        clear c11
        by_cases c12 : ((rd_L1 l0_2 x3_2).length : Int) > 60
        ·
         rw [if_pos c12] at H
         have c12b0 : decide (60 < ((rd_L1 l0_2 x3_2).length : Int)) = true := decide_eq_true c12
         have c12b1 : decide (60 < (rd_L1 l0_2 x3_2).length) = true := decide_eq_true (by omega)
         clear c12
         obtain rfl := Option.some.inj H
         have hcz13_0 : wr.cell? ⟨gb267, 0, none⟩ = some (.slice A0_0 l0_0.length c0_0) := (blk_cell BK267.out 0).trans rfl
         have hcz13_1 : wr.cell? ⟨gb267, 1, none⟩ = some (.slice A0_1 l0_1.length c0_1) := (blk_cell BK267.out 1).trans rfl
         have hcz13_2 : wr.cell? ⟨gb267, 2, none⟩ = some (.slice A0_2 l0_2.length c0_2) := (blk_cell BK267.out 2).trans rfl
         have hfz13_0 := blk_frozen BK267.out 0
         have hfz13_1 := blk_frozen BK267.out 1
         have hfz13_2 := blk_frozen BK267.out 2
         have p268 : 0 ≤ (x3_2 : Int) := of_decide_eq_true (by first | (with_reducible assumption) | assumption)
         have q268 : x3_2 < (l0_2.length : Int) := of_decide_eq_true (by first | (with_reducible assumption) | assumption)
         obtain ⟨ad268, A268_0, c268_0, e268, hx268_0, hl268_0, hi268_0⟩ := at_L1 HR0_2.out x3_2 p268 q268
         cases e268
         replace hx268_0 := (HB.out.cell (World.block_lt_of_cell? w _ hx268_0)).trans hx268_0
         have HR268_0 := Aside0.mk hi268_0
         have HC268_0 := Aside0.mk hl268_0
         clear hi268_0 hl268_0
         replace p268 := eq_true p268
         replace q268 := eq_true q268
         go_wp2
         go_ret
         exact ⟨by first | rfl | (simp [errW_none, errW_some] <;> rfl) | (simp [*, errW_none, errW_some] <;> rfl), by repeat (first | (with_reducible first | exact HB.out | apply below_alloc | apply pw_below_drewN | apply below_drew1 | refine below_set ?_ GE267.out) | exact HB.out)⟩
        ·
         rw [if_neg c12] at H
         have c12b0 : decide (60 < ((rd_L1 l0_2 x3_2).length : Int)) = false := decide_eq_false c12
         have c12b1 : decide (60 < (rd_L1 l0_2 x3_2).length) = false := decide_eq_false (by omega)
         clear c12
         have H' := Aside0.mk H
         clear H
         have hcz14_0 : wr.cell? ⟨gb267, 0, none⟩ = some (.slice A0_0 l0_0.length c0_0) := (blk_cell BK267.out 0).trans rfl
         have hcz14_1 : wr.cell? ⟨gb267, 1, none⟩ = some (.slice A0_1 l0_1.length c0_1) := (blk_cell BK267.out 1).trans rfl
         have hcz14_2 : wr.cell? ⟨gb267, 2, none⟩ = some (.slice A0_2 l0_2.length c0_2) := (blk_cell BK267.out 2).trans rfl
         have hfz14_0 := blk_frozen BK267.out 0
         have hfz14_1 := blk_frozen BK267.out 1
         have hfz14_2 := blk_frozen BK267.out 2
         have p268 : 0 ≤ (x3_2 : Int) := of_decide_eq_true (by first | (with_reducible assumption) | assumption)
         have q268 : x3_2 < (l0_2.length : Int) := of_decide_eq_true (by first | (with_reducible assumption) | assumption)
         obtain ⟨ad268, A268_0, c268_0, e268, hx268_0, hl268_0, hi268_0⟩ := at_L1 HR0_2.out x3_2 p268 q268
         cases e268
         replace hx268_0 := (HB.out.cell (World.block_lt_of_cell? w _ hx268_0)).trans hx268_0
         have HR268_0 := Aside0.mk hi268_0
         have HC268_0 := Aside0.mk hl268_0
         clear hi268_0 hl268_0
         replace p268 := eq_true p268
         replace q268 := eq_true q268
         go_wp2
         go_roundg k2
         case measure => have := HJ1.out; have := HK2.out; omega
         case rel => exact ⟨(wrap64 (x3_2 + 1)), (by first | rfl | (simp; done) | (simp [*]; done)), H', ⟨by have := HJ1.out; have := HK2.out; omega⟩, ⟨by (with_reducible repeat (first | refine blk_drewN ?_ _ | refine blk_drew ?_ | refine blk_alloc ?_ _)); exact BK267.out⟩, ⟨by repeat (first | (with_reducible first | exact HB.out | apply below_alloc | apply pw_below_drewN | apply below_drew1 | refine below_set ?_ GE267.out) | exact HB.out)⟩⟩
       ·
        rw [if_neg c11] at H
        exact absurd H (by simp)
      ·
       rw [if_neg c10] at H
       have c10b0 : decide (x3_2 < (l0_2.length : Int)) = false := decide_eq_false c10
       clear c10
       by_cases c15 : (l0_0.length : Int) ≤ 30
       ·
        rw [if_pos c15] at H
        have c15b0 : decide ((l0_0.length : Int) ≤ 30) = true := decide_eq_true c15
        have c15b1 : decide (l0_0.length ≤ 30) = true := decide_eq_true (by omega)
        clear c15
        by_cases c16 : (l0_1.length : Int) ≤ 40
        ·
         rw [if_pos c16] at H
         have c16b0 : decide ((l0_1.length : Int) ≤ 40) = true := decide_eq_true c16
         have c16b1 : decide (l0_1.length ≤ 40) = true := decide_eq_true (by omega)
         clear c16
         obtain rfl := Option.some.inj H
         have hcz17_0 : wr.cell? ⟨gb267, 0, none⟩ = some (.slice A0_0 l0_0.length c0_0) := (blk_cell BK267.out 0).trans rfl
         have hcz17_1 : wr.cell? ⟨gb267, 1, none⟩ = some (.slice A0_1 l0_1.length c0_1) := (blk_cell BK267.out 1).trans rfl
         have hcz17_2 : wr.cell? ⟨gb267, 2, none⟩ = some (.slice A0_2 l0_2.length c0_2) := (blk_cell BK267.out 2).trans rfl
         have hfz17_0 := blk_frozen BK267.out 0
         have hfz17_1 := blk_frozen BK267.out 1
         have hfz17_2 := blk_frozen BK267.out 2
         go_wp2
         go_ret
         exact ⟨by first | rfl | (simp [errW_none, errW_some] <;> rfl) | (simp [*, errW_none, errW_some] <;> rfl), by repeat (first | (with_reducible first | exact HB.out | apply below_alloc | apply pw_below_drewN | apply below_drew1 | refine below_set ?_ GE267.out) | exact HB.out)⟩
        ·
         rw [if_neg c16] at H
         have c16b0 : decide ((l0_1.length : Int) ≤ 40) = false := decide_eq_false c16
         have c16b1 : decide (l0_1.length ≤ 40) = false := decide_eq_false (by omega)
         clear c16
         by_cases c18 : (l0_0.length : Int) > 60
         ·
          rw [if_pos c18] at H
          have c18b0 : decide (60 < (l0_0.length : Int)) = true := decide_eq_true c18
          have c18b1 : decide (60 < l0_0.length) = true := decide_eq_true (by omega)
          clear c18
          obtain rfl := Option.some.inj H
          have hcz19_0 : wr.cell? ⟨gb267, 0, none⟩ = some (.slice A0_0 l0_0.length c0_0) := (blk_cell BK267.out 0).trans rfl
          have hcz19_1 : wr.cell? ⟨gb267, 1, none⟩ = some (.slice A0_1 l0_1.length c0_1) := (blk_cell BK267.out 1).trans rfl
          have hcz19_2 : wr.cell? ⟨gb267, 2, none⟩ = some (.slice A0_2 l0_2.length c0_2) := (blk_cell BK267.out 2).trans rfl
          have hfz19_0 := blk_frozen BK267.out 0
          have hfz19_1 := blk_frozen BK267.out 1
          have hfz19_2 := blk_frozen BK267.out 2
          go_wp2
          go_ret
          exact ⟨by first | rfl | (simp [errW_none, errW_some] <;> rfl) | (simp [*, errW_none, errW_some] <;> rfl), by repeat (first | (with_reducible first | exact HB.out | apply below_alloc | apply pw_below_drewN | apply below_drew1 | refine below_set ?_ GE267.out) | exact HB.out)⟩
         ·
          rw [if_neg c18] at H
          have c18b0 : decide (60 < (l0_0.length : Int)) = false := decide_eq_false c18
          have c18b1 : decide (60 < l0_0.length) = false := decide_eq_false (by omega)
          clear c18
          obtain rfl := Option.some.inj H
          have hcz20_0 : wr.cell? ⟨gb267, 0, none⟩ = some (.slice A0_0 l0_0.length c0_0) := (blk_cell BK267.out 0).trans rfl
          have hcz20_1 : wr.cell? ⟨gb267, 1, none⟩ = some (.slice A0_1 l0_1.length c0_1) := (blk_cell BK267.out 1).trans rfl
          have hcz20_2 : wr.cell? ⟨gb267, 2, none⟩ = some (.slice A0_2 l0_2.length c0_2) := (blk_cell BK267.out 2).trans rfl
          have hfz20_0 := blk_frozen BK267.out 0
          have hfz20_1 := blk_frozen BK267.out 1
          have hfz20_2 := blk_frozen BK267.out 2
          go_wp2
          go_ret
          exact ⟨by first | rfl | (simp [errW_none, errW_some] <;> rfl) | (simp [*, errW_none, errW_some] <;> rfl), by repeat (first | (with_reducible first | exact HB.out | apply below_alloc | apply pw_below_drewN | apply below_drew1 | refine below_set ?_ GE267.out) | exact HB.out)⟩
       ·
        rw [if_neg c15] at H
        have c15b0 : decide ((l0_0.length : Int) ≤ 30) = false := decide_eq_false c15
        have c15b1 : decide (l0_0.length ≤ 30) = false := decide_eq_false (by omega)
        clear c15
        by_cases c21 : (l0_0.length : Int) > 60
        ·
         rw [if_pos c21] at H
         have c21b0 : decide (60 < (l0_0.length : Int)) = true := decide_eq_true c21
         have c21b1 : decide (60 < l0_0.length) = true := decide_eq_true (by omega)
         clear c21
         obtain rfl := Option.some.inj H
         have hcz22_0 : wr.cell? ⟨gb267, 0, none⟩ = some (.slice A0_0 l0_0.length c0_0) := (blk_cell BK267.out 0).trans rfl
         have hcz22_1 : wr.cell? ⟨gb267, 1, none⟩ = some (.slice A0_1 l0_1.length c0_1) := (blk_cell BK267.out 1).trans rfl
         have hcz22_2 : wr.cell? ⟨gb267, 2, none⟩ = some (.slice A0_2 l0_2.length c0_2) := (blk_cell BK267.out 2).trans rfl
         have hfz22_0 := blk_frozen BK267.out 0
         have hfz22_1 := blk_frozen BK267.out 1
         have hfz22_2 := blk_frozen BK267.out 2
         go_wp2
         go_ret
         exact ⟨by first | rfl | (simp [errW_none, errW_some] <;> rfl) | (simp [*, errW_none, errW_some] <;> rfl), by repeat (first | (with_reducible first | exact HB.out | apply below_alloc | apply pw_below_drewN | apply below_drew1 | refine below_set ?_ GE267.out) | exact HB.out)⟩
        ·
         rw [if_neg c21] at H
         have c21b0 : decide (60 < (l0_0.length : Int)) = false := decide_eq_false c21
         have c21b1 : decide (60 < l0_0.length) = false := decide_eq_false (by omega)
         clear c21
         obtain rfl := Option.some.inj H
         have hcz23_0 : wr.cell? ⟨gb267, 0, none⟩ = some (.slice A0_0 l0_0.length c0_0) := (blk_cell BK267.out 0).trans rfl
         have hcz23_1 : wr.cell? ⟨gb267, 1, none⟩ = some (.slice A0_1 l0_1.length c0_1) := (blk_cell BK267.out 1).trans rfl
         have hcz23_2 : wr.cell? ⟨gb267, 2, none⟩ = some (.slice A0_2 l0_2.length c0_2) := (blk_cell BK267.out 2).trans rfl
         have hfz23_0 := blk_frozen BK267.out 0
         have hfz23_1 := blk_frozen BK267.out 1
         have hfz23_2 := blk_frozen BK267.out 2
         go_wp2
         go_ret
         exact ⟨by first | rfl | (simp [errW_none, errW_some] <;> rfl) | (simp [*, errW_none, errW_some] <;> rfl), by repeat (first | (with_reducible first | exact HB.out | apply below_alloc | apply pw_below_drewN | apply below_drew1 | refine below_set ?_ GE267.out) | exact HB.out)⟩
def laganref04_Has.l0 : Nat → List Int → Int → Int → Option (Bool)
 | 0, _, _, _ => none
 | k + 1, x0, x1, x5 => if x5 < (x0.length : Int) then (if 0 ≤ x5 then (if (rd x0 x5) = x1 then (some true) else (laganref04_Has.l0 k x0 x1 (wrap64 (x5 + 1)))) else (none)) else (some false)
def laganref04_Has.f (k : Nat) (l0 : List Int) (a1 : Int) : Option (Bool) := laganref04_Has.l0 k l0 a1 0
theorem laganref04_Has.mono_l : ∀ k, (∀ y0 y1 y2, LeO (laganref04_Has.l0 k y0 y1 y2) (laganref04_Has.l0 (k + 1) y0 y1 y2))
 | 0 => fun _ _ _ r h => by simp [laganref04_Has.l0] at h
 | k + 1 => by
  have ih0 := laganref04_Has.mono_l k
  ·
   intro y0 y1 y2
   unfold laganref04_Has.l0
   repeat' first
   | (with_reducible exact ih0 _ _ _)
   | (with_reducible exact LeO.refl _)
   | (with_reducible exact LeO.none _)
   | (with_reducible refine LeO.ite ?_ ?_)
   | (with_reducible refine LeO.bind ?_ (fun _ => ?_))
   | exact ih0 _ _ _
   | exact LeO.none _
   | refine LeO.ite ?_ ?_
   | refine LeO.bind ?_ (fun _ => ?_)
theorem laganref04_Has.mono : ∀ a0 a1 k, LeO (laganref04_Has.f k a0 a1) (laganref04_Has.f (k + 1) a0 a1) := by
 intro a0 a1 k
 have ih0 := laganref04_Has.mono_l k
 unfold laganref04_Has.f
 repeat' first
   | (with_reducible exact ih0 _ _ _)
   | (with_reducible exact LeO.refl _)
   | (with_reducible exact LeO.none _)
   | (with_reducible refine LeO.ite ?_ ?_)
   | (with_reducible refine LeO.bind ?_ (fun _ => ?_))
   | exact ih0 _ _ _
   | exact LeO.none _
   | refine LeO.ite ?_ ?_
   | refine LeO.bind ?_ (fun _ => ?_)
set_option maxHeartbeats 8000000 in
set_option maxRecDepth 100000 in
theorem laganref04_Has.calls (k : Nat) (A0 : Option Addr) (c0 : Nat) (l0 : List Int) (a1 : Int) (r : Bool) (w : World) (hr0 : Kd.C (Kd.int .i64) w A0 l0.length l0) (hc0 : l0.length ≤ c0) (h : laganref04_Has.f k l0 a1 = some r) :
  Calls Try.prog 33 #[.slice A0 l0.length c0, .int .i64 a1] w fun e w' => e = .returned (.bool r) ∧ Drawn0 w w' := by
 have HR0 := Aside0.mk hr0
 have HC0 := Aside0.mk hc0
 clear hr0 hc0
 have H : (laganref04_Has.l0 k l0 a1 0) = some r := h
 clear h
 have H' := Aside0.mk H
 clear H
 go_enter Try.func33, Try.ntmps33
 go_wp2
 go_loopg [5] k (fun kq v5 w' => ∃ (x5_1 : Int), v5 = .int .i64 x5_1 ∧ Aside0 (laganref04_Has.l0 kq l0 a1 x5_1 = some r) ∧ Aside0 (kq ≤ k) ∧ Drawn0 w w')
 case atStart => exact ⟨(0), (by first | rfl | (simp; done) | (simp [*]; done)), H', ⟨Nat.le_refl _⟩, by repeat (first | exact Drawn0.refl _ | apply Drawn0.step)⟩
 case round =>
  clear H'
  try clear p2
  obtain ⟨x5_1, rfl, HA, HK1, ⟨m1, rfl⟩⟩ := hrel
  cases gk with
  | zero => exact absurd HA.out (by simp [laganref04_Has.l0])
  | succ k1 =>
   have H := HA.out
   clear HA
   simp only [laganref04_Has.l0] at H
   by_cases c3 : x5_1 < (l0.length : Int)
   ·
    rw [if_pos c3] at H
    have c3b0 : decide (x5_1 < (l0.length : Int)) = true := decide_eq_true c3
    clear c3
    by_cases c4 : 0 ≤ x5_1
    ·
     rw [if_pos c4] at H
     have c4b0 : decide (0 ≤ x5_1) = true := decide_eq_true c4
     clear c4
     by_cases c5 : (rd l0 x5_1) = a1
     ·
      rw [if_pos c5] at H
      have c5b0 : ((rd l0 x5_1) == a1) = true := beq_iff_eq.mpr c5
      have c5b1 : ((rd l0 x5_1) != a1) = false := bne_eq_false_iff_eq.mpr c5
      clear c5
      obtain rfl := Option.some.inj H
      have p294 : 0 ≤ (x5_1 : Int) := of_decide_eq_true (by first | (with_reducible assumption) | assumption)
      have q294 : x5_1 < (l0.length : Int) := of_decide_eq_true (by first | (with_reducible assumption) | assumption)
      obtain ⟨ad294, e294, hx294_0⟩ := Kd.at_int HR0.out x5_1 p294 q294
      cases e294
      replace p294 := eq_true p294
      replace q294 := eq_true q294
      go_wp2
      go_ret
      exact ⟨by first | rfl | (simp; done) | (simp [*]; done), by repeat (first | exact Drawn0.refl _ | apply Drawn0.step)⟩
     ·
      rw [if_neg c5] at H
      have c5b0 : ((rd l0 x5_1) == a1) = false := beq_eq_false_iff_ne.mpr c5
      have c5b1 : ((rd l0 x5_1) != a1) = true := bne_iff_ne.mpr c5
      have H' := Aside0.mk H
      clear H
      have p294 : 0 ≤ (x5_1 : Int) := of_decide_eq_true (by first | (with_reducible assumption) | assumption)
      have q294 : x5_1 < (l0.length : Int) := of_decide_eq_true (by first | (with_reducible assumption) | assumption)
      obtain ⟨ad294, e294, hx294_0⟩ := Kd.at_int HR0.out x5_1 p294 q294
      cases e294
      replace p294 := eq_true p294
      replace q294 := eq_true q294
      go_wp2
      go_roundg k1
      case measure => have := HK1.out; omega
      case rel => exact ⟨(wrap64 (x5_1 + 1)), (by first | rfl | (simp; done) | (simp [*]; done)), H', ⟨by have := HK1.out; omega⟩, by repeat (first | exact Drawn0.refl _ | apply Drawn0.step)⟩
    ·
     rw [if_neg c4] at H
     exact absurd H (by simp)
   ·
    rw [if_neg c3] at H
    have c3b0 : decide (x5_1 < (l0.length : Int)) = false := decide_eq_false c3
    clear c3
    obtain rfl := Option.some.inj H
    go_wp2
    go_ret
    exact ⟨by first | rfl | (simp; done) | (simp [*]; done), by repeat (first | exact Drawn0.refl _ | apply Drawn0.step)⟩
end Go.Proofs.Ytkmmihadcbfkoaa.PM
end

section
namespace Go.Proofs.Ytkmmihadcbfkoaa.PM
open Go.RowKit Go.Proofs.YtkmmihadcbfkoaaW.PrintWords Go.Proofs.YtkmmihadcbfkoaaW.PrintLast Go.Proofs.YtkmmihadcbfkoaaW.PrintMore
set_option linter.unusedVariables false
set_option linter.unusedSimpArgs false
mutual
def laganref04_CheckBoard.j0 : Nat → Bool → List Int → List (S50) → List (List Int) → Option (Int)
 | 0, _, _, _, _ => none
 | k + 1, x16, x133000, x133001, x133002 => if x16 = true then (some 2) else (laganref04_CheckBoard.l0 k 0 x133000 x133001 x133002)
def laganref04_CheckBoard.l0 : Nat → Int → List Int → List (S50) → List (List Int) → Option (Int)
 | 0, _, _, _, _ => none
 | k + 1, x3, x133000, x133001, x133002 => if x3 < (x133000.length : Int) then (if 0 ≤ x3 then (if (rd x133000 x3) < 10 then (some 1) else (if (rd x133000 x3) > 10000007 then (some 1) else (if x3 > 0 then (if 0 ≤ (wrap64 (x3 - 1)) then (if (wrap64 (x3 - 1)) < (x133000.length : Int) then (if (rd x133000 x3) ≤ (rd x133000 (wrap64 (x3 - 1))) then (some 1) else (laganref04_CheckBoard.l0 k (wrap64 (x3 + 1)) x133000 x133001 x133002)) else (none)) else (none)) else (laganref04_CheckBoard.l0 k (wrap64 (x3 + 1)) x133000 x133001 x133002)))) else (none)) else (laganref04_CheckBoard.l1 k 0 x133000 x133001 x133002)
def laganref04_CheckBoard.l1 : Nat → Int → List Int → List (S50) → List (List Int) → Option (Int)
 | 0, _, _, _, _ => none
 | k + 1, x4, x133000, x133001, x133002 => if x4 < (x133001.length : Int) then (if 0 ≤ x4 then (if ((rd_T50 x133001 x4).f0) < 1 then (laganref04_CheckBoard.j3 k x4 true x133000 x133001 x133002 ((rd_T50 x133001 x4).f0) ((rd_T50 x133001 x4).f1) ((rd_T50 x133001 x4).f2)) else (if ((rd_T50 x133001 x4).f0) > 20 then (laganref04_CheckBoard.j3 k x4 true x133000 x133001 x133002 ((rd_T50 x133001 x4).f0) ((rd_T50 x133001 x4).f1) ((rd_T50 x133001 x4).f2)) else (if ((rd_T50 x133001 x4).f1) < 1 then (laganref04_CheckBoard.j3 k x4 true x133000 x133001 x133002 ((rd_T50 x133001 x4).f0) ((rd_T50 x133001 x4).f1) ((rd_T50 x133001 x4).f2)) else (if ((rd_T50 x133001 x4).f1) > 200 then (laganref04_CheckBoard.j3 k x4 true x133000 x133001 x133002 ((rd_T50 x133001 x4).f0) ((rd_T50 x133001 x4).f1) ((rd_T50 x133001 x4).f2)) else (if ((rd_T50 x133001 x4).f2) < 1 then (laganref04_CheckBoard.j3 k x4 true x133000 x133001 x133002 ((rd_T50 x133001 x4).f0) ((rd_T50 x133001 x4).f1) ((rd_T50 x133001 x4).f2)) else (laganref04_CheckBoard.j3 k x4 (decide (((rd_T50 x133001 x4).f2) > 20)) x133000 x133001 x133002 ((rd_T50 x133001 x4).f0) ((rd_T50 x133001 x4).f1) ((rd_T50 x133001 x4).f2))))))) else (none)) else (if (x133002.length : Int) = (x133000.length : Int) then (laganref04_CheckBoard.l2 k 0 x133000 x133001 x133002) else (some 1))
def laganref04_CheckBoard.j3 : Nat → Int → Bool → List Int → List (S50) → List (List Int) → Int → Int → Int → Option (Int)
 | 0, _, _, _, _, _, _, _, _ => none
 | k + 1, x4, x95, x133000, x133001, x133002, x139000, x139001, x139002 => if x95 = true then (some 1) else (if x4 > 0 then (if 0 ≤ (wrap64 (x4 - 1)) then (if (wrap64 (x4 - 1)) < (x133001.length : Int) then (if x139000 < ((rd_T50 x133001 (wrap64 (x4 - 1))).f0) then (some 1) else (if x139000 = ((rd_T50 x133001 (wrap64 (x4 - 1))).f0) then (if x139001 ≤ ((rd_T50 x133001 (wrap64 (x4 - 1))).f1) then (some 1) else (laganref04_CheckBoard.l1 k (wrap64 (x4 + 1)) x133000 x133001 x133002)) else (laganref04_CheckBoard.l1 k (wrap64 (x4 + 1)) x133000 x133001 x133002))) else (none)) else (none)) else (laganref04_CheckBoard.l1 k (wrap64 (x4 + 1)) x133000 x133001 x133002))
def laganref04_CheckBoard.l2 : Nat → Int → List Int → List (S50) → List (List Int) → Option (Int)
 | 0, _, _, _, _ => none
 | k + 1, x6, x133000, x133001, x133002 => if x6 < (x133002.length : Int) then (if 0 ≤ x6 then ((laganref04_ascending.f k (rd_L1 x133002 x6) (x133001.length : Int)).bind fun t143 => (if t143 = true then (laganref04_CheckBoard.l2 k (wrap64 (x6 + 1)) x133000 x133001 x133002) else (some 1))) else (none)) else (some 0)
end
def laganref04_CheckBoard.f (k : Nat) (l0_0 : List Int) (l0_1 : List (S50)) (l0_2 : List (List Int)) : Option (Int) := if (l0_0.length : Int) > 60 then (laganref04_CheckBoard.j0 k true l0_0 l0_1 l0_2) else (laganref04_CheckBoard.j0 k (decide ((l0_1.length : Int) > 200)) l0_0 l0_1 l0_2)
theorem laganref04_CheckBoard.mono_l : ∀ k, (∀ y0 y1 y2 y3, LeO (laganref04_CheckBoard.j0 k y0 y1 y2 y3) (laganref04_CheckBoard.j0 (k + 1) y0 y1 y2 y3)) ∧ (∀ y0 y1 y2 y3, LeO (laganref04_CheckBoard.l0 k y0 y1 y2 y3) (laganref04_CheckBoard.l0 (k + 1) y0 y1 y2 y3)) ∧ (∀ y0 y1 y2 y3, LeO (laganref04_CheckBoard.l1 k y0 y1 y2 y3) (laganref04_CheckBoard.l1 (k + 1) y0 y1 y2 y3)) ∧ (∀ y0 y1 y2 y3 y4 y5 y6 y7, LeO (laganref04_CheckBoard.j3 k y0 y1 y2 y3 y4 y5 y6 y7) (laganref04_CheckBoard.j3 (k + 1) y0 y1 y2 y3 y4 y5 y6 y7)) ∧ (∀ y0 y1 y2 y3, LeO (laganref04_CheckBoard.l2 k y0 y1 y2 y3) (laganref04_CheckBoard.l2 (k + 1) y0 y1 y2 y3))
 | 0 => ⟨fun _ _ _ _ r h => by simp [laganref04_CheckBoard.j0] at h, fun _ _ _ _ r h => by simp [laganref04_CheckBoard.l0] at h, fun _ _ _ _ r h => by simp [laganref04_CheckBoard.l1] at h, fun _ _ _ _ _ _ _ _ r h => by simp [laganref04_CheckBoard.j3] at h, fun _ _ _ _ r h => by simp [laganref04_CheckBoard.l2] at h⟩
 | k + 1 => by
  obtain ⟨ih0, ih1, ih2, ih3, ih4⟩ := laganref04_CheckBoard.mono_l k
  refine ⟨?_, ?_, ?_, ?_, ?_⟩
  ·
   intro y0 y1 y2 y3
   unfold laganref04_CheckBoard.j0
   repeat' first
   | (with_reducible exact ih0 _ _ _ _)
   | (with_reducible exact ih1 _ _ _ _)
   | (with_reducible exact ih2 _ _ _ _)
   | (with_reducible exact ih3 _ _ _ _ _ _ _ _)
   | (with_reducible exact ih4 _ _ _ _)
   | (with_reducible exact laganref04_ascending.mono _ _ _)
   | (with_reducible exact LeO.refl _)
   | (with_reducible exact LeO.none _)
   | (with_reducible refine LeO.ite ?_ ?_)
   | (with_reducible refine LeO.bind ?_ (fun _ => ?_))
   | exact ih0 _ _ _ _
   | exact ih1 _ _ _ _
   | exact ih2 _ _ _ _
   | exact ih3 _ _ _ _ _ _ _ _
   | exact ih4 _ _ _ _
   | exact laganref04_ascending.mono _ _ _
   | exact LeO.none _
   | refine LeO.ite ?_ ?_
   | refine LeO.bind ?_ (fun _ => ?_)
  ·
   intro y0 y1 y2 y3
   unfold laganref04_CheckBoard.l0
   repeat' first
   | (with_reducible exact ih0 _ _ _ _)
   | (with_reducible exact ih1 _ _ _ _)
   | (with_reducible exact ih2 _ _ _ _)
   | (with_reducible exact ih3 _ _ _ _ _ _ _ _)
   | (with_reducible exact ih4 _ _ _ _)
   | (with_reducible exact laganref04_ascending.mono _ _ _)
   | (with_reducible exact LeO.refl _)
   | (with_reducible exact LeO.none _)
   | (with_reducible refine LeO.ite ?_ ?_)
   | (with_reducible refine LeO.bind ?_ (fun _ => ?_))
   | exact ih0 _ _ _ _
   | exact ih1 _ _ _ _
   | exact ih2 _ _ _ _
   | exact ih3 _ _ _ _ _ _ _ _
   | exact ih4 _ _ _ _
   | exact laganref04_ascending.mono _ _ _
   | exact LeO.none _
   | refine LeO.ite ?_ ?_
   | refine LeO.bind ?_ (fun _ => ?_)
  ·
   intro y0 y1 y2 y3
   unfold laganref04_CheckBoard.l1
   repeat' first
   | (with_reducible exact ih0 _ _ _ _)
   | (with_reducible exact ih1 _ _ _ _)
   | (with_reducible exact ih2 _ _ _ _)
   | (with_reducible exact ih3 _ _ _ _ _ _ _ _)
   | (with_reducible exact ih4 _ _ _ _)
   | (with_reducible exact laganref04_ascending.mono _ _ _)
   | (with_reducible exact LeO.refl _)
   | (with_reducible exact LeO.none _)
   | (with_reducible refine LeO.ite ?_ ?_)
   | (with_reducible refine LeO.bind ?_ (fun _ => ?_))
   | exact ih0 _ _ _ _
   | exact ih1 _ _ _ _
   | exact ih2 _ _ _ _
   | exact ih3 _ _ _ _ _ _ _ _
   | exact ih4 _ _ _ _
   | exact laganref04_ascending.mono _ _ _
   | exact LeO.none _
   | refine LeO.ite ?_ ?_
   | refine LeO.bind ?_ (fun _ => ?_)
  ·
   intro y0 y1 y2 y3 y4 y5 y6 y7
   unfold laganref04_CheckBoard.j3
   repeat' first
   | (with_reducible exact ih0 _ _ _ _)
   | (with_reducible exact ih1 _ _ _ _)
   | (with_reducible exact ih2 _ _ _ _)
   | (with_reducible exact ih3 _ _ _ _ _ _ _ _)
   | (with_reducible exact ih4 _ _ _ _)
   | (with_reducible exact laganref04_ascending.mono _ _ _)
   | (with_reducible exact LeO.refl _)
   | (with_reducible exact LeO.none _)
   | (with_reducible refine LeO.ite ?_ ?_)
   | (with_reducible refine LeO.bind ?_ (fun _ => ?_))
   | exact ih0 _ _ _ _
   | exact ih1 _ _ _ _
   | exact ih2 _ _ _ _
   | exact ih3 _ _ _ _ _ _ _ _
   | exact ih4 _ _ _ _
   | exact laganref04_ascending.mono _ _ _
   | exact LeO.none _
   | refine LeO.ite ?_ ?_
   | refine LeO.bind ?_ (fun _ => ?_)
  ·
   intro y0 y1 y2 y3
   unfold laganref04_CheckBoard.l2
   repeat' first
   | (with_reducible exact ih0 _ _ _ _)
   | (with_reducible exact ih1 _ _ _ _)
   | (with_reducible exact ih2 _ _ _ _)
   | (with_reducible exact ih3 _ _ _ _ _ _ _ _)
   | (with_reducible exact ih4 _ _ _ _)
   | (with_reducible exact laganref04_ascending.mono _ _ _)
   | (with_reducible exact LeO.refl _)
   | (with_reducible exact LeO.none _)
   | (with_reducible refine LeO.ite ?_ ?_)
   | (with_reducible refine LeO.bind ?_ (fun _ => ?_))
   | exact ih0 _ _ _ _
   | exact ih1 _ _ _ _
   | exact ih2 _ _ _ _
   | exact ih3 _ _ _ _ _ _ _ _
   | exact ih4 _ _ _ _
   | exact laganref04_ascending.mono _ _ _
   | exact LeO.none _
   | refine LeO.ite ?_ ?_
   | refine LeO.bind ?_ (fun _ => ?_)
theorem laganref04_CheckBoard.mono : ∀ a0 a1 a2 k, LeO (laganref04_CheckBoard.f k a0 a1 a2) (laganref04_CheckBoard.f (k + 1) a0 a1 a2) := by
 intro a0 a1 a2 k
 obtain ⟨ih0, ih1, ih2, ih3, ih4⟩ := laganref04_CheckBoard.mono_l k
 unfold laganref04_CheckBoard.f
 repeat' first
   | (with_reducible exact ih0 _ _ _ _)
   | (with_reducible exact ih1 _ _ _ _)
   | (with_reducible exact ih2 _ _ _ _)
   | (with_reducible exact ih3 _ _ _ _ _ _ _ _)
   | (with_reducible exact ih4 _ _ _ _)
   | (with_reducible exact laganref04_ascending.mono _ _ _)
   | (with_reducible exact LeO.refl _)
   | (with_reducible exact LeO.none _)
   | (with_reducible refine LeO.ite ?_ ?_)
   | (with_reducible refine LeO.bind ?_ (fun _ => ?_))
   | exact ih0 _ _ _ _
   | exact ih1 _ _ _ _
   | exact ih2 _ _ _ _
   | exact ih3 _ _ _ _ _ _ _ _
   | exact ih4 _ _ _ _
   | exact laganref04_ascending.mono _ _ _
   | exact LeO.none _
   | refine LeO.ite ?_ ?_
   | refine LeO.bind ?_ (fun _ => ?_)
set_option maxHeartbeats 8000000 in
set_option maxRecDepth 100000 in
theorem laganref04_CheckBoard.calls (k : Nat) (A0_0 : Option Addr) (c0_0 : Nat) (l0_0 : List Int) (A0_1 : Option Addr) (c0_1 : Nat) (l0_1 : List (S50)) (A0_2 : Option Addr) (c0_2 : Nat) (l0_2 : List (List Int)) (r : Int) (w : World) (hr0_0 : Kd.C (Kd.int .i64) w A0_0 l0_0.length l0_0) (hc0_0 : l0_0.length ≤ c0_0) (hr0_1 : Kd.C k50 w A0_1 l0_1.length l0_1) (hc0_1 : l0_1.length ≤ c0_1) (hr0_2 : Kd.C (Kd.slice 3 (Kd.int .i64)) w A0_2 l0_2.length l0_2) (hc0_2 : l0_2.length ≤ c0_2) (h : laganref04_CheckBoard.f k l0_0 l0_1 l0_2 = some r) :
  Calls Try.prog 19 #[.agg #[.slice A0_0 l0_0.length c0_0, .slice A0_1 l0_1.length c0_1, .slice A0_2 l0_2.length c0_2]] w fun e w' => e = .returned (.int .i64 r) ∧ Below w.heap.size w w' := by
 have hu26 := Try.underlying26
 have hu50 := Try.underlying50
 have HR0_0 := Aside0.mk hr0_0
 have HC0_0 := Aside0.mk hc0_0
 clear hr0_0 hc0_0
 have HR0_1 := Aside0.mk hr0_1
 have HC0_1 := Aside0.mk hc0_1
 clear hr0_1 hc0_1
 have HR0_2 := Aside0.mk hr0_2
 have HC0_2 := Aside0.mk hc0_2
 clear hr0_2 hc0_2
 have HB := Aside0.mk (Below.refl w.heap.size w)
 have H : (if (l0_0.length : Int) > 60 then (laganref04_CheckBoard.j0 k true l0_0 l0_1 l0_2) else (laganref04_CheckBoard.j0 k (decide ((l0_1.length : Int) > 200)) l0_0 l0_1 l0_2)) = some r := h
 clear h
 have HC2 := Aside0.mk H
 clear H
 go_enter Try.func19, Try.ntmps19
 go_upto_region 1 with (first | ((with_reducible refine gate_dst (N := 1) rfl ?_); (try (refine gate_guard (by rfl) ?_; dsimp only)); refine box_event ?hg (N := 1) ?hd (cs := #[.slice A0_0 l0_0.length c0_0, .slice A0_1 l0_1.length c0_1, .slice A0_2 l0_2.length c0_2]) (t := 26) ?hr ?_; (case hd => rfl); (case hg => rfl); (case hr => first | (go_simp; done) | (go_simp; rfl)); intro gb132 hg w3 hbox hb; have n0_ := Aside0.mk (below_step (by repeat (first | (with_reducible first | exact HB.out | apply below_alloc | apply pw_below_drewN | apply below_drew1) | exact HB.out)) hb); have n1_ := Aside0.mk (hbox); have n2_ := Aside0.mk ((by rw [hg]; exact (below_size (by repeat (first | (with_reducible first | exact HB.out | apply below_alloc | apply pw_below_drewN | apply below_drew1) | exact HB.out))) : w.heap.size ≤ gb132)); have n3_ := Aside0.mk ((by rw [hg]; exact (below_size (by repeat (first | (with_reducible first | exact HB.out | apply below_alloc | apply pw_below_drewN | apply below_drew1) | exact HB.out))) : w.heap.size ≤ gb132)); clear HB; have HB := n0_; have BK132 := n1_; have GW132 := n2_; have GE132 := n3_; clear n0_ n1_ n2_ n3_; clear hb hbox hg))
 repeat (go_quiet (first | ((with_reducible refine gate_dst (N := 1) rfl ?_); (try (refine gate_guard (by rfl) ?_; dsimp only)); refine box_event ?hg (N := 1) ?hd (cs := #[.slice A0_0 l0_0.length c0_0, .slice A0_1 l0_1.length c0_1, .slice A0_2 l0_2.length c0_2]) (t := 26) ?hr ?_; (case hd => rfl); (case hg => rfl); (case hr => first | (go_simp; done) | (go_simp; rfl)); intro gb132 hg w3 hbox hb; have n0_ := Aside0.mk (below_step (by repeat (first | (with_reducible first | exact HB.out | apply below_alloc | apply pw_below_drewN | apply below_drew1) | exact HB.out)) hb); have n1_ := Aside0.mk (hbox); have n2_ := Aside0.mk ((by rw [hg]; exact (below_size (by repeat (first | (with_reducible first | exact HB.out | apply below_alloc | apply pw_below_drewN | apply below_drew1) | exact HB.out))) : w.heap.size ≤ gb132)); have n3_ := Aside0.mk ((by rw [hg]; exact (below_size (by repeat (first | (with_reducible first | exact HB.out | apply below_alloc | apply pw_below_drewN | apply below_drew1) | exact HB.out))) : w.heap.size ≤ gb132)); clear HB; have HB := n0_; have BK132 := n1_; have GW132 := n2_; have GE132 := n3_; clear n0_ n1_ n2_ n3_; clear hb hbox hg)); go_upto_region 1 with (first | ((with_reducible refine gate_dst (N := 1) rfl ?_); (try (refine gate_guard (by rfl) ?_; dsimp only)); refine box_event ?hg (N := 1) ?hd (cs := #[.slice A0_0 l0_0.length c0_0, .slice A0_1 l0_1.length c0_1, .slice A0_2 l0_2.length c0_2]) (t := 26) ?hr ?_; (case hd => rfl); (case hg => rfl); (case hr => first | (go_simp; done) | (go_simp; rfl)); intro gb132 hg w3 hbox hb; have n0_ := Aside0.mk (below_step (by repeat (first | (with_reducible first | exact HB.out | apply below_alloc | apply pw_below_drewN | apply below_drew1) | exact HB.out)) hb); have n1_ := Aside0.mk (hbox); have n2_ := Aside0.mk ((by rw [hg]; exact (below_size (by repeat (first | (with_reducible first | exact HB.out | apply below_alloc | apply pw_below_drewN | apply below_drew1) | exact HB.out))) : w.heap.size ≤ gb132)); have n3_ := Aside0.mk ((by rw [hg]; exact (below_size (by repeat (first | (with_reducible first | exact HB.out | apply below_alloc | apply pw_below_drewN | apply below_drew1) | exact HB.out))) : w.heap.size ≤ gb132)); clear HB; have HB := n0_; have BK132 := n1_; have GW132 := n2_; have GE132 := n3_; clear n0_ n1_ n2_ n3_; clear hb hbox hg)))
 (try simp only [Act.put, List.setIfInBounds_toArray, List.set_cons_zero, List.set_cons_succ])
 go_cut [16] (fun v16 wc => ∃ (kq : Nat) (x16_1 : Bool), v16 = .bool x16_1 ∧ Aside0 (laganref04_CheckBoard.j0 kq x16_1 l0_0 l0_1 l0_2 = some r) ∧ Aside0 (kq ≤ k) ∧ Aside0 (wc.heap[gb132]? = some (.cells #[(.slice A0_0 l0_0.length c0_0), (.slice A0_1 l0_1.length c0_1), (.slice A0_2 l0_2.length c0_2)] 26 (0, 0))) ∧ Aside0 (Below w.heap.size w wc))
 case first =>
  have H := HC2.out
  clear HC2
  by_cases c4 : (l0_0.length : Int) > 60
  ·
   rw [if_pos c4] at H
   have c4b0 : decide (60 < (l0_0.length : Int)) = true := decide_eq_true c4
   have c4b1 : decide (60 < l0_0.length) = true := decide_eq_true (by omega)
   clear c4
   (first | rw [c4b0] | (simp only [i64_w, i32_w]; rw [c4b0]) | skip)
   have H' := Aside0.mk H
   clear H
   have hcz5_0 : w3.cell? ⟨gb132, 0, none⟩ = some (.slice A0_0 l0_0.length c0_0) := (blk_cell BK132.out 0).trans rfl
   have hcz5_1 : w3.cell? ⟨gb132, 1, none⟩ = some (.slice A0_1 l0_1.length c0_1) := (blk_cell BK132.out 1).trans rfl
   have hcz5_2 : w3.cell? ⟨gb132, 2, none⟩ = some (.slice A0_2 l0_2.length c0_2) := (blk_cell BK132.out 2).trans rfl
   have hfz5_0 := blk_frozen BK132.out 0
   have hfz5_1 := blk_frozen BK132.out 1
   have hfz5_2 := blk_frozen BK132.out 2
   go_wp2
   repeat (go_quiet (fail); try go_wp2)
   go_meet
   case rel => exact ⟨_, (true), (by first | rfl | (simp; done) | (simp [*]; done)), H', ⟨by first | omega | exact Nat.le_refl _⟩, ⟨by (with_reducible repeat (first | refine blk_drewN ?_ _ | refine blk_drew ?_ | refine blk_alloc ?_ _)); exact BK132.out⟩, ⟨by repeat (first | (with_reducible first | exact HB.out | apply below_alloc | apply pw_below_drewN | apply below_drew1 | refine below_set ?_ GE132.out) | exact HB.out)⟩⟩
  ·
   rw [if_neg c4] at H
   have c4b0 : decide (60 < (l0_0.length : Int)) = false := decide_eq_false c4
   have c4b1 : decide (60 < l0_0.length) = false := decide_eq_false (by omega)
   clear c4
   (first | rw [c4b0] | (simp only [i64_w, i32_w]; rw [c4b0]) | skip)
   have H' := Aside0.mk H
   clear H
   have hcz6_0 : w3.cell? ⟨gb132, 0, none⟩ = some (.slice A0_0 l0_0.length c0_0) := (blk_cell BK132.out 0).trans rfl
   have hcz6_1 : w3.cell? ⟨gb132, 1, none⟩ = some (.slice A0_1 l0_1.length c0_1) := (blk_cell BK132.out 1).trans rfl
   have hcz6_2 : w3.cell? ⟨gb132, 2, none⟩ = some (.slice A0_2 l0_2.length c0_2) := (blk_cell BK132.out 2).trans rfl
   have hfz6_0 := blk_frozen BK132.out 0
   have hfz6_1 := blk_frozen BK132.out 1
   have hfz6_2 := blk_frozen BK132.out 2
   go_wp2
   repeat (go_quiet (fail); try go_wp2)
   go_meet
   case rel => exact ⟨_, (decide ((l0_1.length : Int) > 200)), (by first | rfl | (simp; done) | (simp [*]; done)), H', ⟨by first | omega | exact Nat.le_refl _⟩, ⟨by (with_reducible repeat (first | refine blk_drewN ?_ _ | refine blk_drew ?_ | refine blk_alloc ?_ _)); exact BK132.out⟩, ⟨by repeat (first | (with_reducible first | exact HB.out | apply below_alloc | apply pw_below_drewN | apply below_drew1 | refine below_set ?_ GE132.out) | exact HB.out)⟩⟩
 case rest =>
  clear HC2
  try clear c1
  try clear p2
  try clear c4
  try clear c4b0
  try clear c4b1
  try clear hcz5_0
  try clear hcz5_1
  try clear hcz5_2
  try clear hcz6_0
  try clear hcz6_1
  try clear hcz6_2
  try clear hfz5_0
  try clear hfz5_1
  try clear hfz5_2
  try clear hfz6_0
  try clear hfz6_1
  try clear hfz6_2
  obtain ⟨kq, x16_1, rfl, HA, HJ1, BK132, HB⟩ := hcut
  cases kq with
  | zero => exact absurd HA.out (by simp [laganref04_CheckBoard.j0])
  | succ kj1 =>
   have H := HA.out
   clear HA
   simp only [laganref04_CheckBoard.j0] at H
   by_cases c7 : x16_1 = true
   ·
    subst c7
    have H1 : (some 2) = some r := by rw [if_pos rfl] at H; exact H
    clear H
    have H := H1
    clear H1
    obtain rfl := Option.some.inj H
    go_wp2
    repeat (go_quiet (fail); try go_wp2)
    go_ret
    exact ⟨by first | rfl | (simp [errW_none, errW_some] <;> rfl) | (simp [*, errW_none, errW_some] <;> rfl), by repeat (first | (with_reducible first | exact HB.out | apply below_alloc | apply pw_below_drewN | apply below_drew1 | refine below_set ?_ GE132.out) | exact HB.out)⟩
   ·
    replace c7 := Bool.eq_false_iff.mpr c7
    subst c7
    have H1 : (laganref04_CheckBoard.l0 kj1 0 l0_0 l0_1 l0_2) = some r := by rw [if_neg (show ¬ (false = true) by decide)] at H; exact H
    clear H
    have H := H1
    clear H1
    have H' := Aside0.mk H
    clear H
    go_wp2
    repeat (go_quiet (fail); try go_wp2)
    go_loopg [3] kj1 (fun kq v3 w' => ∃ (x3_2 : Int), v3 = .int .i64 x3_2 ∧ Aside0 (laganref04_CheckBoard.l0 kq x3_2 l0_0 l0_1 l0_2 = some r) ∧ Aside0 (kq ≤ kj1) ∧ Aside0 (w'.heap[gb132]? = some (.cells #[(.slice A0_0 l0_0.length c0_0), (.slice A0_1 l0_1.length c0_1), (.slice A0_2 l0_2.length c0_2)] 26 (0, 0))) ∧ Aside0 (Below w.heap.size w w'))
    case atStart => exact ⟨(0), (by first | rfl | (simp; done) | (simp [*]; done)), H', ⟨Nat.le_refl _⟩, ⟨by (with_reducible repeat (first | refine blk_drewN ?_ _ | refine blk_drew ?_ | refine blk_alloc ?_ _)); exact BK132.out⟩, ⟨by repeat (first | (with_reducible first | exact HB.out | apply below_alloc | apply pw_below_drewN | apply below_drew1 | refine below_set ?_ GE132.out) | exact HB.out)⟩⟩
    case round =>
     clear H'
     try clear c1
     try clear p2
     try clear c4
     try clear c4b0
     try clear c4b1
     try clear c7
     try clear hcz5_0
     try clear hcz5_1
     try clear hcz5_2
     try clear hcz6_0
     try clear hcz6_1
     try clear hcz6_2
     try clear hfz5_0
     try clear hfz5_1
     try clear hfz5_2
     try clear hfz6_0
     try clear hfz6_1
     try clear hfz6_2
     try clear p2
     obtain ⟨x3_2, rfl, HA, HK2, BK132, HB⟩ := hrel
     cases gk with
     | zero => exact absurd HA.out (by simp [laganref04_CheckBoard.l0])
     | succ k2 =>
      have H := HA.out
      clear HA
      simp only [laganref04_CheckBoard.l0] at H
      by_cases c8 : x3_2 < (l0_0.length : Int)
      ·
       rw [if_pos c8] at H
       have c8b0 : decide (x3_2 < (l0_0.length : Int)) = true := decide_eq_true c8
       clear c8
       by_cases c9 : 0 ≤ x3_2
       ·
        rw [if_pos c9] at H
        have c9b0 : decide (0 ≤ x3_2) = true := decide_eq_true c9
        clear c9
        by_cases c10 : (rd l0_0 x3_2) < 10
        ·
         rw [if_pos c10] at H
         have c10b0 : decide ((rd l0_0 x3_2) < 10) = true := decide_eq_true c10
         clear c10
         obtain rfl := Option.some.inj H
         have hcz11_0 : wr.cell? ⟨gb132, 0, none⟩ = some (.slice A0_0 l0_0.length c0_0) := (blk_cell BK132.out 0).trans rfl
         have hcz11_1 : wr.cell? ⟨gb132, 1, none⟩ = some (.slice A0_1 l0_1.length c0_1) := (blk_cell BK132.out 1).trans rfl
         have hcz11_2 : wr.cell? ⟨gb132, 2, none⟩ = some (.slice A0_2 l0_2.length c0_2) := (blk_cell BK132.out 2).trans rfl
         have hfz11_0 := blk_frozen BK132.out 0
         have hfz11_1 := blk_frozen BK132.out 1
         have hfz11_2 := blk_frozen BK132.out 2
         have p133 : 0 ≤ (x3_2 : Int) := of_decide_eq_true (by first | (with_reducible assumption) | assumption)
         have q133 : x3_2 < (l0_0.length : Int) := of_decide_eq_true (by first | (with_reducible assumption) | assumption)
         obtain ⟨ad133, e133, hx133_0⟩ := Kd.at_int HR0_0.out x3_2 p133 q133
         cases e133
         replace hx133_0 := (HB.out.cell (World.block_lt_of_cell? w _ hx133_0)).trans hx133_0
         replace p133 := eq_true p133
         replace q133 := eq_true q133
         go_wp2
         repeat (go_quiet (fail); try go_wp2)
         go_ret
         exact ⟨by first | rfl | (simp [errW_none, errW_some] <;> rfl) | (simp [*, errW_none, errW_some] <;> rfl), by repeat (first | (with_reducible first | exact HB.out | apply below_alloc | apply pw_below_drewN | apply below_drew1 | refine below_set ?_ GE132.out) | exact HB.out)⟩
        ·
         rw [if_neg c10] at H
         have c10b0 : decide ((rd l0_0 x3_2) < 10) = false := decide_eq_false c10
         clear c10
         by_cases c12 : (rd l0_0 x3_2) > 10000007
         ·
          rw [if_pos c12] at H
          have c12b0 : decide (10000007 < (rd l0_0 x3_2)) = true := decide_eq_true c12
          clear c12
          obtain rfl := Option.some.inj H
          have hcz13_0 : wr.cell? ⟨gb132, 0, none⟩ = some (.slice A0_0 l0_0.length c0_0) := (blk_cell BK132.out 0).trans rfl
          have hcz13_1 : wr.cell? ⟨gb132, 1, none⟩ = some (.slice A0_1 l0_1.length c0_1) := (blk_cell BK132.out 1).trans rfl
          have hcz13_2 : wr.cell? ⟨gb132, 2, none⟩ = some (.slice A0_2 l0_2.length c0_2) := (blk_cell BK132.out 2).trans rfl
          have hfz13_0 := blk_frozen BK132.out 0
          have hfz13_1 := blk_frozen BK132.out 1
          have hfz13_2 := blk_frozen BK132.out 2
          have p133 : 0 ≤ (x3_2 : Int) := of_decide_eq_true (by first | (with_reducible assumption) | assumption)
          have q133 : x3_2 < (l0_0.length : Int) := of_decide_eq_true (by first | (with_reducible assumption) | assumption)
          obtain ⟨ad133, e133, hx133_0⟩ := Kd.at_int HR0_0.out x3_2 p133 q133
          cases e133
          replace hx133_0 := (HB.out.cell (World.block_lt_of_cell? w _ hx133_0)).trans hx133_0
          replace p133 := eq_true p133
          replace q133 := eq_true q133
          have p134 : 0 ≤ (x3_2 : Int) := of_decide_eq_true (by first | (with_reducible assumption) | assumption)
          have q134 : x3_2 < (l0_0.length : Int) := of_decide_eq_true (by first | (with_reducible assumption) | assumption)
          obtain ⟨ad134, e134, hx134_0⟩ := Kd.at_int HR0_0.out x3_2 p134 q134
          obtain rfl : ad133 = ad134 := (by injection e134)
          replace hx134_0 := (HB.out.cell (World.block_lt_of_cell? w _ hx134_0)).trans hx134_0
          replace p134 := eq_true p134
          replace q134 := eq_true q134
          go_wp2
          repeat (go_quiet (fail); try go_wp2)
          go_ret
          exact ⟨by first | rfl | (simp [errW_none, errW_some] <;> rfl) | (simp [*, errW_none, errW_some] <;> rfl), by repeat (first | (with_reducible first | exact HB.out | apply below_alloc | apply pw_below_drewN | apply below_drew1 | refine below_set ?_ GE132.out) | exact HB.out)⟩
         ·
          rw [if_neg c12] at H
          have c12b0 : decide (10000007 < (rd l0_0 x3_2)) = false := decide_eq_false c12
          clear c12
          by_cases c14 : x3_2 > 0
          ·
           rw [if_pos c14] at H
           have c14b0 : decide (0 < x3_2) = true := decide_eq_true c14
           clear c14
           obtain ⟨ji15, hji15⟩ : ∃ j_ : Int, (wrap64 (x3_2 - 1)) = j_ := ⟨_, rfl⟩
           replace H : (if 0 ≤ (ji15) then (if (ji15) < (l0_0.length : Int) then (if (rd l0_0 x3_2) ≤ (rd l0_0 (ji15)) then (some 1) else (laganref04_CheckBoard.l0 k2 (wrap64 (x3_2 + 1)) l0_0 l0_1 l0_2)) else (none)) else (none)) = some r := by first | (rw [hji15] at H; exact H) | (simp only [hji15] at H ⊢; exact H)
           have hji15w : (IntKind.i64.wrap (x3_2 - 1)) = ji15 := (i64_w _).trans hji15
           by_cases c16 : 0 ≤ (ji15)
           ·
            rw [if_pos c16] at H
            have c16b0 : decide (0 ≤ (ji15)) = true := decide_eq_true c16
            clear c16
            by_cases c17 : (ji15) < (l0_0.length : Int)
            ·
             rw [if_pos c17] at H
             have c17b0 : decide ((ji15) < (l0_0.length : Int)) = true := decide_eq_true c17
             clear c17
             by_cases c18 : (rd l0_0 x3_2) ≤ (rd l0_0 (ji15))
             ·
              rw [if_pos c18] at H
              have c18b0 : decide ((rd l0_0 x3_2) ≤ (rd l0_0 (ji15))) = true := decide_eq_true c18
              clear c18
              obtain rfl := Option.some.inj H
              have hcz19_0 : wr.cell? ⟨gb132, 0, none⟩ = some (.slice A0_0 l0_0.length c0_0) := (blk_cell BK132.out 0).trans rfl
              have hcz19_1 : wr.cell? ⟨gb132, 1, none⟩ = some (.slice A0_1 l0_1.length c0_1) := (blk_cell BK132.out 1).trans rfl
              have hcz19_2 : wr.cell? ⟨gb132, 2, none⟩ = some (.slice A0_2 l0_2.length c0_2) := (blk_cell BK132.out 2).trans rfl
              have hfz19_0 := blk_frozen BK132.out 0
              have hfz19_1 := blk_frozen BK132.out 1
              have hfz19_2 := blk_frozen BK132.out 2
              have p133 : 0 ≤ (x3_2 : Int) := of_decide_eq_true (by first | (with_reducible assumption) | assumption)
              have q133 : x3_2 < (l0_0.length : Int) := of_decide_eq_true (by first | (with_reducible assumption) | assumption)
              obtain ⟨ad133, e133, hx133_0⟩ := Kd.at_int HR0_0.out x3_2 p133 q133
              cases e133
              replace hx133_0 := (HB.out.cell (World.block_lt_of_cell? w _ hx133_0)).trans hx133_0
              replace p133 := eq_true p133
              replace q133 := eq_true q133
              have p134 : 0 ≤ (x3_2 : Int) := of_decide_eq_true (by first | (with_reducible assumption) | assumption)
              have q134 : x3_2 < (l0_0.length : Int) := of_decide_eq_true (by first | (with_reducible assumption) | assumption)
              obtain ⟨ad134, e134, hx134_0⟩ := Kd.at_int HR0_0.out x3_2 p134 q134
              obtain rfl : ad133 = ad134 := (by injection e134)
              replace hx134_0 := (HB.out.cell (World.block_lt_of_cell? w _ hx134_0)).trans hx134_0
              replace p134 := eq_true p134
              replace q134 := eq_true q134
              have p135 : 0 ≤ (x3_2 : Int) := of_decide_eq_true (by first | (with_reducible assumption) | assumption)
              have q135 : x3_2 < (l0_0.length : Int) := of_decide_eq_true (by first | (with_reducible assumption) | assumption)
              obtain ⟨ad135, e135, hx135_0⟩ := Kd.at_int HR0_0.out x3_2 p135 q135
              obtain rfl : ad133 = ad135 := (by injection e135)
              replace hx135_0 := (HB.out.cell (World.block_lt_of_cell? w _ hx135_0)).trans hx135_0
              replace p135 := eq_true p135
              replace q135 := eq_true q135
              have p136 : 0 ≤ ((ji15) : Int) := of_decide_eq_true (by first | (with_reducible assumption) | assumption)
              have q136 : (ji15) < (l0_0.length : Int) := of_decide_eq_true (by first | (with_reducible assumption) | assumption)
              obtain ⟨ad136, e136, hx136_0⟩ := Kd.at_int HR0_0.out (ji15) p136 q136
              obtain rfl : ad133 = ad136 := (by injection e136)
              replace hx136_0 := (HB.out.cell (World.block_lt_of_cell? w _ hx136_0)).trans hx136_0
              replace p136 := eq_true p136
              replace q136 := eq_true q136
              go_wp2
              repeat (go_quiet (fail); try go_wp2)
              go_ret
              exact ⟨by first | rfl | (simp [errW_none, errW_some] <;> rfl) | (simp only [← hji15]; first | rfl | (simp [errW_none, errW_some] <;> rfl)) | (simp [*, errW_none, errW_some] <;> rfl), by repeat (first | (with_reducible first | exact HB.out | apply below_alloc | apply pw_below_drewN | apply below_drew1 | refine below_set ?_ GE132.out) | exact HB.out)⟩
             ·
              rw [if_neg c18] at H
              have c18b0 : decide ((rd l0_0 x3_2) ≤ (rd l0_0 (ji15))) = false := decide_eq_false c18
              clear c18
              have H' := Aside0.mk H
              clear H
              have hcz20_0 : wr.cell? ⟨gb132, 0, none⟩ = some (.slice A0_0 l0_0.length c0_0) := (blk_cell BK132.out 0).trans rfl
              have hcz20_1 : wr.cell? ⟨gb132, 1, none⟩ = some (.slice A0_1 l0_1.length c0_1) := (blk_cell BK132.out 1).trans rfl
              have hcz20_2 : wr.cell? ⟨gb132, 2, none⟩ = some (.slice A0_2 l0_2.length c0_2) := (blk_cell BK132.out 2).trans rfl
              have hfz20_0 := blk_frozen BK132.out 0
              have hfz20_1 := blk_frozen BK132.out 1
              have hfz20_2 := blk_frozen BK132.out 2
              have p133 : 0 ≤ (x3_2 : Int) := of_decide_eq_true (by first | (with_reducible assumption) | assumption)
              have q133 : x3_2 < (l0_0.length : Int) := of_decide_eq_true (by first | (with_reducible assumption) | assumption)
              obtain ⟨ad133, e133, hx133_0⟩ := Kd.at_int HR0_0.out x3_2 p133 q133
              cases e133
              replace hx133_0 := (HB.out.cell (World.block_lt_of_cell? w _ hx133_0)).trans hx133_0
              replace p133 := eq_true p133
              replace q133 := eq_true q133
              have p134 : 0 ≤ (x3_2 : Int) := of_decide_eq_true (by first | (with_reducible assumption) | assumption)
              have q134 : x3_2 < (l0_0.length : Int) := of_decide_eq_true (by first | (with_reducible assumption) | assumption)
              obtain ⟨ad134, e134, hx134_0⟩ := Kd.at_int HR0_0.out x3_2 p134 q134
              obtain rfl : ad133 = ad134 := (by injection e134)
              replace hx134_0 := (HB.out.cell (World.block_lt_of_cell? w _ hx134_0)).trans hx134_0
              replace p134 := eq_true p134
              replace q134 := eq_true q134
              have p135 : 0 ≤ (x3_2 : Int) := of_decide_eq_true (by first | (with_reducible assumption) | assumption)
              have q135 : x3_2 < (l0_0.length : Int) := of_decide_eq_true (by first | (with_reducible assumption) | assumption)
              obtain ⟨ad135, e135, hx135_0⟩ := Kd.at_int HR0_0.out x3_2 p135 q135
              obtain rfl : ad133 = ad135 := (by injection e135)
              replace hx135_0 := (HB.out.cell (World.block_lt_of_cell? w _ hx135_0)).trans hx135_0
              replace p135 := eq_true p135
              replace q135 := eq_true q135
              have p136 : 0 ≤ ((ji15) : Int) := of_decide_eq_true (by first | (with_reducible assumption) | assumption)
              have q136 : (ji15) < (l0_0.length : Int) := of_decide_eq_true (by first | (with_reducible assumption) | assumption)
              obtain ⟨ad136, e136, hx136_0⟩ := Kd.at_int HR0_0.out (ji15) p136 q136
              obtain rfl : ad133 = ad136 := (by injection e136)
              replace hx136_0 := (HB.out.cell (World.block_lt_of_cell? w _ hx136_0)).trans hx136_0
              replace p136 := eq_true p136
              replace q136 := eq_true q136
              go_wp2
              repeat (go_quiet (fail); try go_wp2)
              go_roundg k2
              case measure => have := HJ1.out; have := HK2.out; omega
              case rel => exact ⟨(wrap64 (x3_2 + 1)), (by first | rfl | (simp; done) | (simp [*]; done)), H', ⟨by have := HJ1.out; have := HK2.out; omega⟩, ⟨by (with_reducible repeat (first | refine blk_drewN ?_ _ | refine blk_drew ?_ | refine blk_alloc ?_ _)); exact BK132.out⟩, ⟨by repeat (first | (with_reducible first | exact HB.out | apply below_alloc | apply pw_below_drewN | apply below_drew1 | refine below_set ?_ GE132.out) | exact HB.out)⟩⟩
            ·
             rw [if_neg c17] at H
             exact absurd H (by simp)
           ·
            rw [if_neg c16] at H
            exact absurd H (by simp)
          ·
           rw [if_neg c14] at H
           have c14b0 : decide (0 < x3_2) = false := decide_eq_false c14
           clear c14
           have H' := Aside0.mk H
           clear H
           have hcz21_0 : wr.cell? ⟨gb132, 0, none⟩ = some (.slice A0_0 l0_0.length c0_0) := (blk_cell BK132.out 0).trans rfl
           have hcz21_1 : wr.cell? ⟨gb132, 1, none⟩ = some (.slice A0_1 l0_1.length c0_1) := (blk_cell BK132.out 1).trans rfl
           have hcz21_2 : wr.cell? ⟨gb132, 2, none⟩ = some (.slice A0_2 l0_2.length c0_2) := (blk_cell BK132.out 2).trans rfl
           have hfz21_0 := blk_frozen BK132.out 0
           have hfz21_1 := blk_frozen BK132.out 1
           have hfz21_2 := blk_frozen BK132.out 2
           have p133 : 0 ≤ (x3_2 : Int) := of_decide_eq_true (by first | (with_reducible assumption) | assumption)
           have q133 : x3_2 < (l0_0.length : Int) := of_decide_eq_true (by first | (with_reducible assumption) | assumption)
           obtain ⟨ad133, e133, hx133_0⟩ := Kd.at_int HR0_0.out x3_2 p133 q133
           cases e133
           replace hx133_0 := (HB.out.cell (World.block_lt_of_cell? w _ hx133_0)).trans hx133_0
           replace p133 := eq_true p133
           replace q133 := eq_true q133
           have p134 : 0 ≤ (x3_2 : Int) := of_decide_eq_true (by first | (with_reducible assumption) | assumption)
           have q134 : x3_2 < (l0_0.length : Int) := of_decide_eq_true (by first | (with_reducible assumption) | assumption)
           obtain ⟨ad134, e134, hx134_0⟩ := Kd.at_int HR0_0.out x3_2 p134 q134
           obtain rfl : ad133 = ad134 := (by injection e134)
           replace hx134_0 := (HB.out.cell (World.block_lt_of_cell? w _ hx134_0)).trans hx134_0
           replace p134 := eq_true p134
           replace q134 := eq_true q134
           go_wp2
           repeat (go_quiet (fail); try go_wp2)
           go_roundg k2
           case measure => have := HJ1.out; have := HK2.out; omega
           case rel => exact ⟨(wrap64 (x3_2 + 1)), (by first | rfl | (simp; done) | (simp [*]; done)), H', ⟨by have := HJ1.out; have := HK2.out; omega⟩, ⟨by (with_reducible repeat (first | refine blk_drewN ?_ _ | refine blk_drew ?_ | refine blk_alloc ?_ _)); exact BK132.out⟩, ⟨by repeat (first | (with_reducible first | exact HB.out | apply below_alloc | apply pw_below_drewN | apply below_drew1 | refine below_set ?_ GE132.out) | exact HB.out)⟩⟩
       ·
        rw [if_neg c9] at H
        exact absurd H (by simp)
      ·
       rw [if_neg c8] at H
       have c8b0 : decide (x3_2 < (l0_0.length : Int)) = false := decide_eq_false c8
       clear c8
       have H' := Aside0.mk H
       clear H
       have hcz22_0 : wr.cell? ⟨gb132, 0, none⟩ = some (.slice A0_0 l0_0.length c0_0) := (blk_cell BK132.out 0).trans rfl
       have hcz22_1 : wr.cell? ⟨gb132, 1, none⟩ = some (.slice A0_1 l0_1.length c0_1) := (blk_cell BK132.out 1).trans rfl
       have hcz22_2 : wr.cell? ⟨gb132, 2, none⟩ = some (.slice A0_2 l0_2.length c0_2) := (blk_cell BK132.out 2).trans rfl
       have hfz22_0 := blk_frozen BK132.out 0
       have hfz22_1 := blk_frozen BK132.out 1
       have hfz22_2 := blk_frozen BK132.out 2
       go_wp2
       repeat (go_quiet (fail); try go_wp2)
       go_loopg [4] k2 (fun kq v4 w' => ∃ (x4_3 : Int), v4 = .int .i64 x4_3 ∧ Aside0 (laganref04_CheckBoard.l1 kq x4_3 l0_0 l0_1 l0_2 = some r) ∧ Aside0 (kq ≤ k2) ∧ Aside0 (w'.heap[gb132]? = some (.cells #[(.slice A0_0 l0_0.length c0_0), (.slice A0_1 l0_1.length c0_1), (.slice A0_2 l0_2.length c0_2)] 26 (0, 0))) ∧ Aside0 (Below w.heap.size w w'))
       case atStart => exact ⟨(0), (by first | rfl | (simp; done) | (simp [*]; done)), H', ⟨Nat.le_refl _⟩, ⟨by (with_reducible repeat (first | refine blk_drewN ?_ _ | refine blk_drew ?_ | refine blk_alloc ?_ _)); exact BK132.out⟩, ⟨by repeat (first | (with_reducible first | exact HB.out | apply below_alloc | apply pw_below_drewN | apply below_drew1 | refine below_set ?_ GE132.out) | exact HB.out)⟩⟩
       case round =>
        clear H'
        try clear c1
        try clear p1
        try clear q1
        try clear hx1
        try clear p2
        try clear c4
        try clear c4b0
        try clear c4b1
        try clear p6
        try clear c7
        try clear c8
        try clear c8b0
        try clear c9
        try clear c9b0
        try clear c10
        try clear c10b0
        try clear c12
        try clear c12b0
        try clear p13
        try clear q13
        try clear hx13
        try clear c14
        try clear c14b0
        try clear c16
        try clear c16b0
        try clear c17
        try clear c17b0
        try clear c18
        try clear c18b0
        try clear c19
        try clear hcz11_0
        try clear hcz11_1
        try clear hcz11_2
        try clear hcz13_0
        try clear hcz13_1
        try clear hcz13_2
        try clear hcz19_0
        try clear hcz19_1
        try clear hcz19_2
        try clear hcz20_0
        try clear hcz20_1
        try clear hcz20_2
        try clear hcz21_0
        try clear hcz21_1
        try clear hcz21_2
        try clear hcz22_0
        try clear hcz22_1
        try clear hcz22_2
        try clear hcz5_0
        try clear hcz5_1
        try clear hcz5_2
        try clear hcz6_0
        try clear hcz6_1
        try clear hcz6_2
        try clear hfz11_0
        try clear hfz11_1
        try clear hfz11_2
        try clear hfz13_0
        try clear hfz13_1
        try clear hfz13_2
        try clear hfz19_0
        try clear hfz19_1
        try clear hfz19_2
        try clear hfz20_0
        try clear hfz20_1
        try clear hfz20_2
        try clear hfz21_0
        try clear hfz21_1
        try clear hfz21_2
        try clear hfz22_0
        try clear hfz22_1
        try clear hfz22_2
        try clear hfz5_0
        try clear hfz5_1
        try clear hfz5_2
        try clear hfz6_0
        try clear hfz6_1
        try clear hfz6_2
        try clear hx133_0
        try clear hx134_0
        try clear hx135_0
        try clear hx136_0
        try clear p133
        try clear p134
        try clear p135
        try clear p136
        try clear p2
        try clear q133
        try clear q134
        try clear q135
        try clear q136
        obtain ⟨x4_3, rfl, HA, HK3, BK132, HB⟩ := hrel
        cases gk with
        | zero => exact absurd HA.out (by simp [laganref04_CheckBoard.l1])
        | succ k3 =>
         have H := HA.out
         clear HA
         simp only [laganref04_CheckBoard.l1] at H
         by_cases c23 : x4_3 < (l0_1.length : Int)
         ·
          rw [if_pos c23] at H
          have c23b0 : decide (x4_3 < (l0_1.length : Int)) = true := decide_eq_true c23
          clear c23
          by_cases c24 : 0 ≤ x4_3
          ·
           rw [if_pos c24] at H
           have c24b0 : decide (0 ≤ x4_3) = true := decide_eq_true c24
           clear c24
           have HC25 := Aside0.mk H
           clear H
           have hcz26_0 : wr.cell? ⟨gb132, 0, none⟩ = some (.slice A0_0 l0_0.length c0_0) := (blk_cell BK132.out 0).trans rfl
           have hcz26_1 : wr.cell? ⟨gb132, 1, none⟩ = some (.slice A0_1 l0_1.length c0_1) := (blk_cell BK132.out 1).trans rfl
           have hcz26_2 : wr.cell? ⟨gb132, 2, none⟩ = some (.slice A0_2 l0_2.length c0_2) := (blk_cell BK132.out 2).trans rfl
           have hfz26_0 := blk_frozen BK132.out 0
           have hfz26_1 := blk_frozen BK132.out 1
           have hfz26_2 := blk_frozen BK132.out 2
           have p137 : 0 ≤ (x4_3 : Int) := of_decide_eq_true (by first | (with_reducible assumption) | assumption)
           have q137 : x4_3 < (l0_1.length : Int) := of_decide_eq_true (by first | (with_reducible assumption) | assumption)
           obtain ⟨ad137, e137, hx137_0, hx137_1, hx137_2⟩ := at_T50 HR0_1.out x4_3 p137 q137
           cases e137
           replace hx137_0 := (HB.out.cell (World.block_lt_of_cell? w _ hx137_0)).trans hx137_0
           replace hx137_1 := (HB.out.cell (World.block_lt_of_cell? w _ hx137_1)).trans hx137_1
           replace hx137_2 := (HB.out.cell (World.block_lt_of_cell? w _ hx137_2)).trans hx137_2
           replace p137 := eq_true p137
           replace q137 := eq_true q137
           go_upto_region 12 with (first | ((with_reducible refine gate_dst (N := 5) rfl ?_); (try (refine gate_guard (by rfl) ?_; dsimp only)); refine box_event ?hg (N := 5) ?hd (cs := #[.int .i64 0, .int .i64 0, .int .i64 0]) (t := 50) ?hr ?_; (case hd => rfl); (case hg => rfl); (case hr => first | (go_simp; done) | (go_simp; rfl)); intro gb138 hg w27 hbox hb; have n0_ := Aside0.mk (blk_below (g := gb132) (o := .cells #[.slice A0_0 l0_0.length c0_0, .slice (some ad137) l0_1.length c0_1, .slice A0_2 l0_2.length c0_2] 26 (0, 0)) (by (with_reducible repeat (first | refine blk_drewN ?_ _ | refine blk_drew ?_ | refine blk_alloc ?_ _)); exact BK132.out) hb); have n1_ := Aside0.mk (below_step (by repeat (first | (with_reducible first | exact HB.out | apply below_alloc | apply pw_below_drewN | apply below_drew1 | refine below_set ?_ GE132.out) | exact HB.out)) hb); have n2_ := Aside0.mk (hbox); have n3_ := Aside0.mk ((by rw [hg]; exact (below_size (by repeat (first | (with_reducible first | exact HB.out | apply below_alloc | apply pw_below_drewN | apply below_drew1 | refine below_set ?_ GE132.out) | exact HB.out))) : w.heap.size ≤ gb138)); have n4_ := Aside0.mk ((by rw [hg]; exact (below_size (by repeat (first | (with_reducible first | exact HB.out | apply below_alloc | apply pw_below_drewN | apply below_drew1 | refine below_set ?_ GE132.out) | exact HB.out))) : w.heap.size ≤ gb138)); have n5_ := Aside0.mk ((by rw [hg]; exact Nat.ne_of_lt (blk_lt (g := gb132) (o := .cells #[.slice A0_0 l0_0.length c0_0, .slice (some ad137) l0_1.length c0_1, .slice A0_2 l0_2.length c0_2] 26 (0, 0)) (by (with_reducible repeat (first | refine blk_drewN ?_ _ | refine blk_drew ?_ | refine blk_alloc ?_ _)); exact BK132.out)) : gb132 ≠ gb138)); have n6_ := Aside0.mk ((by rw [hg]; exact Nat.ne_of_gt (blk_lt (g := gb132) (o := .cells #[.slice A0_0 l0_0.length c0_0, .slice (some ad137) l0_1.length c0_1, .slice A0_2 l0_2.length c0_2] 26 (0, 0)) (by (with_reducible repeat (first | refine blk_drewN ?_ _ | refine blk_drew ?_ | refine blk_alloc ?_ _)); exact BK132.out)) : gb138 ≠ gb132)); clear BK132; clear HB; have BK132 := n0_; have HB := n1_; have BK138 := n2_; have GW138 := n3_; have GE138 := n4_; have NB132_138 := n5_; have NB138_132 := n6_; clear n0_ n1_ n2_ n3_ n4_ n5_ n6_; clear hb hbox hg; have hnb28 := NB138_132.out; have hnc28 := NB132_138.out; have hcz29_0 : w27.cell? ⟨gb138, 0, none⟩ = some (.int .i64 0) := (blk_cell BK138.out 0).trans rfl; have hcz29_1 : w27.cell? ⟨gb138, 1, none⟩ = some (.int .i64 0) := (blk_cell BK138.out 1).trans rfl; have hcz29_2 : w27.cell? ⟨gb138, 2, none⟩ = some (.int .i64 0) := (blk_cell BK138.out 2).trans rfl; have hfz29_0 := blk_frozen BK138.out 0; have hfz29_1 := blk_frozen BK138.out 1; have hfz29_2 := blk_frozen BK138.out 2))
           repeat (go_quiet (first | ((with_reducible refine gate_dst (N := 5) rfl ?_); (try (refine gate_guard (by rfl) ?_; dsimp only)); refine box_event ?hg (N := 5) ?hd (cs := #[.int .i64 0, .int .i64 0, .int .i64 0]) (t := 50) ?hr ?_; (case hd => rfl); (case hg => rfl); (case hr => first | (go_simp; done) | (go_simp; rfl)); intro gb138 hg w27 hbox hb; have n0_ := Aside0.mk (blk_below (g := gb132) (o := .cells #[.slice A0_0 l0_0.length c0_0, .slice (some ad137) l0_1.length c0_1, .slice A0_2 l0_2.length c0_2] 26 (0, 0)) (by (with_reducible repeat (first | refine blk_drewN ?_ _ | refine blk_drew ?_ | refine blk_alloc ?_ _)); exact BK132.out) hb); have n1_ := Aside0.mk (below_step (by repeat (first | (with_reducible first | exact HB.out | apply below_alloc | apply pw_below_drewN | apply below_drew1 | refine below_set ?_ GE132.out) | exact HB.out)) hb); have n2_ := Aside0.mk (hbox); have n3_ := Aside0.mk ((by rw [hg]; exact (below_size (by repeat (first | (with_reducible first | exact HB.out | apply below_alloc | apply pw_below_drewN | apply below_drew1 | refine below_set ?_ GE132.out) | exact HB.out))) : w.heap.size ≤ gb138)); have n4_ := Aside0.mk ((by rw [hg]; exact (below_size (by repeat (first | (with_reducible first | exact HB.out | apply below_alloc | apply pw_below_drewN | apply below_drew1 | refine below_set ?_ GE132.out) | exact HB.out))) : w.heap.size ≤ gb138)); have n5_ := Aside0.mk ((by rw [hg]; exact Nat.ne_of_lt (blk_lt (g := gb132) (o := .cells #[.slice A0_0 l0_0.length c0_0, .slice (some ad137) l0_1.length c0_1, .slice A0_2 l0_2.length c0_2] 26 (0, 0)) (by (with_reducible repeat (first | refine blk_drewN ?_ _ | refine blk_drew ?_ | refine blk_alloc ?_ _)); exact BK132.out)) : gb132 ≠ gb138)); have n6_ := Aside0.mk ((by rw [hg]; exact Nat.ne_of_gt (blk_lt (g := gb132) (o := .cells #[.slice A0_0 l0_0.length c0_0, .slice (some ad137) l0_1.length c0_1, .slice A0_2 l0_2.length c0_2] 26 (0, 0)) (by (with_reducible repeat (first | refine blk_drewN ?_ _ | refine blk_drew ?_ | refine blk_alloc ?_ _)); exact BK132.out)) : gb138 ≠ gb132)); clear BK132; clear HB; have BK132 := n0_; have HB := n1_; have BK138 := n2_; have GW138 := n3_; have GE138 := n4_; have NB132_138 := n5_; have NB138_132 := n6_; clear n0_ n1_ n2_ n3_ n4_ n5_ n6_; clear hb hbox hg; have hnb28 := NB138_132.out; have hnc28 := NB132_138.out; have hcz29_0 : w27.cell? ⟨gb138, 0, none⟩ = some (.int .i64 0) := (blk_cell BK138.out 0).trans rfl; have hcz29_1 : w27.cell? ⟨gb138, 1, none⟩ = some (.int .i64 0) := (blk_cell BK138.out 1).trans rfl; have hcz29_2 : w27.cell? ⟨gb138, 2, none⟩ = some (.int .i64 0) := (blk_cell BK138.out 2).trans rfl; have hfz29_0 := blk_frozen BK138.out 0; have hfz29_1 := blk_frozen BK138.out 1; have hfz29_2 := blk_frozen BK138.out 2)); go_upto_region 12 with (first | ((with_reducible refine gate_dst (N := 5) rfl ?_); (try (refine gate_guard (by rfl) ?_; dsimp only)); refine box_event ?hg (N := 5) ?hd (cs := #[.int .i64 0, .int .i64 0, .int .i64 0]) (t := 50) ?hr ?_; (case hd => rfl); (case hg => rfl); (case hr => first | (go_simp; done) | (go_simp; rfl)); intro gb138 hg w27 hbox hb; have n0_ := Aside0.mk (blk_below (g := gb132) (o := .cells #[.slice A0_0 l0_0.length c0_0, .slice (some ad137) l0_1.length c0_1, .slice A0_2 l0_2.length c0_2] 26 (0, 0)) (by (with_reducible repeat (first | refine blk_drewN ?_ _ | refine blk_drew ?_ | refine blk_alloc ?_ _)); exact BK132.out) hb); have n1_ := Aside0.mk (below_step (by repeat (first | (with_reducible first | exact HB.out | apply below_alloc | apply pw_below_drewN | apply below_drew1 | refine below_set ?_ GE132.out) | exact HB.out)) hb); have n2_ := Aside0.mk (hbox); have n3_ := Aside0.mk ((by rw [hg]; exact (below_size (by repeat (first | (with_reducible first | exact HB.out | apply below_alloc | apply pw_below_drewN | apply below_drew1 | refine below_set ?_ GE132.out) | exact HB.out))) : w.heap.size ≤ gb138)); have n4_ := Aside0.mk ((by rw [hg]; exact (below_size (by repeat (first | (with_reducible first | exact HB.out | apply below_alloc | apply pw_below_drewN | apply below_drew1 | refine below_set ?_ GE132.out) | exact HB.out))) : w.heap.size ≤ gb138)); have n5_ := Aside0.mk ((by rw [hg]; exact Nat.ne_of_lt (blk_lt (g := gb132) (o := .cells #[.slice A0_0 l0_0.length c0_0, .slice (some ad137) l0_1.length c0_1, .slice A0_2 l0_2.length c0_2] 26 (0, 0)) (by (with_reducible repeat (first | refine blk_drewN ?_ _ | refine blk_drew ?_ | refine blk_alloc ?_ _)); exact BK132.out)) : gb132 ≠ gb138)); have n6_ := Aside0.mk ((by rw [hg]; exact Nat.ne_of_gt (blk_lt (g := gb132) (o := .cells #[.slice A0_0 l0_0.length c0_0, .slice (some ad137) l0_1.length c0_1, .slice A0_2 l0_2.length c0_2] 26 (0, 0)) (by (with_reducible repeat (first | refine blk_drewN ?_ _ | refine blk_drew ?_ | refine blk_alloc ?_ _)); exact BK132.out)) : gb138 ≠ gb132)); clear BK132; clear HB; have BK132 := n0_; have HB := n1_; have BK138 := n2_; have GW138 := n3_; have GE138 := n4_; have NB132_138 := n5_; have NB138_132 := n6_; clear n0_ n1_ n2_ n3_ n4_ n5_ n6_; clear hb hbox hg; have hnb28 := NB138_132.out; have hnc28 := NB132_138.out; have hcz29_0 : w27.cell? ⟨gb138, 0, none⟩ = some (.int .i64 0) := (blk_cell BK138.out 0).trans rfl; have hcz29_1 : w27.cell? ⟨gb138, 1, none⟩ = some (.int .i64 0) := (blk_cell BK138.out 1).trans rfl; have hcz29_2 : w27.cell? ⟨gb138, 2, none⟩ = some (.int .i64 0) := (blk_cell BK138.out 2).trans rfl; have hfz29_0 := blk_frozen BK138.out 0; have hfz29_1 := blk_frozen BK138.out 1; have hfz29_2 := blk_frozen BK138.out 2)))
           (try simp only [Act.put, List.setIfInBounds_toArray, List.set_cons_zero, List.set_cons_succ])
           go_cut [95] (fun v95 wc => ∃ (kq : Nat) (x95_24 : Bool), v95 = .bool x95_24 ∧ Aside0 (laganref04_CheckBoard.j3 kq x4_3 x95_24 l0_0 l0_1 l0_2 ((rd_T50 l0_1 x4_3).f0) ((rd_T50 l0_1 x4_3).f1) ((rd_T50 l0_1 x4_3).f2) = some r) ∧ Aside0 (kq ≤ k3) ∧ Aside0 (wc.heap[gb132]? = some (.cells #[(.slice A0_0 l0_0.length c0_0), (.slice (some ad137) l0_1.length c0_1), (.slice A0_2 l0_2.length c0_2)] 26 (0, 0))) ∧ Aside0 (wc.heap[gb138]? = some (.cells #[.int .i64 ((rd_T50 l0_1 x4_3).f0), .int .i64 ((rd_T50 l0_1 x4_3).f1), .int .i64 ((rd_T50 l0_1 x4_3).f2)] 50 (0, 0))) ∧ Aside0 (Below w.heap.size w wc))
           case first =>
            have H := HC25.out
            clear HC25
            by_cases c30 : ((rd_T50 l0_1 x4_3).f0) < 1
            ·
             rw [if_pos c30] at H
             have c30b0 : decide (((rd_T50 l0_1 x4_3).f0) < 1) = true := decide_eq_true c30
             clear c30
             (first | rw [c30b0] | (simp only [i64_w, i32_w]; rw [c30b0]) | skip)
             have H' := Aside0.mk H
             clear H
             have hnb31 := NB138_132.out
             have hnc31 := NB132_138.out
             have hcz32_0 : w27.cell? ⟨gb138, 0, none⟩ = some (.int .i64 0) := (blk_cell BK138.out 0).trans rfl
             have hcz32_1 : w27.cell? ⟨gb138, 1, none⟩ = some (.int .i64 0) := (blk_cell BK138.out 1).trans rfl
             have hcz32_2 : w27.cell? ⟨gb138, 2, none⟩ = some (.int .i64 0) := (blk_cell BK138.out 2).trans rfl
             have hfz32_0 := blk_frozen BK138.out 0
             have hfz32_1 := blk_frozen BK138.out 1
             have hfz32_2 := blk_frozen BK138.out 2
             go_wp2
             repeat (go_quiet (fail); try go_wp2)
             go_meet
             case rel => exact ⟨_, (true), (by first | rfl | (simp; done) | (simp [*]; done)), H', ⟨by have := HJ1.out; have := HK2.out; have := HK3.out; first | omega | exact Nat.le_refl _⟩, ⟨by (with_reducible repeat (first | refine blk_drewN ?_ _ | refine blk_drew ?_ | refine blk_alloc ?_ _)); refine blk_far ?_ NB132_138.out _; (with_reducible repeat (first | refine blk_drewN ?_ _ | refine blk_drew ?_ | refine blk_alloc ?_ _)); refine blk_far ?_ NB132_138.out _; (with_reducible repeat (first | refine blk_drewN ?_ _ | refine blk_drew ?_ | refine blk_alloc ?_ _)); refine blk_far ?_ NB132_138.out _; (with_reducible repeat (first | refine blk_drewN ?_ _ | refine blk_drew ?_ | refine blk_alloc ?_ _)); exact BK132.out⟩, ⟨by (with_reducible repeat (first | refine blk_drewN ?_ _ | refine blk_drew ?_ | refine blk_alloc ?_ _)); refine blk_put (cs := #[.int .i64 ((rd_T50 l0_1 x4_3).f0), .int .i64 ((rd_T50 l0_1 x4_3).f1), .int .i64 0]) ?_ 2 _ rfl; (with_reducible repeat (first | refine blk_drewN ?_ _ | refine blk_drew ?_ | refine blk_alloc ?_ _)); refine blk_put (cs := #[.int .i64 ((rd_T50 l0_1 x4_3).f0), .int .i64 0, .int .i64 0]) ?_ 1 _ rfl; (with_reducible repeat (first | refine blk_drewN ?_ _ | refine blk_drew ?_ | refine blk_alloc ?_ _)); refine blk_put (cs := #[.int .i64 0, .int .i64 0, .int .i64 0]) ?_ 0 _ rfl; (with_reducible repeat (first | refine blk_drewN ?_ _ | refine blk_drew ?_ | refine blk_alloc ?_ _)); exact BK138.out⟩, ⟨by repeat (first | (with_reducible first | exact HB.out | apply below_alloc | apply pw_below_drewN | apply below_drew1 | refine below_set ?_ GE132.out | refine below_set ?_ GE138.out) | exact HB.out)⟩⟩
            ·
             rw [if_neg c30] at H
             have c30b0 : decide (((rd_T50 l0_1 x4_3).f0) < 1) = false := decide_eq_false c30
             clear c30
             (first | rw [c30b0] | (simp only [i64_w, i32_w]; rw [c30b0]) | skip)
             by_cases c33 : ((rd_T50 l0_1 x4_3).f0) > 20
             ·
              rw [if_pos c33] at H
              have c33b0 : decide (20 < ((rd_T50 l0_1 x4_3).f0)) = true := decide_eq_true c33
              clear c33
              have H' := Aside0.mk H
              clear H
              have hnb34 := NB138_132.out
              have hnc34 := NB132_138.out
              have hcz35_0 : w27.cell? ⟨gb138, 0, none⟩ = some (.int .i64 0) := (blk_cell BK138.out 0).trans rfl
              have hcz35_1 : w27.cell? ⟨gb138, 1, none⟩ = some (.int .i64 0) := (blk_cell BK138.out 1).trans rfl
              have hcz35_2 : w27.cell? ⟨gb138, 2, none⟩ = some (.int .i64 0) := (blk_cell BK138.out 2).trans rfl
              have hfz35_0 := blk_frozen BK138.out 0
              have hfz35_1 := blk_frozen BK138.out 1
              have hfz35_2 := blk_frozen BK138.out 2
              go_wp2
              repeat (go_quiet (fail); try go_wp2)
              go_meet
              case rel => exact ⟨_, (true), (by first | rfl | (simp; done) | (simp [*]; done)), H', ⟨by have := HJ1.out; have := HK2.out; have := HK3.out; first | omega | exact Nat.le_refl _⟩, ⟨by (with_reducible repeat (first | refine blk_drewN ?_ _ | refine blk_drew ?_ | refine blk_alloc ?_ _)); refine blk_far ?_ NB132_138.out _; (with_reducible repeat (first | refine blk_drewN ?_ _ | refine blk_drew ?_ | refine blk_alloc ?_ _)); refine blk_far ?_ NB132_138.out _; (with_reducible repeat (first | refine blk_drewN ?_ _ | refine blk_drew ?_ | refine blk_alloc ?_ _)); refine blk_far ?_ NB132_138.out _; (with_reducible repeat (first | refine blk_drewN ?_ _ | refine blk_drew ?_ | refine blk_alloc ?_ _)); exact BK132.out⟩, ⟨by (with_reducible repeat (first | refine blk_drewN ?_ _ | refine blk_drew ?_ | refine blk_alloc ?_ _)); refine blk_put (cs := #[.int .i64 ((rd_T50 l0_1 x4_3).f0), .int .i64 ((rd_T50 l0_1 x4_3).f1), .int .i64 0]) ?_ 2 _ rfl; (with_reducible repeat (first | refine blk_drewN ?_ _ | refine blk_drew ?_ | refine blk_alloc ?_ _)); refine blk_put (cs := #[.int .i64 ((rd_T50 l0_1 x4_3).f0), .int .i64 0, .int .i64 0]) ?_ 1 _ rfl; (with_reducible repeat (first | refine blk_drewN ?_ _ | refine blk_drew ?_ | refine blk_alloc ?_ _)); refine blk_put (cs := #[.int .i64 0, .int .i64 0, .int .i64 0]) ?_ 0 _ rfl; (with_reducible repeat (first | refine blk_drewN ?_ _ | refine blk_drew ?_ | refine blk_alloc ?_ _)); exact BK138.out⟩, ⟨by repeat (first | (with_reducible first | exact HB.out | apply below_alloc | apply pw_below_drewN | apply below_drew1 | refine below_set ?_ GE132.out | refine below_set ?_ GE138.out) | exact HB.out)⟩⟩
             ·
              rw [if_neg c33] at H
              have c33b0 : decide (20 < ((rd_T50 l0_1 x4_3).f0)) = false := decide_eq_false c33
              clear c33
              by_cases c36 : ((rd_T50 l0_1 x4_3).f1) < 1
              ·
               rw [if_pos c36] at H
               have c36b0 : decide (((rd_T50 l0_1 x4_3).f1) < 1) = true := decide_eq_true c36
               clear c36
               have H' := Aside0.mk H
               clear H
               have hnb37 := NB138_132.out
               have hnc37 := NB132_138.out
               have hcz38_0 : w27.cell? ⟨gb138, 0, none⟩ = some (.int .i64 0) := (blk_cell BK138.out 0).trans rfl
               have hcz38_1 : w27.cell? ⟨gb138, 1, none⟩ = some (.int .i64 0) := (blk_cell BK138.out 1).trans rfl
               have hcz38_2 : w27.cell? ⟨gb138, 2, none⟩ = some (.int .i64 0) := (blk_cell BK138.out 2).trans rfl
               have hfz38_0 := blk_frozen BK138.out 0
               have hfz38_1 := blk_frozen BK138.out 1
               have hfz38_2 := blk_frozen BK138.out 2
               go_wp2
               repeat (go_quiet (fail); try go_wp2)
               go_meet
               case rel => exact ⟨_, (true), (by first | rfl | (simp; done) | (simp [*]; done)), H', ⟨by have := HJ1.out; have := HK2.out; have := HK3.out; first | omega | exact Nat.le_refl _⟩, ⟨by (with_reducible repeat (first | refine blk_drewN ?_ _ | refine blk_drew ?_ | refine blk_alloc ?_ _)); refine blk_far ?_ NB132_138.out _; (with_reducible repeat (first | refine blk_drewN ?_ _ | refine blk_drew ?_ | refine blk_alloc ?_ _)); refine blk_far ?_ NB132_138.out _; (with_reducible repeat (first | refine blk_drewN ?_ _ | refine blk_drew ?_ | refine blk_alloc ?_ _)); refine blk_far ?_ NB132_138.out _; (with_reducible repeat (first | refine blk_drewN ?_ _ | refine blk_drew ?_ | refine blk_alloc ?_ _)); exact BK132.out⟩, ⟨by (with_reducible repeat (first | refine blk_drewN ?_ _ | refine blk_drew ?_ | refine blk_alloc ?_ _)); refine blk_put (cs := #[.int .i64 ((rd_T50 l0_1 x4_3).f0), .int .i64 ((rd_T50 l0_1 x4_3).f1), .int .i64 0]) ?_ 2 _ rfl; (with_reducible repeat (first | refine blk_drewN ?_ _ | refine blk_drew ?_ | refine blk_alloc ?_ _)); refine blk_put (cs := #[.int .i64 ((rd_T50 l0_1 x4_3).f0), .int .i64 0, .int .i64 0]) ?_ 1 _ rfl; (with_reducible repeat (first | refine blk_drewN ?_ _ | refine blk_drew ?_ | refine blk_alloc ?_ _)); refine blk_put (cs := #[.int .i64 0, .int .i64 0, .int .i64 0]) ?_ 0 _ rfl; (with_reducible repeat (first | refine blk_drewN ?_ _ | refine blk_drew ?_ | refine blk_alloc ?_ _)); exact BK138.out⟩, ⟨by repeat (first | (with_reducible first | exact HB.out | apply below_alloc | apply pw_below_drewN | apply below_drew1 | refine below_set ?_ GE132.out | refine below_set ?_ GE138.out) | exact HB.out)⟩⟩
              ·
               rw [if_neg c36] at H
               have c36b0 : decide (((rd_T50 l0_1 x4_3).f1) < 1) = false := decide_eq_false c36
               clear c36
               by_cases c39 : ((rd_T50 l0_1 x4_3).f1) > 200
               ·
                rw [if_pos c39] at H
                have c39b0 : decide (200 < ((rd_T50 l0_1 x4_3).f1)) = true := decide_eq_true c39
                clear c39
                have H' := Aside0.mk H
                clear H
                have hnb40 := NB138_132.out
                have hnc40 := NB132_138.out
                have hcz41_0 : w27.cell? ⟨gb138, 0, none⟩ = some (.int .i64 0) := (blk_cell BK138.out 0).trans rfl
                have hcz41_1 : w27.cell? ⟨gb138, 1, none⟩ = some (.int .i64 0) := (blk_cell BK138.out 1).trans rfl
                have hcz41_2 : w27.cell? ⟨gb138, 2, none⟩ = some (.int .i64 0) := (blk_cell BK138.out 2).trans rfl
                have hfz41_0 := blk_frozen BK138.out 0
                have hfz41_1 := blk_frozen BK138.out 1
                have hfz41_2 := blk_frozen BK138.out 2
                go_wp2
                repeat (go_quiet (fail); try go_wp2)
                go_meet
                case rel => exact ⟨_, (true), (by first | rfl | (simp; done) | (simp [*]; done)), H', ⟨by have := HJ1.out; have := HK2.out; have := HK3.out; first | omega | exact Nat.le_refl _⟩, ⟨by (with_reducible repeat (first | refine blk_drewN ?_ _ | refine blk_drew ?_ | refine blk_alloc ?_ _)); refine blk_far ?_ NB132_138.out _; (with_reducible repeat (first | refine blk_drewN ?_ _ | refine blk_drew ?_ | refine blk_alloc ?_ _)); refine blk_far ?_ NB132_138.out _; (with_reducible repeat (first | refine blk_drewN ?_ _ | refine blk_drew ?_ | refine blk_alloc ?_ _)); refine blk_far ?_ NB132_138.out _; (with_reducible repeat (first | refine blk_drewN ?_ _ | refine blk_drew ?_ | refine blk_alloc ?_ _)); exact BK132.out⟩, ⟨by (with_reducible repeat (first | refine blk_drewN ?_ _ | refine blk_drew ?_ | refine blk_alloc ?_ _)); refine blk_put (cs := #[.int .i64 ((rd_T50 l0_1 x4_3).f0), .int .i64 ((rd_T50 l0_1 x4_3).f1), .int .i64 0]) ?_ 2 _ rfl; (with_reducible repeat (first | refine blk_drewN ?_ _ | refine blk_drew ?_ | refine blk_alloc ?_ _)); refine blk_put (cs := #[.int .i64 ((rd_T50 l0_1 x4_3).f0), .int .i64 0, .int .i64 0]) ?_ 1 _ rfl; (with_reducible repeat (first | refine blk_drewN ?_ _ | refine blk_drew ?_ | refine blk_alloc ?_ _)); refine blk_put (cs := #[.int .i64 0, .int .i64 0, .int .i64 0]) ?_ 0 _ rfl; (with_reducible repeat (first | refine blk_drewN ?_ _ | refine blk_drew ?_ | refine blk_alloc ?_ _)); exact BK138.out⟩, ⟨by repeat (first | (with_reducible first | exact HB.out | apply below_alloc | apply pw_below_drewN | apply below_drew1 | refine below_set ?_ GE132.out | refine below_set ?_ GE138.out) | exact HB.out)⟩⟩
               ·
                rw [if_neg c39] at H
                have c39b0 : decide (200 < ((rd_T50 l0_1 x4_3).f1)) = false := decide_eq_false c39
                clear c39
                by_cases c42 : ((rd_T50 l0_1 x4_3).f2) < 1
                ·
                 rw [if_pos c42] at H
                 have c42b0 : decide (((rd_T50 l0_1 x4_3).f2) < 1) = true := decide_eq_true c42
                 clear c42
                 have H' := Aside0.mk H
                 clear H
                 have hnb43 := NB138_132.out
                 have hnc43 := NB132_138.out
                 have hcz44_0 : w27.cell? ⟨gb138, 0, none⟩ = some (.int .i64 0) := (blk_cell BK138.out 0).trans rfl
                 have hcz44_1 : w27.cell? ⟨gb138, 1, none⟩ = some (.int .i64 0) := (blk_cell BK138.out 1).trans rfl
                 have hcz44_2 : w27.cell? ⟨gb138, 2, none⟩ = some (.int .i64 0) := (blk_cell BK138.out 2).trans rfl
                 have hfz44_0 := blk_frozen BK138.out 0
                 have hfz44_1 := blk_frozen BK138.out 1
                 have hfz44_2 := blk_frozen BK138.out 2
                 go_wp2
                 repeat (go_quiet (fail); try go_wp2)
                 go_meet
                 case rel => exact ⟨_, (true), (by first | rfl | (simp; done) | (simp [*]; done)), H', ⟨by have := HJ1.out; have := HK2.out; have := HK3.out; first | omega | exact Nat.le_refl _⟩, ⟨by (with_reducible repeat (first | refine blk_drewN ?_ _ | refine blk_drew ?_ | refine blk_alloc ?_ _)); refine blk_far ?_ NB132_138.out _; (with_reducible repeat (first | refine blk_drewN ?_ _ | refine blk_drew ?_ | refine blk_alloc ?_ _)); refine blk_far ?_ NB132_138.out _; (with_reducible repeat (first | refine blk_drewN ?_ _ | refine blk_drew ?_ | refine blk_alloc ?_ _)); refine blk_far ?_ NB132_138.out _; (with_reducible repeat (first | refine blk_drewN ?_ _ | refine blk_drew ?_ | refine blk_alloc ?_ _)); exact BK132.out⟩, ⟨by (with_reducible repeat (first | refine blk_drewN ?_ _ | refine blk_drew ?_ | refine blk_alloc ?_ _)); refine blk_put (cs := #[.int .i64 ((rd_T50 l0_1 x4_3).f0), .int .i64 ((rd_T50 l0_1 x4_3).f1), .int .i64 0]) ?_ 2 _ rfl; (with_reducible repeat (first | refine blk_drewN ?_ _ | refine blk_drew ?_ | refine blk_alloc ?_ _)); refine blk_put (cs := #[.int .i64 ((rd_T50 l0_1 x4_3).f0), .int .i64 0, .int .i64 0]) ?_ 1 _ rfl; (with_reducible repeat (first | refine blk_drewN ?_ _ | refine blk_drew ?_ | refine blk_alloc ?_ _)); refine blk_put (cs := #[.int .i64 0, .int .i64 0, .int .i64 0]) ?_ 0 _ rfl; (with_reducible repeat (first | refine blk_drewN ?_ _ | refine blk_drew ?_ | refine blk_alloc ?_ _)); exact BK138.out⟩, ⟨by repeat (first | (with_reducible first | exact HB.out | apply below_alloc | apply pw_below_drewN | apply below_drew1 | refine below_set ?_ GE132.out | refine below_set ?_ GE138.out) | exact HB.out)⟩⟩
                ·
                 rw [if_neg c42] at H
                 have c42b0 : decide (((rd_T50 l0_1 x4_3).f2) < 1) = false := decide_eq_false c42
                 clear c42
                 have H' := Aside0.mk H
                 clear H
                 have hnb45 := NB138_132.out
                 have hnc45 := NB132_138.out
                 have hcz46_0 : w27.cell? ⟨gb138, 0, none⟩ = some (.int .i64 0) := (blk_cell BK138.out 0).trans rfl
                 have hcz46_1 : w27.cell? ⟨gb138, 1, none⟩ = some (.int .i64 0) := (blk_cell BK138.out 1).trans rfl
                 have hcz46_2 : w27.cell? ⟨gb138, 2, none⟩ = some (.int .i64 0) := (blk_cell BK138.out 2).trans rfl
                 have hfz46_0 := blk_frozen BK138.out 0
                 have hfz46_1 := blk_frozen BK138.out 1
                 have hfz46_2 := blk_frozen BK138.out 2
                 go_wp2
                 repeat (go_quiet (fail); try go_wp2)
                 go_meet
                 case rel => exact ⟨_, (decide (((rd_T50 l0_1 x4_3).f2) > 20)), (by first | rfl | (simp; done) | (simp [*]; done)), H', ⟨by have := HJ1.out; have := HK2.out; have := HK3.out; first | omega | exact Nat.le_refl _⟩, ⟨by (with_reducible repeat (first | refine blk_drewN ?_ _ | refine blk_drew ?_ | refine blk_alloc ?_ _)); refine blk_far ?_ NB132_138.out _; (with_reducible repeat (first | refine blk_drewN ?_ _ | refine blk_drew ?_ | refine blk_alloc ?_ _)); refine blk_far ?_ NB132_138.out _; (with_reducible repeat (first | refine blk_drewN ?_ _ | refine blk_drew ?_ | refine blk_alloc ?_ _)); refine blk_far ?_ NB132_138.out _; (with_reducible repeat (first | refine blk_drewN ?_ _ | refine blk_drew ?_ | refine blk_alloc ?_ _)); exact BK132.out⟩, ⟨by (with_reducible repeat (first | refine blk_drewN ?_ _ | refine blk_drew ?_ | refine blk_alloc ?_ _)); refine blk_put (cs := #[.int .i64 ((rd_T50 l0_1 x4_3).f0), .int .i64 ((rd_T50 l0_1 x4_3).f1), .int .i64 0]) ?_ 2 _ rfl; (with_reducible repeat (first | refine blk_drewN ?_ _ | refine blk_drew ?_ | refine blk_alloc ?_ _)); refine blk_put (cs := #[.int .i64 ((rd_T50 l0_1 x4_3).f0), .int .i64 0, .int .i64 0]) ?_ 1 _ rfl; (with_reducible repeat (first | refine blk_drewN ?_ _ | refine blk_drew ?_ | refine blk_alloc ?_ _)); refine blk_put (cs := #[.int .i64 0, .int .i64 0, .int .i64 0]) ?_ 0 _ rfl; (with_reducible repeat (first | refine blk_drewN ?_ _ | refine blk_drew ?_ | refine blk_alloc ?_ _)); exact BK138.out⟩, ⟨by repeat (first | (with_reducible first | exact HB.out | apply below_alloc | apply pw_below_drewN | apply below_drew1 | refine below_set ?_ GE132.out | refine below_set ?_ GE138.out) | exact HB.out)⟩⟩
           case rest =>
            clear HC25
            try clear c1
            try clear p1
            try clear q1
            try clear hx1
            try clear c2
            try clear p2
            try clear c3
            try clear c4
            try clear c4b0
            try clear c4b1
            try clear p6
            try clear c7
            try clear c8
            try clear c8b0
            try clear c9
            try clear c9b0
            try clear c10
            try clear c10b0
            try clear c12
            try clear c12b0
            try clear p13
            try clear q13
            try clear hx13
            try clear c14
            try clear c14b0
            try clear c16
            try clear c16b0
            try clear c17
            try clear c17b0
            try clear c18
            try clear c18b0
            try clear c19
            try clear c23
            try clear c23b0
            try clear c24
            try clear c24b0
            try clear c28
            try clear c30
            try clear c30b0
            try clear c31
            try clear c33
            try clear c33b0
            try clear c34
            try clear c36
            try clear c36b0
            try clear c37
            try clear c39
            try clear c39b0
            try clear c40
            try clear c42
            try clear c42b0
            try clear c43
            try clear c45
            try clear hcz11_0
            try clear hcz11_1
            try clear hcz11_2
            try clear hcz13_0
            try clear hcz13_1
            try clear hcz13_2
            try clear hcz19_0
            try clear hcz19_1
            try clear hcz19_2
            try clear hcz20_0
            try clear hcz20_1
            try clear hcz20_2
            try clear hcz21_0
            try clear hcz21_1
            try clear hcz21_2
            try clear hcz22_0
            try clear hcz22_1
            try clear hcz22_2
            try clear hcz26_0
            try clear hcz26_1
            try clear hcz26_2
            try clear hcz29_0
            try clear hcz29_1
            try clear hcz29_2
            try clear hcz32_0
            try clear hcz32_1
            try clear hcz32_2
            try clear hcz35_0
            try clear hcz35_1
            try clear hcz35_2
            try clear hcz38_0
            try clear hcz38_1
            try clear hcz38_2
            try clear hcz41_0
            try clear hcz41_1
            try clear hcz41_2
            try clear hcz44_0
            try clear hcz44_1
            try clear hcz44_2
            try clear hcz46_0
            try clear hcz46_1
            try clear hcz46_2
            try clear hcz5_0
            try clear hcz5_1
            try clear hcz5_2
            try clear hcz6_0
            try clear hcz6_1
            try clear hcz6_2
            try clear hfz11_0
            try clear hfz11_1
            try clear hfz11_2
            try clear hfz13_0
            try clear hfz13_1
            try clear hfz13_2
            try clear hfz19_0
            try clear hfz19_1
            try clear hfz19_2
            try clear hfz20_0
            try clear hfz20_1
            try clear hfz20_2
            try clear hfz21_0
            try clear hfz21_1
            try clear hfz21_2
            try clear hfz22_0
            try clear hfz22_1
            try clear hfz22_2
            try clear hfz26_0
            try clear hfz26_1
            try clear hfz26_2
            try clear hfz29_0
            try clear hfz29_1
            try clear hfz29_2
            try clear hfz32_0
            try clear hfz32_1
            try clear hfz32_2
            try clear hfz35_0
            try clear hfz35_1
            try clear hfz35_2
            try clear hfz38_0
            try clear hfz38_1
            try clear hfz38_2
            try clear hfz41_0
            try clear hfz41_1
            try clear hfz41_2
            try clear hfz44_0
            try clear hfz44_1
            try clear hfz44_2
            try clear hfz46_0
            try clear hfz46_1
            try clear hfz46_2
            try clear hfz5_0
            try clear hfz5_1
            try clear hfz5_2
            try clear hfz6_0
            try clear hfz6_1
            try clear hfz6_2
            try clear hx133_0
            try clear hx134_0
            try clear hx135_0
            try clear hx136_0
            try clear hx137_0
            try clear hx137_1
            try clear hx137_2
            try clear p1
            try clear p13
            try clear p133
            try clear p134
            try clear p135
            try clear p136
            try clear p137
            try clear p2
            try clear p6
            try clear q1
            try clear q13
            try clear q133
            try clear q134
            try clear q135
            try clear q136
            try clear q137
            obtain ⟨kq, x95_24, rfl, HA, HJ24, BK132, BK138, HB⟩ := hcut
            cases kq with
            | zero => exact absurd HA.out (by simp [laganref04_CheckBoard.j3])
            | succ kj24 =>
             have H := HA.out
             clear HA
             simp only [laganref04_CheckBoard.j3] at H
             by_cases c47 : x95_24 = true
             ·
              subst c47
              have H1 : (some 1) = some r := by rw [if_pos rfl] at H; exact H
              clear H
              have H := H1
              clear H1
              obtain rfl := Option.some.inj H
              go_wp2
              repeat (go_quiet (fail); try go_wp2)
              go_ret
              exact ⟨by first | rfl | (simp [errW_none, errW_some] <;> rfl) | (simp [*, errW_none, errW_some] <;> rfl), by repeat (first | (with_reducible first | exact HB.out | apply below_alloc | apply pw_below_drewN | apply below_drew1 | refine below_set ?_ GE132.out | refine below_set ?_ GE138.out) | exact HB.out)⟩
             ·
              replace c47 := Bool.eq_false_iff.mpr c47
              subst c47
              have H1 : (if x4_3 > 0 then (if 0 ≤ (wrap64 (x4_3 - 1)) then (if (wrap64 (x4_3 - 1)) < (l0_1.length : Int) then (if ((rd_T50 l0_1 x4_3).f0) < ((rd_T50 l0_1 (wrap64 (x4_3 - 1))).f0) then (some 1) else (if ((rd_T50 l0_1 x4_3).f0) = ((rd_T50 l0_1 (wrap64 (x4_3 - 1))).f0) then (if ((rd_T50 l0_1 x4_3).f1) ≤ ((rd_T50 l0_1 (wrap64 (x4_3 - 1))).f1) then (some 1) else (laganref04_CheckBoard.l1 kj24 (wrap64 (x4_3 + 1)) l0_0 l0_1 l0_2)) else (laganref04_CheckBoard.l1 kj24 (wrap64 (x4_3 + 1)) l0_0 l0_1 l0_2))) else (none)) else (none)) else (laganref04_CheckBoard.l1 kj24 (wrap64 (x4_3 + 1)) l0_0 l0_1 l0_2)) = some r := by rw [if_neg (show ¬ (false = true) by decide)] at H; exact H
              clear H
              have H := H1
              clear H1
              by_cases c48 : x4_3 > 0
              ·
               rw [if_pos c48] at H
               have c48b0 : decide (0 < x4_3) = true := decide_eq_true c48
               clear c48
               obtain ⟨ji49, hji49⟩ : ∃ j_ : Int, (wrap64 (x4_3 - 1)) = j_ := ⟨_, rfl⟩
               replace H : (if 0 ≤ (ji49) then (if (ji49) < (l0_1.length : Int) then (if ((rd_T50 l0_1 x4_3).f0) < ((rd_T50 l0_1 (ji49)).f0) then (some 1) else (if ((rd_T50 l0_1 x4_3).f0) = ((rd_T50 l0_1 (ji49)).f0) then (if ((rd_T50 l0_1 x4_3).f1) ≤ ((rd_T50 l0_1 (ji49)).f1) then (some 1) else (laganref04_CheckBoard.l1 kj24 (wrap64 (x4_3 + 1)) l0_0 l0_1 l0_2)) else (laganref04_CheckBoard.l1 kj24 (wrap64 (x4_3 + 1)) l0_0 l0_1 l0_2))) else (none)) else (none)) = some r := by first | (rw [hji49] at H; exact H) | (simp only [hji49] at H ⊢; exact H)
               have hji49w : (IntKind.i64.wrap (x4_3 - 1)) = ji49 := (i64_w _).trans hji49
               by_cases c50 : 0 ≤ (ji49)
               ·
                rw [if_pos c50] at H
                have c50b0 : decide (0 ≤ (ji49)) = true := decide_eq_true c50
                clear c50
                by_cases c51 : (ji49) < (l0_1.length : Int)
                ·
                 rw [if_pos c51] at H
                 have c51b0 : decide ((ji49) < (l0_1.length : Int)) = true := decide_eq_true c51
                 clear c51
                 by_cases c52 : ((rd_T50 l0_1 x4_3).f0) < ((rd_T50 l0_1 (ji49)).f0)
                 ·
                  rw [if_pos c52] at H
                  have c52b0 : decide (((rd_T50 l0_1 x4_3).f0) < ((rd_T50 l0_1 (ji49)).f0)) = true := decide_eq_true c52
                  clear c52
                  obtain rfl := Option.some.inj H
                  have hnb53 := NB138_132.out
                  have hnc53 := NB132_138.out
                  have hcz54_0 : wc.cell? ⟨gb138, 0, none⟩ = some (.int .i64 ((rd_T50 l0_1 x4_3).f0)) := (blk_cell BK138.out 0).trans rfl
                  have hcz54_1 : wc.cell? ⟨gb138, 1, none⟩ = some (.int .i64 ((rd_T50 l0_1 x4_3).f1)) := (blk_cell BK138.out 1).trans rfl
                  have hcz54_2 : wc.cell? ⟨gb138, 2, none⟩ = some (.int .i64 ((rd_T50 l0_1 x4_3).f2)) := (blk_cell BK138.out 2).trans rfl
                  have hfz54_0 := blk_frozen BK138.out 0
                  have hfz54_1 := blk_frozen BK138.out 1
                  have hfz54_2 := blk_frozen BK138.out 2
                  have hcz55_0 : wc.cell? ⟨gb132, 0, none⟩ = some (.slice A0_0 l0_0.length c0_0) := (blk_cell BK132.out 0).trans rfl
                  have hcz55_1 : wc.cell? ⟨gb132, 1, none⟩ = some (.slice (some ad137) l0_1.length c0_1) := (blk_cell BK132.out 1).trans rfl
                  have hcz55_2 : wc.cell? ⟨gb132, 2, none⟩ = some (.slice A0_2 l0_2.length c0_2) := (blk_cell BK132.out 2).trans rfl
                  have hfz55_0 := blk_frozen BK132.out 0
                  have hfz55_1 := blk_frozen BK132.out 1
                  have hfz55_2 := blk_frozen BK132.out 2
                  have p139 : 0 ≤ ((ji49) : Int) := of_decide_eq_true (by first | (with_reducible assumption) | assumption)
                  have q139 : (ji49) < (l0_1.length : Int) := of_decide_eq_true (by first | (with_reducible assumption) | assumption)
                  obtain ⟨ad139, e139, hx139_0, hx139_1, hx139_2⟩ := at_T50 HR0_1.out (ji49) p139 q139
                  obtain rfl : ad137 = ad139 := (by injection e139)
                  replace hx139_0 := (HB.out.cell (World.block_lt_of_cell? w _ hx139_0)).trans hx139_0
                  replace hx139_1 := (HB.out.cell (World.block_lt_of_cell? w _ hx139_1)).trans hx139_1
                  replace hx139_2 := (HB.out.cell (World.block_lt_of_cell? w _ hx139_2)).trans hx139_2
                  replace p139 := eq_true p139
                  replace q139 := eq_true q139
                  go_wp2
                  repeat (go_quiet (fail); try go_wp2)
                  go_ret
                  exact ⟨by first | rfl | (simp [errW_none, errW_some] <;> rfl) | (simp only [← hji49]; first | rfl | (simp [errW_none, errW_some] <;> rfl)) | (simp [*, errW_none, errW_some] <;> rfl), by repeat (first | (with_reducible first | exact HB.out | apply below_alloc | apply pw_below_drewN | apply below_drew1 | refine below_set ?_ GE132.out | refine below_set ?_ GE138.out) | exact HB.out)⟩
                 ·
                  rw [if_neg c52] at H
                  have c52b0 : decide (((rd_T50 l0_1 x4_3).f0) < ((rd_T50 l0_1 (ji49)).f0)) = false := decide_eq_false c52
                  clear c52
                  by_cases c56 : ((rd_T50 l0_1 x4_3).f0) = ((rd_T50 l0_1 (ji49)).f0)
                  ·
                   rw [if_pos c56] at H
                   have c56b0 : (((rd_T50 l0_1 x4_3).f0) == ((rd_T50 l0_1 (ji49)).f0)) = true := beq_iff_eq.mpr c56
                   have c56b1 : (((rd_T50 l0_1 x4_3).f0) != ((rd_T50 l0_1 (ji49)).f0)) = false := bne_eq_false_iff_eq.mpr c56
                   clear c56
                   by_cases c57 : ((rd_T50 l0_1 x4_3).f1) ≤ ((rd_T50 l0_1 (ji49)).f1)
                   ·
                    rw [if_pos c57] at H
                    have c57b0 : decide (((rd_T50 l0_1 x4_3).f1) ≤ ((rd_T50 l0_1 (ji49)).f1)) = true := decide_eq_true c57
                    clear c57
                    obtain rfl := Option.some.inj H
                    have hnb58 := NB138_132.out
                    have hnc58 := NB132_138.out
                    have hcz59_0 : wc.cell? ⟨gb138, 0, none⟩ = some (.int .i64 ((rd_T50 l0_1 x4_3).f0)) := (blk_cell BK138.out 0).trans rfl
                    have hcz59_1 : wc.cell? ⟨gb138, 1, none⟩ = some (.int .i64 ((rd_T50 l0_1 x4_3).f1)) := (blk_cell BK138.out 1).trans rfl
                    have hcz59_2 : wc.cell? ⟨gb138, 2, none⟩ = some (.int .i64 ((rd_T50 l0_1 x4_3).f2)) := (blk_cell BK138.out 2).trans rfl
                    have hfz59_0 := blk_frozen BK138.out 0
                    have hfz59_1 := blk_frozen BK138.out 1
                    have hfz59_2 := blk_frozen BK138.out 2
                    have hcz60_0 : wc.cell? ⟨gb132, 0, none⟩ = some (.slice A0_0 l0_0.length c0_0) := (blk_cell BK132.out 0).trans rfl
                    have hcz60_1 : wc.cell? ⟨gb132, 1, none⟩ = some (.slice (some ad137) l0_1.length c0_1) := (blk_cell BK132.out 1).trans rfl
                    have hcz60_2 : wc.cell? ⟨gb132, 2, none⟩ = some (.slice A0_2 l0_2.length c0_2) := (blk_cell BK132.out 2).trans rfl
                    have hfz60_0 := blk_frozen BK132.out 0
                    have hfz60_1 := blk_frozen BK132.out 1
                    have hfz60_2 := blk_frozen BK132.out 2
                    have p139 : 0 ≤ ((ji49) : Int) := of_decide_eq_true (by first | (with_reducible assumption) | assumption)
                    have q139 : (ji49) < (l0_1.length : Int) := of_decide_eq_true (by first | (with_reducible assumption) | assumption)
                    obtain ⟨ad139, e139, hx139_0, hx139_1, hx139_2⟩ := at_T50 HR0_1.out (ji49) p139 q139
                    obtain rfl : ad137 = ad139 := (by injection e139)
                    replace hx139_0 := (HB.out.cell (World.block_lt_of_cell? w _ hx139_0)).trans hx139_0
                    replace hx139_1 := (HB.out.cell (World.block_lt_of_cell? w _ hx139_1)).trans hx139_1
                    replace hx139_2 := (HB.out.cell (World.block_lt_of_cell? w _ hx139_2)).trans hx139_2
                    replace p139 := eq_true p139
                    replace q139 := eq_true q139
                    have p140 : 0 ≤ ((ji49) : Int) := of_decide_eq_true (by first | (with_reducible assumption) | assumption)
                    have q140 : (ji49) < (l0_1.length : Int) := of_decide_eq_true (by first | (with_reducible assumption) | assumption)
                    obtain ⟨ad140, e140, hx140_0, hx140_1, hx140_2⟩ := at_T50 HR0_1.out (ji49) p140 q140
                    obtain rfl : ad137 = ad140 := (by injection e140)
                    replace hx140_0 := (HB.out.cell (World.block_lt_of_cell? w _ hx140_0)).trans hx140_0
                    replace hx140_1 := (HB.out.cell (World.block_lt_of_cell? w _ hx140_1)).trans hx140_1
                    replace hx140_2 := (HB.out.cell (World.block_lt_of_cell? w _ hx140_2)).trans hx140_2
                    replace p140 := eq_true p140
                    replace q140 := eq_true q140
                    have p141 : 0 ≤ ((ji49) : Int) := of_decide_eq_true (by first | (with_reducible assumption) | assumption)
                    have q141 : (ji49) < (l0_1.length : Int) := of_decide_eq_true (by first | (with_reducible assumption) | assumption)
                    obtain ⟨ad141, e141, hx141_0, hx141_1, hx141_2⟩ := at_T50 HR0_1.out (ji49) p141 q141
                    obtain rfl : ad137 = ad141 := (by injection e141)
                    replace hx141_0 := (HB.out.cell (World.block_lt_of_cell? w _ hx141_0)).trans hx141_0
                    replace hx141_1 := (HB.out.cell (World.block_lt_of_cell? w _ hx141_1)).trans hx141_1
                    replace hx141_2 := (HB.out.cell (World.block_lt_of_cell? w _ hx141_2)).trans hx141_2
                    replace p141 := eq_true p141
                    replace q141 := eq_true q141
                    go_wp2
                    repeat (go_quiet (fail); try go_wp2)
                    go_ret
                    exact ⟨by first | rfl | (simp [errW_none, errW_some] <;> rfl) | (simp only [← hji49]; first | rfl | (simp [errW_none, errW_some] <;> rfl)) | (simp [*, errW_none, errW_some] <;> rfl), by repeat (first | (with_reducible first | exact HB.out | apply below_alloc | apply pw_below_drewN | apply below_drew1 | refine below_set ?_ GE132.out | refine below_set ?_ GE138.out) | exact HB.out)⟩
                   ·
                    rw [if_neg c57] at H
                    have c57b0 : decide (((rd_T50 l0_1 x4_3).f1) ≤ ((rd_T50 l0_1 (ji49)).f1)) = false := decide_eq_false c57
                    clear c57
                    have H' := Aside0.mk H
                    clear H
                    have hnb61 := NB138_132.out
                    have hnc61 := NB132_138.out
                    have hcz62_0 : wc.cell? ⟨gb138, 0, none⟩ = some (.int .i64 ((rd_T50 l0_1 x4_3).f0)) := (blk_cell BK138.out 0).trans rfl
                    have hcz62_1 : wc.cell? ⟨gb138, 1, none⟩ = some (.int .i64 ((rd_T50 l0_1 x4_3).f1)) := (blk_cell BK138.out 1).trans rfl
                    have hcz62_2 : wc.cell? ⟨gb138, 2, none⟩ = some (.int .i64 ((rd_T50 l0_1 x4_3).f2)) := (blk_cell BK138.out 2).trans rfl
                    have hfz62_0 := blk_frozen BK138.out 0
                    have hfz62_1 := blk_frozen BK138.out 1
                    have hfz62_2 := blk_frozen BK138.out 2
                    have hcz63_0 : wc.cell? ⟨gb132, 0, none⟩ = some (.slice A0_0 l0_0.length c0_0) := (blk_cell BK132.out 0).trans rfl
                    have hcz63_1 : wc.cell? ⟨gb132, 1, none⟩ = some (.slice (some ad137) l0_1.length c0_1) := (blk_cell BK132.out 1).trans rfl
                    have hcz63_2 : wc.cell? ⟨gb132, 2, none⟩ = some (.slice A0_2 l0_2.length c0_2) := (blk_cell BK132.out 2).trans rfl
                    have hfz63_0 := blk_frozen BK132.out 0
                    have hfz63_1 := blk_frozen BK132.out 1
                    have hfz63_2 := blk_frozen BK132.out 2
                    have p139 : 0 ≤ ((ji49) : Int) := of_decide_eq_true (by first | (with_reducible assumption) | assumption)
                    have q139 : (ji49) < (l0_1.length : Int) := of_decide_eq_true (by first | (with_reducible assumption) | assumption)
                    obtain ⟨ad139, e139, hx139_0, hx139_1, hx139_2⟩ := at_T50 HR0_1.out (ji49) p139 q139
                    obtain rfl : ad137 = ad139 := (by injection e139)
                    replace hx139_0 := (HB.out.cell (World.block_lt_of_cell? w _ hx139_0)).trans hx139_0
                    replace hx139_1 := (HB.out.cell (World.block_lt_of_cell? w _ hx139_1)).trans hx139_1
                    replace hx139_2 := (HB.out.cell (World.block_lt_of_cell? w _ hx139_2)).trans hx139_2
                    replace p139 := eq_true p139
                    replace q139 := eq_true q139
                    have p140 : 0 ≤ ((ji49) : Int) := of_decide_eq_true (by first | (with_reducible assumption) | assumption)
                    have q140 : (ji49) < (l0_1.length : Int) := of_decide_eq_true (by first | (with_reducible assumption) | assumption)
                    obtain ⟨ad140, e140, hx140_0, hx140_1, hx140_2⟩ := at_T50 HR0_1.out (ji49) p140 q140
                    obtain rfl : ad137 = ad140 := (by injection e140)
                    replace hx140_0 := (HB.out.cell (World.block_lt_of_cell? w _ hx140_0)).trans hx140_0
                    replace hx140_1 := (HB.out.cell (World.block_lt_of_cell? w _ hx140_1)).trans hx140_1
                    replace hx140_2 := (HB.out.cell (World.block_lt_of_cell? w _ hx140_2)).trans hx140_2
                    replace p140 := eq_true p140
                    replace q140 := eq_true q140
                    have p141 : 0 ≤ ((ji49) : Int) := of_decide_eq_true (by first | (with_reducible assumption) | assumption)
                    have q141 : (ji49) < (l0_1.length : Int) := of_decide_eq_true (by first | (with_reducible assumption) | assumption)
                    obtain ⟨ad141, e141, hx141_0, hx141_1, hx141_2⟩ := at_T50 HR0_1.out (ji49) p141 q141
                    obtain rfl : ad137 = ad141 := (by injection e141)
                    replace hx141_0 := (HB.out.cell (World.block_lt_of_cell? w _ hx141_0)).trans hx141_0
                    replace hx141_1 := (HB.out.cell (World.block_lt_of_cell? w _ hx141_1)).trans hx141_1
                    replace hx141_2 := (HB.out.cell (World.block_lt_of_cell? w _ hx141_2)).trans hx141_2
                    replace p141 := eq_true p141
                    replace q141 := eq_true q141
                    go_wp2
                    repeat (go_quiet (fail); try go_wp2)
                    go_roundg kj24
                    case measure => have := HJ1.out; have := HK2.out; have := HK3.out; have := HJ24.out; omega
                    case rel => exact ⟨(wrap64 (x4_3 + 1)), (by first | rfl | (simp; done) | (simp [*]; done)), H', ⟨by have := HJ1.out; have := HK2.out; have := HK3.out; have := HJ24.out; omega⟩, ⟨by (with_reducible repeat (first | refine blk_drewN ?_ _ | refine blk_drew ?_ | refine blk_alloc ?_ _)); exact BK132.out⟩, ⟨by repeat (first | (with_reducible first | exact HB.out | apply below_alloc | apply pw_below_drewN | apply below_drew1 | refine below_set ?_ GE132.out | refine below_set ?_ GE138.out) | exact HB.out)⟩⟩
                  ·
                   rw [if_neg c56] at H
                   have c56b0 : (((rd_T50 l0_1 x4_3).f0) == ((rd_T50 l0_1 (ji49)).f0)) = false := beq_eq_false_iff_ne.mpr c56
                   have c56b1 : (((rd_T50 l0_1 x4_3).f0) != ((rd_T50 l0_1 (ji49)).f0)) = true := bne_iff_ne.mpr c56
                   have H' := Aside0.mk H
                   clear H
                   have hnb64 := NB138_132.out
                   have hnc64 := NB132_138.out
                   have hcz65_0 : wc.cell? ⟨gb138, 0, none⟩ = some (.int .i64 ((rd_T50 l0_1 x4_3).f0)) := (blk_cell BK138.out 0).trans rfl
                   have hcz65_1 : wc.cell? ⟨gb138, 1, none⟩ = some (.int .i64 ((rd_T50 l0_1 x4_3).f1)) := (blk_cell BK138.out 1).trans rfl
                   have hcz65_2 : wc.cell? ⟨gb138, 2, none⟩ = some (.int .i64 ((rd_T50 l0_1 x4_3).f2)) := (blk_cell BK138.out 2).trans rfl
                   have hfz65_0 := blk_frozen BK138.out 0
                   have hfz65_1 := blk_frozen BK138.out 1
                   have hfz65_2 := blk_frozen BK138.out 2
                   have hcz66_0 : wc.cell? ⟨gb132, 0, none⟩ = some (.slice A0_0 l0_0.length c0_0) := (blk_cell BK132.out 0).trans rfl
                   have hcz66_1 : wc.cell? ⟨gb132, 1, none⟩ = some (.slice (some ad137) l0_1.length c0_1) := (blk_cell BK132.out 1).trans rfl
                   have hcz66_2 : wc.cell? ⟨gb132, 2, none⟩ = some (.slice A0_2 l0_2.length c0_2) := (blk_cell BK132.out 2).trans rfl
                   have hfz66_0 := blk_frozen BK132.out 0
                   have hfz66_1 := blk_frozen BK132.out 1
                   have hfz66_2 := blk_frozen BK132.out 2
                   have p139 : 0 ≤ ((ji49) : Int) := of_decide_eq_true (by first | (with_reducible assumption) | assumption)
                   have q139 : (ji49) < (l0_1.length : Int) := of_decide_eq_true (by first | (with_reducible assumption) | assumption)
                   obtain ⟨ad139, e139, hx139_0, hx139_1, hx139_2⟩ := at_T50 HR0_1.out (ji49) p139 q139
                   obtain rfl : ad137 = ad139 := (by injection e139)
                   replace hx139_0 := (HB.out.cell (World.block_lt_of_cell? w _ hx139_0)).trans hx139_0
                   replace hx139_1 := (HB.out.cell (World.block_lt_of_cell? w _ hx139_1)).trans hx139_1
                   replace hx139_2 := (HB.out.cell (World.block_lt_of_cell? w _ hx139_2)).trans hx139_2
                   replace p139 := eq_true p139
                   replace q139 := eq_true q139
                   have p140 : 0 ≤ ((ji49) : Int) := of_decide_eq_true (by first | (with_reducible assumption) | assumption)
                   have q140 : (ji49) < (l0_1.length : Int) := of_decide_eq_true (by first | (with_reducible assumption) | assumption)
                   obtain ⟨ad140, e140, hx140_0, hx140_1, hx140_2⟩ := at_T50 HR0_1.out (ji49) p140 q140
                   obtain rfl : ad137 = ad140 := (by injection e140)
                   replace hx140_0 := (HB.out.cell (World.block_lt_of_cell? w _ hx140_0)).trans hx140_0
                   replace hx140_1 := (HB.out.cell (World.block_lt_of_cell? w _ hx140_1)).trans hx140_1
                   replace hx140_2 := (HB.out.cell (World.block_lt_of_cell? w _ hx140_2)).trans hx140_2
                   replace p140 := eq_true p140
                   replace q140 := eq_true q140
                   go_wp2
                   repeat (go_quiet (fail); try go_wp2)
                   go_roundg kj24
                   case measure => have := HJ1.out; have := HK2.out; have := HK3.out; have := HJ24.out; omega
                   case rel => exact ⟨(wrap64 (x4_3 + 1)), (by first | rfl | (simp; done) | (simp [*]; done)), H', ⟨by have := HJ1.out; have := HK2.out; have := HK3.out; have := HJ24.out; omega⟩, ⟨by (with_reducible repeat (first | refine blk_drewN ?_ _ | refine blk_drew ?_ | refine blk_alloc ?_ _)); exact BK132.out⟩, ⟨by repeat (first | (with_reducible first | exact HB.out | apply below_alloc | apply pw_below_drewN | apply below_drew1 | refine below_set ?_ GE132.out | refine below_set ?_ GE138.out) | exact HB.out)⟩⟩
                ·
                 rw [if_neg c51] at H
                 exact absurd H (by simp)
               ·
                rw [if_neg c50] at H
                exact absurd H (by simp)
              ·
               rw [if_neg c48] at H
               have c48b0 : decide (0 < x4_3) = false := decide_eq_false c48
               clear c48
               have H' := Aside0.mk H
               clear H
               go_wp2
               repeat (go_quiet (fail); try go_wp2)
               go_roundg kj24
               case measure => have := HJ1.out; have := HK2.out; have := HK3.out; have := HJ24.out; omega
               case rel => exact ⟨(wrap64 (x4_3 + 1)), (by first | rfl | (simp; done) | (simp [*]; done)), H', ⟨by have := HJ1.out; have := HK2.out; have := HK3.out; have := HJ24.out; omega⟩, ⟨by (with_reducible repeat (first | refine blk_drewN ?_ _ | refine blk_drew ?_ | refine blk_alloc ?_ _)); exact BK132.out⟩, ⟨by repeat (first | (with_reducible first | exact HB.out | apply below_alloc | apply pw_below_drewN | apply below_drew1 | refine below_set ?_ GE132.out | refine below_set ?_ GE138.out) | exact HB.out)⟩⟩
          ·
           rw [if_neg c24] at H
           exact absurd H (by simp)
         ·
          rw [if_neg c23] at H
          have c23b0 : decide (x4_3 < (l0_1.length : Int)) = false := decide_eq_false c23
          clear c23
          by_cases c67 : (l0_2.length : Int) = (l0_0.length : Int)
          ·
           rw [if_pos c67] at H
           have c67b0 : ((l0_2.length : Int) == (l0_0.length : Int)) = true := beq_iff_eq.mpr c67
           have c67b1 : ((l0_2.length : Int) != (l0_0.length : Int)) = false := bne_eq_false_iff_eq.mpr c67
           have c67b2 : (l0_2.length == l0_0.length) = true := by first | simpa using c67 | (simp at c67 ⊢; omega)
           clear c67
           have H' := Aside0.mk H
           clear H
           have hcz68_0 : wr.cell? ⟨gb132, 0, none⟩ = some (.slice A0_0 l0_0.length c0_0) := (blk_cell BK132.out 0).trans rfl
           have hcz68_1 : wr.cell? ⟨gb132, 1, none⟩ = some (.slice A0_1 l0_1.length c0_1) := (blk_cell BK132.out 1).trans rfl
           have hcz68_2 : wr.cell? ⟨gb132, 2, none⟩ = some (.slice A0_2 l0_2.length c0_2) := (blk_cell BK132.out 2).trans rfl
           have hfz68_0 := blk_frozen BK132.out 0
           have hfz68_1 := blk_frozen BK132.out 1
           have hfz68_2 := blk_frozen BK132.out 2
           go_wp2
           repeat (go_quiet (fail); try go_wp2)
           go_loopg [6] k3 (fun kq v6 w' => ∃ (x6_4 : Int), v6 = .int .i64 x6_4 ∧ Aside0 (laganref04_CheckBoard.l2 kq x6_4 l0_0 l0_1 l0_2 = some r) ∧ Aside0 (kq ≤ k3) ∧ Aside0 (w'.heap[gb132]? = some (.cells #[(.slice A0_0 l0_0.length c0_0), (.slice A0_1 l0_1.length c0_1), (.slice A0_2 l0_2.length c0_2)] 26 (0, 0))) ∧ Aside0 (Below w.heap.size w w'))
           case atStart => exact ⟨(0), (by first | rfl | (simp; done) | (simp [*]; done)), H', ⟨Nat.le_refl _⟩, ⟨by (with_reducible repeat (first | refine blk_drewN ?_ _ | refine blk_drew ?_ | refine blk_alloc ?_ _)); exact BK132.out⟩, ⟨by repeat (first | (with_reducible first | exact HB.out | apply below_alloc | apply pw_below_drewN | apply below_drew1 | refine below_set ?_ GE132.out) | exact HB.out)⟩⟩
           case round =>
            clear H'
            try clear c1
            try clear p1
            try clear q1
            try clear hx1
            try clear c2
            try clear p2
            try clear c3
            try clear c4
            try clear c4b0
            try clear c4b1
            try clear c5
            try clear c6
            try clear p6
            try clear c7
            try clear c8
            try clear c8b0
            try clear c9
            try clear c9b0
            try clear c10
            try clear c10b0
            try clear c12
            try clear c12b0
            try clear p13
            try clear q13
            try clear hx13
            try clear c14
            try clear c14b0
            try clear p14
            try clear q14
            try clear hx14
            try clear c16
            try clear c16b0
            try clear c17
            try clear c17b0
            try clear c18
            try clear c18b0
            try clear c19
            try clear c23
            try clear c23b0
            try clear c24
            try clear c24b0
            try clear c28
            try clear c30
            try clear c30b0
            try clear c31
            try clear c33
            try clear c33b0
            try clear c34
            try clear c36
            try clear c36b0
            try clear c37
            try clear c39
            try clear c39b0
            try clear c40
            try clear c42
            try clear c42b0
            try clear c43
            try clear c45
            try clear c47
            try clear c48
            try clear c48b0
            try clear c50
            try clear c50b0
            try clear c51
            try clear c51b0
            try clear c52
            try clear c52b0
            try clear c53
            try clear c56
            try clear c56b0
            try clear c56b1
            try clear c57
            try clear c57b0
            try clear c58
            try clear c61
            try clear c64
            try clear p64
            try clear c67
            try clear c67b0
            try clear c67b1
            try clear c67b2
            try clear hcz11_0
            try clear hcz11_1
            try clear hcz11_2
            try clear hcz13_0
            try clear hcz13_1
            try clear hcz13_2
            try clear hcz19_0
            try clear hcz19_1
            try clear hcz19_2
            try clear hcz20_0
            try clear hcz20_1
            try clear hcz20_2
            try clear hcz21_0
            try clear hcz21_1
            try clear hcz21_2
            try clear hcz22_0
            try clear hcz22_1
            try clear hcz22_2
            try clear hcz26_0
            try clear hcz26_1
            try clear hcz26_2
            try clear hcz29_0
            try clear hcz29_1
            try clear hcz29_2
            try clear hcz32_0
            try clear hcz32_1
            try clear hcz32_2
            try clear hcz35_0
            try clear hcz35_1
            try clear hcz35_2
            try clear hcz38_0
            try clear hcz38_1
            try clear hcz38_2
            try clear hcz41_0
            try clear hcz41_1
            try clear hcz41_2
            try clear hcz44_0
            try clear hcz44_1
            try clear hcz44_2
            try clear hcz46_0
            try clear hcz46_1
            try clear hcz46_2
            try clear hcz54_0
            try clear hcz54_1
            try clear hcz54_2
            try clear hcz55_0
            try clear hcz55_1
            try clear hcz55_2
            try clear hcz59_0
            try clear hcz59_1
            try clear hcz59_2
            try clear hcz5_0
            try clear hcz5_1
            try clear hcz5_2
            try clear hcz60_0
            try clear hcz60_1
            try clear hcz60_2
            try clear hcz62_0
            try clear hcz62_1
            try clear hcz62_2
            try clear hcz63_0
            try clear hcz63_1
            try clear hcz63_2
            try clear hcz65_0
            try clear hcz65_1
            try clear hcz65_2
            try clear hcz66_0
            try clear hcz66_1
            try clear hcz66_2
            try clear hcz68_0
            try clear hcz68_1
            try clear hcz68_2
            try clear hcz6_0
            try clear hcz6_1
            try clear hcz6_2
            try clear hfz11_0
            try clear hfz11_1
            try clear hfz11_2
            try clear hfz13_0
            try clear hfz13_1
            try clear hfz13_2
            try clear hfz19_0
            try clear hfz19_1
            try clear hfz19_2
            try clear hfz20_0
            try clear hfz20_1
            try clear hfz20_2
            try clear hfz21_0
            try clear hfz21_1
            try clear hfz21_2
            try clear hfz22_0
            try clear hfz22_1
            try clear hfz22_2
            try clear hfz26_0
            try clear hfz26_1
            try clear hfz26_2
            try clear hfz29_0
            try clear hfz29_1
            try clear hfz29_2
            try clear hfz32_0
            try clear hfz32_1
            try clear hfz32_2
            try clear hfz35_0
            try clear hfz35_1
            try clear hfz35_2
            try clear hfz38_0
            try clear hfz38_1
            try clear hfz38_2
            try clear hfz41_0
            try clear hfz41_1
            try clear hfz41_2
            try clear hfz44_0
            try clear hfz44_1
            try clear hfz44_2
            try clear hfz46_0
            try clear hfz46_1
            try clear hfz46_2
            try clear hfz54_0
            try clear hfz54_1
            try clear hfz54_2
            try clear hfz55_0
            try clear hfz55_1
            try clear hfz55_2
            try clear hfz59_0
            try clear hfz59_1
            try clear hfz59_2
            try clear hfz5_0
            try clear hfz5_1
            try clear hfz5_2
            try clear hfz60_0
            try clear hfz60_1
            try clear hfz60_2
            try clear hfz62_0
            try clear hfz62_1
            try clear hfz62_2
            try clear hfz63_0
            try clear hfz63_1
            try clear hfz63_2
            try clear hfz65_0
            try clear hfz65_1
            try clear hfz65_2
            try clear hfz66_0
            try clear hfz66_1
            try clear hfz66_2
            try clear hfz68_0
            try clear hfz68_1
            try clear hfz68_2
            try clear hfz6_0
            try clear hfz6_1
            try clear hfz6_2
            try clear hx133_0
            try clear hx134_0
            try clear hx135_0
            try clear hx136_0
            try clear hx137_0
            try clear hx137_1
            try clear hx137_2
            try clear hx139_0
            try clear hx139_1
            try clear hx139_2
            try clear hx140_0
            try clear hx140_1
            try clear hx140_2
            try clear hx141_0
            try clear hx141_1
            try clear hx141_2
            try clear p1
            try clear p13
            try clear p133
            try clear p134
            try clear p135
            try clear p136
            try clear p137
            try clear p139
            try clear p140
            try clear p141
            try clear p2
            try clear p6
            try clear q1
            try clear q13
            try clear q133
            try clear q134
            try clear q135
            try clear q136
            try clear q137
            try clear q139
            try clear q140
            try clear q141
            obtain ⟨x6_4, rfl, HA, HK4, BK132, HB⟩ := hrel
            cases gk with
            | zero => exact absurd HA.out (by simp [laganref04_CheckBoard.l2])
            | succ k4 =>
             have H := HA.out
             clear HA
             simp only [laganref04_CheckBoard.l2] at H
             by_cases c69 : x6_4 < (l0_2.length : Int)
             ·
              rw [if_pos c69] at H
              have c69b0 : decide (x6_4 < (l0_2.length : Int)) = true := decide_eq_true c69
              clear c69
              by_cases c70 : 0 ≤ x6_4
              ·
               rw [if_pos c70] at H
               have c70b0 : decide (0 ≤ x6_4) = true := decide_eq_true c70
               clear c70
               replace H := Option.bind_eq_some_iff.mp H
               obtain ⟨t143, A710, H⟩ := H
               replace H : (if t143 = true then (laganref04_CheckBoard.l2 k4 (wrap64 (x6_4 + 1)) l0_0 l0_1 l0_2) else (some 1)) = some r := H
               have A71 := Aside0.mk A710
               clear A710
               by_cases c72 : t143 = true
               ·
                subst c72
                have H1 : (laganref04_CheckBoard.l2 k4 (wrap64 (x6_4 + 1)) l0_0 l0_1 l0_2) = some r := by rw [if_pos rfl] at H; exact H
                clear H
                have H := H1
                clear H1
                have H' := Aside0.mk H
                clear H
                have hcz73_0 : wr.cell? ⟨gb132, 0, none⟩ = some (.slice A0_0 l0_0.length c0_0) := (blk_cell BK132.out 0).trans rfl
                have hcz73_1 : wr.cell? ⟨gb132, 1, none⟩ = some (.slice A0_1 l0_1.length c0_1) := (blk_cell BK132.out 1).trans rfl
                have hcz73_2 : wr.cell? ⟨gb132, 2, none⟩ = some (.slice A0_2 l0_2.length c0_2) := (blk_cell BK132.out 2).trans rfl
                have hfz73_0 := blk_frozen BK132.out 0
                have hfz73_1 := blk_frozen BK132.out 1
                have hfz73_2 := blk_frozen BK132.out 2
                have p142 : 0 ≤ (x6_4 : Int) := of_decide_eq_true (by first | (with_reducible assumption) | assumption)
                have q142 : x6_4 < (l0_2.length : Int) := of_decide_eq_true (by first | (with_reducible assumption) | assumption)
                obtain ⟨ad142, A142_0, c142_0, e142, hx142_0, hl142_0, hi142_0⟩ := at_L1 HR0_2.out x6_4 p142 q142
                cases e142
                replace hx142_0 := (HB.out.cell (World.block_lt_of_cell? w _ hx142_0)).trans hx142_0
                have HR142_0 := Aside0.mk hi142_0
                have HC142_0 := Aside0.mk hl142_0
                clear hi142_0 hl142_0
                replace p142 := eq_true p142
                replace q142 := eq_true q142
                go_wp2_with (first | (go_at_call 62; (with_reducible refine (laganref04_ascending.calls k4 _ _ (rd_L1 l0_2 x6_4) (l0_1.length : Int) true _ ?side1 ?side2 A71.out).mono ?_); (case side1 => repeat (first | exact (Kd.C_below HR142_0.out HB.out) | (with_reducible refine Kd.C_alloc ?_ _) | (with_reducible refine Kd.C_drewN ?_ _) | (with_reducible refine Kd.C_drew ?_))); (case side2 => exact HC142_0.out); rintro e w' ⟨rfl, ⟨nd, rfl⟩⟩; (try first | exact ⟨rfl, _, World.drewN_drewN _ _ _⟩ | exact ⟨rfl, _, Eq.trans (World.drewN_drewN _ _ _) (congrArg (World.drewN _) (Nat.add_assoc _ _ _))⟩)))
                repeat (go_quiet (first | (go_at_call 62; (with_reducible refine (laganref04_ascending.calls k4 _ _ (rd_L1 l0_2 x6_4) (l0_1.length : Int) true _ ?side1 ?side2 A71.out).mono ?_); (case side1 => repeat (first | exact (Kd.C_below HR142_0.out HB.out) | (with_reducible refine Kd.C_alloc ?_ _) | (with_reducible refine Kd.C_drewN ?_ _) | (with_reducible refine Kd.C_drew ?_))); (case side2 => exact HC142_0.out); rintro e w' ⟨rfl, ⟨nd, rfl⟩⟩; (try first | exact ⟨rfl, _, World.drewN_drewN _ _ _⟩ | exact ⟨rfl, _, Eq.trans (World.drewN_drewN _ _ _) (congrArg (World.drewN _) (Nat.add_assoc _ _ _))⟩))); try go_wp2_with (first | (go_at_call 62; (with_reducible refine (laganref04_ascending.calls k4 _ _ (rd_L1 l0_2 x6_4) (l0_1.length : Int) true _ ?side1 ?side2 A71.out).mono ?_); (case side1 => repeat (first | exact (Kd.C_below HR142_0.out HB.out) | (with_reducible refine Kd.C_alloc ?_ _) | (with_reducible refine Kd.C_drewN ?_ _) | (with_reducible refine Kd.C_drew ?_))); (case side2 => exact HC142_0.out); rintro e w' ⟨rfl, ⟨nd, rfl⟩⟩; (try first | exact ⟨rfl, _, World.drewN_drewN _ _ _⟩ | exact ⟨rfl, _, Eq.trans (World.drewN_drewN _ _ _) (congrArg (World.drewN _) (Nat.add_assoc _ _ _))⟩))))
                go_roundg k4
                case measure => have := HJ1.out; have := HK2.out; have := HK3.out; have := HK4.out; omega
                case rel => exact ⟨(wrap64 (x6_4 + 1)), (by first | rfl | (simp; done) | (simp [*]; done)), H', ⟨by have := HJ1.out; have := HK2.out; have := HK3.out; have := HK4.out; omega⟩, ⟨by (with_reducible repeat (first | refine blk_drewN ?_ _ | refine blk_drew ?_ | refine blk_alloc ?_ _)); exact BK132.out⟩, ⟨by repeat (first | (with_reducible first | exact HB.out | apply below_alloc | apply pw_below_drewN | apply below_drew1 | refine below_set ?_ GE132.out) | exact HB.out)⟩⟩
               ·
                replace c72 := Bool.eq_false_iff.mpr c72
                subst c72
                have H1 : (some 1) = some r := by rw [if_neg (show ¬ (false = true) by decide)] at H; exact H
                clear H
                have H := H1
                clear H1
                obtain rfl := Option.some.inj H
                have hcz74_0 : wr.cell? ⟨gb132, 0, none⟩ = some (.slice A0_0 l0_0.length c0_0) := (blk_cell BK132.out 0).trans rfl
                have hcz74_1 : wr.cell? ⟨gb132, 1, none⟩ = some (.slice A0_1 l0_1.length c0_1) := (blk_cell BK132.out 1).trans rfl
                have hcz74_2 : wr.cell? ⟨gb132, 2, none⟩ = some (.slice A0_2 l0_2.length c0_2) := (blk_cell BK132.out 2).trans rfl
                have hfz74_0 := blk_frozen BK132.out 0
                have hfz74_1 := blk_frozen BK132.out 1
                have hfz74_2 := blk_frozen BK132.out 2
                have p142 : 0 ≤ (x6_4 : Int) := of_decide_eq_true (by first | (with_reducible assumption) | assumption)
                have q142 : x6_4 < (l0_2.length : Int) := of_decide_eq_true (by first | (with_reducible assumption) | assumption)
                obtain ⟨ad142, A142_0, c142_0, e142, hx142_0, hl142_0, hi142_0⟩ := at_L1 HR0_2.out x6_4 p142 q142
                cases e142
                replace hx142_0 := (HB.out.cell (World.block_lt_of_cell? w _ hx142_0)).trans hx142_0
                have HR142_0 := Aside0.mk hi142_0
                have HC142_0 := Aside0.mk hl142_0
                clear hi142_0 hl142_0
                replace p142 := eq_true p142
                replace q142 := eq_true q142
                go_wp2_with (first | (go_at_call 62; (with_reducible refine (laganref04_ascending.calls k4 _ _ (rd_L1 l0_2 x6_4) (l0_1.length : Int) false _ ?side1 ?side2 A71.out).mono ?_); (case side1 => repeat (first | exact (Kd.C_below HR142_0.out HB.out) | (with_reducible refine Kd.C_alloc ?_ _) | (with_reducible refine Kd.C_drewN ?_ _) | (with_reducible refine Kd.C_drew ?_))); (case side2 => exact HC142_0.out); rintro e w' ⟨rfl, ⟨nd, rfl⟩⟩; (try first | exact ⟨rfl, _, World.drewN_drewN _ _ _⟩ | exact ⟨rfl, _, Eq.trans (World.drewN_drewN _ _ _) (congrArg (World.drewN _) (Nat.add_assoc _ _ _))⟩)))
                repeat (go_quiet (first | (go_at_call 62; (with_reducible refine (laganref04_ascending.calls k4 _ _ (rd_L1 l0_2 x6_4) (l0_1.length : Int) false _ ?side1 ?side2 A71.out).mono ?_); (case side1 => repeat (first | exact (Kd.C_below HR142_0.out HB.out) | (with_reducible refine Kd.C_alloc ?_ _) | (with_reducible refine Kd.C_drewN ?_ _) | (with_reducible refine Kd.C_drew ?_))); (case side2 => exact HC142_0.out); rintro e w' ⟨rfl, ⟨nd, rfl⟩⟩; (try first | exact ⟨rfl, _, World.drewN_drewN _ _ _⟩ | exact ⟨rfl, _, Eq.trans (World.drewN_drewN _ _ _) (congrArg (World.drewN _) (Nat.add_assoc _ _ _))⟩))); try go_wp2_with (first | (go_at_call 62; (with_reducible refine (laganref04_ascending.calls k4 _ _ (rd_L1 l0_2 x6_4) (l0_1.length : Int) false _ ?side1 ?side2 A71.out).mono ?_); (case side1 => repeat (first | exact (Kd.C_below HR142_0.out HB.out) | (with_reducible refine Kd.C_alloc ?_ _) | (with_reducible refine Kd.C_drewN ?_ _) | (with_reducible refine Kd.C_drew ?_))); (case side2 => exact HC142_0.out); rintro e w' ⟨rfl, ⟨nd, rfl⟩⟩; (try first | exact ⟨rfl, _, World.drewN_drewN _ _ _⟩ | exact ⟨rfl, _, Eq.trans (World.drewN_drewN _ _ _) (congrArg (World.drewN _) (Nat.add_assoc _ _ _))⟩))))
                go_ret
                exact ⟨by first | rfl | (simp [errW_none, errW_some] <;> rfl) | (simp [*, errW_none, errW_some] <;> rfl), by repeat (first | (with_reducible first | exact HB.out | apply below_alloc | apply pw_below_drewN | apply below_drew1 | refine below_set ?_ GE132.out) | exact HB.out)⟩
              ·
               rw [if_neg c70] at H
               exact absurd H (by simp)
             ·
              rw [if_neg c69] at H
              have c69b0 : decide (x6_4 < (l0_2.length : Int)) = false := decide_eq_false c69
              clear c69
              obtain rfl := Option.some.inj H
              have hcz75_0 : wr.cell? ⟨gb132, 0, none⟩ = some (.slice A0_0 l0_0.length c0_0) := (blk_cell BK132.out 0).trans rfl
              have hcz75_1 : wr.cell? ⟨gb132, 1, none⟩ = some (.slice A0_1 l0_1.length c0_1) := (blk_cell BK132.out 1).trans rfl
              have hcz75_2 : wr.cell? ⟨gb132, 2, none⟩ = some (.slice A0_2 l0_2.length c0_2) := (blk_cell BK132.out 2).trans rfl
              have hfz75_0 := blk_frozen BK132.out 0
              have hfz75_1 := blk_frozen BK132.out 1
              have hfz75_2 := blk_frozen BK132.out 2
              go_wp2
              repeat (go_quiet (fail); try go_wp2)
              go_ret
              exact ⟨by first | rfl | (simp [errW_none, errW_some] <;> rfl) | (simp [*, errW_none, errW_some] <;> rfl), by repeat (first | (with_reducible first | exact HB.out | apply below_alloc | apply pw_below_drewN | apply below_drew1 | refine below_set ?_ GE132.out) | exact HB.out)⟩
          ·
           rw [if_neg c67] at H
           have c67b0 : ((l0_2.length : Int) == (l0_0.length : Int)) = false := beq_eq_false_iff_ne.mpr c67
           have c67b1 : ((l0_2.length : Int) != (l0_0.length : Int)) = true := bne_iff_ne.mpr c67
           have c67b2 : (l0_2.length == l0_0.length) = false := by first | simpa using c67 | (simp at c67 ⊢; omega)
           obtain rfl := Option.some.inj H
           have hcz76_0 : wr.cell? ⟨gb132, 0, none⟩ = some (.slice A0_0 l0_0.length c0_0) := (blk_cell BK132.out 0).trans rfl
           have hcz76_1 : wr.cell? ⟨gb132, 1, none⟩ = some (.slice A0_1 l0_1.length c0_1) := (blk_cell BK132.out 1).trans rfl
           have hcz76_2 : wr.cell? ⟨gb132, 2, none⟩ = some (.slice A0_2 l0_2.length c0_2) := (blk_cell BK132.out 2).trans rfl
           have hfz76_0 := blk_frozen BK132.out 0
           have hfz76_1 := blk_frozen BK132.out 1
           have hfz76_2 := blk_frozen BK132.out 2
           go_wp2
           repeat (go_quiet (fail); try go_wp2)
           go_ret
           exact ⟨by first | rfl | (simp [errW_none, errW_some] <;> rfl) | (simp [*, errW_none, errW_some] <;> rfl), by repeat (first | (with_reducible first | exact HB.out | apply below_alloc | apply pw_below_drewN | apply below_drew1 | refine below_set ?_ GE132.out) | exact HB.out)⟩
def laganref04_there.f (k : Nat) (l0_0 : List Int) (l0_1 : List (S50)) (l0_2 : List (List Int)) (a1 : Int) (a2 : Int) : Option (Int) := (laganref04_CheckBoard.f k l0_0 l0_1 l0_2).bind fun t296 => (if t296 = 0 then (if a1 < 0 then (some 1) else (if a1 ≥ (l0_0.length : Int) then (some 1) else (if a2 < 0 then (some 1) else (if a2 ≥ (l0_1.length : Int) then (some 1) else (some t296))))) else (some t296))
theorem laganref04_there.mono : ∀ a0 a1 a2 a3 a4 k, LeO (laganref04_there.f k a0 a1 a2 a3 a4) (laganref04_there.f (k + 1) a0 a1 a2 a3 a4) := by
 intro a0 a1 a2 a3 a4 k
 unfold laganref04_there.f
 repeat' first
   | (with_reducible exact laganref04_CheckBoard.mono _ _ _ _)
   | (with_reducible exact LeO.refl _)
   | (with_reducible exact LeO.none _)
   | (with_reducible refine LeO.ite ?_ ?_)
   | (with_reducible refine LeO.bind ?_ (fun _ => ?_))
   | exact laganref04_CheckBoard.mono _ _ _ _
   | exact LeO.none _
   | refine LeO.ite ?_ ?_
   | refine LeO.bind ?_ (fun _ => ?_)
set_option maxHeartbeats 8000000 in
set_option maxRecDepth 100000 in
theorem laganref04_there.calls (k : Nat) (A0_0 : Option Addr) (c0_0 : Nat) (l0_0 : List Int) (A0_1 : Option Addr) (c0_1 : Nat) (l0_1 : List (S50)) (A0_2 : Option Addr) (c0_2 : Nat) (l0_2 : List (List Int)) (a1 : Int) (a2 : Int) (r : Int) (w : World) (hr0_0 : Kd.C (Kd.int .i64) w A0_0 l0_0.length l0_0) (hc0_0 : l0_0.length ≤ c0_0) (hr0_1 : Kd.C k50 w A0_1 l0_1.length l0_1) (hc0_1 : l0_1.length ≤ c0_1) (hr0_2 : Kd.C (Kd.slice 3 (Kd.int .i64)) w A0_2 l0_2.length l0_2) (hc0_2 : l0_2.length ≤ c0_2) (h : laganref04_there.f k l0_0 l0_1 l0_2 a1 a2 = some r) :
  Calls Try.prog 72 #[.agg #[.slice A0_0 l0_0.length c0_0, .slice A0_1 l0_1.length c0_1, .slice A0_2 l0_2.length c0_2], .int .i64 a1, .int .i64 a2] w fun e w' => e = .returned (.int .i64 r) ∧ Below w.heap.size w w' := by
 have hu26 := Try.underlying26
 have HR0_0 := Aside0.mk hr0_0
 have HC0_0 := Aside0.mk hc0_0
 clear hr0_0 hc0_0
 have HR0_1 := Aside0.mk hr0_1
 have HC0_1 := Aside0.mk hc0_1
 clear hr0_1 hc0_1
 have HR0_2 := Aside0.mk hr0_2
 have HC0_2 := Aside0.mk hc0_2
 clear hr0_2 hc0_2
 have HB := Aside0.mk (Below.refl w.heap.size w)
 have H : ((laganref04_CheckBoard.f k l0_0 l0_1 l0_2).bind fun t296 => (if t296 = 0 then (if a1 < 0 then (some 1) else (if a1 ≥ (l0_0.length : Int) then (some 1) else (if a2 < 0 then (some 1) else (if a2 ≥ (l0_1.length : Int) then (some 1) else (some t296))))) else (some t296))) = some r := h
 clear h
 replace H := Option.bind_eq_some_iff.mp H
 obtain ⟨t296, A40, H⟩ := H
 replace H : (if t296 = 0 then (if a1 < 0 then (some 1) else (if a1 ≥ (l0_0.length : Int) then (some 1) else (if a2 < 0 then (some 1) else (if a2 ≥ (l0_1.length : Int) then (some 1) else (some t296))))) else (some t296)) = some r := H
 have A4 := Aside0.mk A40
 clear A40
 by_cases c5 : t296 = 0
 ·
  rw [if_pos c5] at H
  have c5b0 : (t296 == 0) = true := beq_iff_eq.mpr c5
  have c5b1 : (t296 != 0) = false := bne_eq_false_iff_eq.mpr c5
  clear c5
  by_cases c6 : a1 < 0
  ·
   rw [if_pos c6] at H
   have c6b0 : decide (a1 < 0) = true := decide_eq_true c6
   clear c6
   obtain rfl := Option.some.inj H
   go_enter Try.func72, Try.ntmps72
   go_wp2_with (first | ((with_reducible refine gate_dst (N := 3) rfl ?_); (try (refine gate_guard (by rfl) ?_; dsimp only)); refine box_event ?hg (N := 3) ?hd (cs := #[.slice A0_0 l0_0.length c0_0, .slice A0_1 l0_1.length c0_1, .slice A0_2 l0_2.length c0_2]) (t := 26) ?hr ?_; (case hd => rfl); (case hg => rfl); (case hr => first | (go_simp; done) | (go_simp; rfl)); intro gb295 hg w7 hbox hb; have n0_ := Aside0.mk (below_step (by repeat (first | (with_reducible first | exact HB.out | apply below_alloc | apply pw_below_drewN | apply below_drew1) | exact HB.out)) hb); have n1_ := Aside0.mk (hbox); have n2_ := Aside0.mk ((by rw [hg]; exact (below_size (by repeat (first | (with_reducible first | exact HB.out | apply below_alloc | apply pw_below_drewN | apply below_drew1) | exact HB.out))) : w.heap.size ≤ gb295)); have n3_ := Aside0.mk ((by rw [hg]; exact (below_size (by repeat (first | (with_reducible first | exact HB.out | apply below_alloc | apply pw_below_drewN | apply below_drew1) | exact HB.out))) : w.heap.size ≤ gb295)); clear HB; have HB := n0_; have BK295 := n1_; have GW295 := n2_; have GE295 := n3_; clear n0_ n1_ n2_ n3_; clear hb hbox hg; have hcz8_0 : w7.cell? ⟨gb295, 0, none⟩ = some (.slice A0_0 l0_0.length c0_0) := (blk_cell BK295.out 0).trans rfl; have hcz8_1 : w7.cell? ⟨gb295, 1, none⟩ = some (.slice A0_1 l0_1.length c0_1) := (blk_cell BK295.out 1).trans rfl; have hcz8_2 : w7.cell? ⟨gb295, 2, none⟩ = some (.slice A0_2 l0_2.length c0_2) := (blk_cell BK295.out 2).trans rfl; have hfz8_0 := blk_frozen BK295.out 0; have hfz8_1 := blk_frozen BK295.out 1; have hfz8_2 := blk_frozen BK295.out 2) | ((with_reducible refine gate_callee (f := 19) rfl ?_); refine goesL_ (some 9) rfl rfl Try.func19 (by kernel_rfl) rfl #[.agg #[.slice A0_0 l0_0.length c0_0, .slice A0_1 l0_1.length c0_1, .slice A0_2 l0_2.length c0_2]] rfl (by (try simp only [List.map_toArray, List.map_cons, List.map_nil]); first | done | rfl | (simp only [List.length_drop, List.length_take]; rfl)) ?_; (with_reducible refine (laganref04_CheckBoard.calls k _ _ l0_0 _ _ l0_1 _ _ l0_2 t296 _ ?side1 ?side2 ?side3 ?side4 ?side5 ?side6 A4.out).mono ?_); (case side1 => repeat (first | exact (Kd.C_below HR0_0.out HB.out) | (with_reducible refine Kd.C_alloc ?_ _) | (with_reducible refine Kd.C_drewN ?_ _) | (with_reducible refine Kd.C_drew ?_))); (case side2 => exact HC0_0.out); (case side3 => repeat (first | exact (Kd.C_below HR0_1.out HB.out) | (with_reducible refine Kd.C_alloc ?_ _) | (with_reducible refine Kd.C_drewN ?_ _) | (with_reducible refine Kd.C_drew ?_))); (case side4 => exact HC0_1.out); (case side5 => repeat (first | exact (Kd.C_below HR0_2.out HB.out) | (with_reducible refine Kd.C_alloc ?_ _) | (with_reducible refine Kd.C_drewN ?_ _) | (with_reducible refine Kd.C_drew ?_))); (case side6 => exact HC0_2.out); rintro e w9 ⟨rfl, hb⟩; refine ⟨_, rfl, ?_⟩; have n0_ := Aside0.mk (blk_below (g := gb295) (o := .cells #[.slice A0_0 l0_0.length c0_0, .slice A0_1 l0_1.length c0_1, .slice A0_2 l0_2.length c0_2] 26 (0, 0)) (by (with_reducible repeat (first | refine blk_drewN ?_ _ | refine blk_drew ?_ | refine blk_alloc ?_ _)); exact BK295.out) hb); have n1_ := Aside0.mk (below_step (by repeat (first | (with_reducible first | exact HB.out | apply below_alloc | apply pw_below_drewN | apply below_drew1 | refine below_set ?_ GE295.out) | exact HB.out)) hb); clear BK295; clear HB; have BK295 := n0_; have HB := n1_; clear n0_ n1_; (try clear hb); (try clear hb2); (try clear hk); (try clear hi)))
   go_ret
   exact ⟨by first | rfl | (simp [errW_none, errW_some] <;> rfl) | (simp [*, errW_none, errW_some] <;> rfl), by repeat (first | (with_reducible first | exact HB.out | apply below_alloc | apply pw_below_drewN | apply below_drew1 | refine below_set ?_ GE295.out) | exact HB.out)⟩
  ·
   rw [if_neg c6] at H
   have c6b0 : decide (a1 < 0) = false := decide_eq_false c6
   clear c6
   by_cases c10 : a1 ≥ (l0_0.length : Int)
   ·
    rw [if_pos c10] at H
    have c10b0 : decide ((l0_0.length : Int) ≤ a1) = true := decide_eq_true c10
    clear c10
    obtain rfl := Option.some.inj H
    go_enter Try.func72, Try.ntmps72
    go_wp2_with (first | ((with_reducible refine gate_dst (N := 3) rfl ?_); (try (refine gate_guard (by rfl) ?_; dsimp only)); refine box_event ?hg (N := 3) ?hd (cs := #[.slice A0_0 l0_0.length c0_0, .slice A0_1 l0_1.length c0_1, .slice A0_2 l0_2.length c0_2]) (t := 26) ?hr ?_; (case hd => rfl); (case hg => rfl); (case hr => first | (go_simp; done) | (go_simp; rfl)); intro gb295 hg w11 hbox hb; have n0_ := Aside0.mk (below_step (by repeat (first | (with_reducible first | exact HB.out | apply below_alloc | apply pw_below_drewN | apply below_drew1) | exact HB.out)) hb); have n1_ := Aside0.mk (hbox); have n2_ := Aside0.mk ((by rw [hg]; exact (below_size (by repeat (first | (with_reducible first | exact HB.out | apply below_alloc | apply pw_below_drewN | apply below_drew1) | exact HB.out))) : w.heap.size ≤ gb295)); have n3_ := Aside0.mk ((by rw [hg]; exact (below_size (by repeat (first | (with_reducible first | exact HB.out | apply below_alloc | apply pw_below_drewN | apply below_drew1) | exact HB.out))) : w.heap.size ≤ gb295)); clear HB; have HB := n0_; have BK295 := n1_; have GW295 := n2_; have GE295 := n3_; clear n0_ n1_ n2_ n3_; clear hb hbox hg; have hcz12_0 : w11.cell? ⟨gb295, 0, none⟩ = some (.slice A0_0 l0_0.length c0_0) := (blk_cell BK295.out 0).trans rfl; have hcz12_1 : w11.cell? ⟨gb295, 1, none⟩ = some (.slice A0_1 l0_1.length c0_1) := (blk_cell BK295.out 1).trans rfl; have hcz12_2 : w11.cell? ⟨gb295, 2, none⟩ = some (.slice A0_2 l0_2.length c0_2) := (blk_cell BK295.out 2).trans rfl; have hfz12_0 := blk_frozen BK295.out 0; have hfz12_1 := blk_frozen BK295.out 1; have hfz12_2 := blk_frozen BK295.out 2) | ((with_reducible refine gate_callee (f := 19) rfl ?_); refine goesL_ (some 9) rfl rfl Try.func19 (by kernel_rfl) rfl #[.agg #[.slice A0_0 l0_0.length c0_0, .slice A0_1 l0_1.length c0_1, .slice A0_2 l0_2.length c0_2]] rfl (by (try simp only [List.map_toArray, List.map_cons, List.map_nil]); first | done | rfl | (simp only [List.length_drop, List.length_take]; rfl)) ?_; (with_reducible refine (laganref04_CheckBoard.calls k _ _ l0_0 _ _ l0_1 _ _ l0_2 t296 _ ?side1 ?side2 ?side3 ?side4 ?side5 ?side6 A4.out).mono ?_); (case side1 => repeat (first | exact (Kd.C_below HR0_0.out HB.out) | (with_reducible refine Kd.C_alloc ?_ _) | (with_reducible refine Kd.C_drewN ?_ _) | (with_reducible refine Kd.C_drew ?_))); (case side2 => exact HC0_0.out); (case side3 => repeat (first | exact (Kd.C_below HR0_1.out HB.out) | (with_reducible refine Kd.C_alloc ?_ _) | (with_reducible refine Kd.C_drewN ?_ _) | (with_reducible refine Kd.C_drew ?_))); (case side4 => exact HC0_1.out); (case side5 => repeat (first | exact (Kd.C_below HR0_2.out HB.out) | (with_reducible refine Kd.C_alloc ?_ _) | (with_reducible refine Kd.C_drewN ?_ _) | (with_reducible refine Kd.C_drew ?_))); (case side6 => exact HC0_2.out); rintro e w13 ⟨rfl, hb⟩; refine ⟨_, rfl, ?_⟩; have n0_ := Aside0.mk (blk_below (g := gb295) (o := .cells #[.slice A0_0 l0_0.length c0_0, .slice A0_1 l0_1.length c0_1, .slice A0_2 l0_2.length c0_2] 26 (0, 0)) (by (with_reducible repeat (first | refine blk_drewN ?_ _ | refine blk_drew ?_ | refine blk_alloc ?_ _)); exact BK295.out) hb); have n1_ := Aside0.mk (below_step (by repeat (first | (with_reducible first | exact HB.out | apply below_alloc | apply pw_below_drewN | apply below_drew1 | refine below_set ?_ GE295.out) | exact HB.out)) hb); clear BK295; clear HB; have BK295 := n0_; have HB := n1_; clear n0_ n1_; (try clear hb); (try clear hb2); (try clear hk); (try clear hi); have hcz14_0 : w13.cell? ⟨gb295, 0, none⟩ = some (.slice A0_0 l0_0.length c0_0) := (blk_cell BK295.out 0).trans rfl; have hcz14_1 : w13.cell? ⟨gb295, 1, none⟩ = some (.slice A0_1 l0_1.length c0_1) := (blk_cell BK295.out 1).trans rfl; have hcz14_2 : w13.cell? ⟨gb295, 2, none⟩ = some (.slice A0_2 l0_2.length c0_2) := (blk_cell BK295.out 2).trans rfl; have hfz14_0 := blk_frozen BK295.out 0; have hfz14_1 := blk_frozen BK295.out 1; have hfz14_2 := blk_frozen BK295.out 2))
    go_ret
    exact ⟨by first | rfl | (simp [errW_none, errW_some] <;> rfl) | (simp [*, errW_none, errW_some] <;> rfl), by repeat (first | (with_reducible first | exact HB.out | apply below_alloc | apply pw_below_drewN | apply below_drew1 | refine below_set ?_ GE295.out) | exact HB.out)⟩
   ·
    rw [if_neg c10] at H
    have c10b0 : decide ((l0_0.length : Int) ≤ a1) = false := decide_eq_false c10
    clear c10
    by_cases c15 : a2 < 0
    ·
     rw [if_pos c15] at H
     have c15b0 : decide (a2 < 0) = true := decide_eq_true c15
     clear c15
     obtain rfl := Option.some.inj H
     go_enter Try.func72, Try.ntmps72
     go_wp2_with (first | ((with_reducible refine gate_dst (N := 3) rfl ?_); (try (refine gate_guard (by rfl) ?_; dsimp only)); refine box_event ?hg (N := 3) ?hd (cs := #[.slice A0_0 l0_0.length c0_0, .slice A0_1 l0_1.length c0_1, .slice A0_2 l0_2.length c0_2]) (t := 26) ?hr ?_; (case hd => rfl); (case hg => rfl); (case hr => first | (go_simp; done) | (go_simp; rfl)); intro gb295 hg w16 hbox hb; have n0_ := Aside0.mk (below_step (by repeat (first | (with_reducible first | exact HB.out | apply below_alloc | apply pw_below_drewN | apply below_drew1) | exact HB.out)) hb); have n1_ := Aside0.mk (hbox); have n2_ := Aside0.mk ((by rw [hg]; exact (below_size (by repeat (first | (with_reducible first | exact HB.out | apply below_alloc | apply pw_below_drewN | apply below_drew1) | exact HB.out))) : w.heap.size ≤ gb295)); have n3_ := Aside0.mk ((by rw [hg]; exact (below_size (by repeat (first | (with_reducible first | exact HB.out | apply below_alloc | apply pw_below_drewN | apply below_drew1) | exact HB.out))) : w.heap.size ≤ gb295)); clear HB; have HB := n0_; have BK295 := n1_; have GW295 := n2_; have GE295 := n3_; clear n0_ n1_ n2_ n3_; clear hb hbox hg; have hcz17_0 : w16.cell? ⟨gb295, 0, none⟩ = some (.slice A0_0 l0_0.length c0_0) := (blk_cell BK295.out 0).trans rfl; have hcz17_1 : w16.cell? ⟨gb295, 1, none⟩ = some (.slice A0_1 l0_1.length c0_1) := (blk_cell BK295.out 1).trans rfl; have hcz17_2 : w16.cell? ⟨gb295, 2, none⟩ = some (.slice A0_2 l0_2.length c0_2) := (blk_cell BK295.out 2).trans rfl; have hfz17_0 := blk_frozen BK295.out 0; have hfz17_1 := blk_frozen BK295.out 1; have hfz17_2 := blk_frozen BK295.out 2) | ((with_reducible refine gate_callee (f := 19) rfl ?_); refine goesL_ (some 9) rfl rfl Try.func19 (by kernel_rfl) rfl #[.agg #[.slice A0_0 l0_0.length c0_0, .slice A0_1 l0_1.length c0_1, .slice A0_2 l0_2.length c0_2]] rfl (by (try simp only [List.map_toArray, List.map_cons, List.map_nil]); first | done | rfl | (simp only [List.length_drop, List.length_take]; rfl)) ?_; (with_reducible refine (laganref04_CheckBoard.calls k _ _ l0_0 _ _ l0_1 _ _ l0_2 t296 _ ?side1 ?side2 ?side3 ?side4 ?side5 ?side6 A4.out).mono ?_); (case side1 => repeat (first | exact (Kd.C_below HR0_0.out HB.out) | (with_reducible refine Kd.C_alloc ?_ _) | (with_reducible refine Kd.C_drewN ?_ _) | (with_reducible refine Kd.C_drew ?_))); (case side2 => exact HC0_0.out); (case side3 => repeat (first | exact (Kd.C_below HR0_1.out HB.out) | (with_reducible refine Kd.C_alloc ?_ _) | (with_reducible refine Kd.C_drewN ?_ _) | (with_reducible refine Kd.C_drew ?_))); (case side4 => exact HC0_1.out); (case side5 => repeat (first | exact (Kd.C_below HR0_2.out HB.out) | (with_reducible refine Kd.C_alloc ?_ _) | (with_reducible refine Kd.C_drewN ?_ _) | (with_reducible refine Kd.C_drew ?_))); (case side6 => exact HC0_2.out); rintro e w18 ⟨rfl, hb⟩; refine ⟨_, rfl, ?_⟩; have n0_ := Aside0.mk (blk_below (g := gb295) (o := .cells #[.slice A0_0 l0_0.length c0_0, .slice A0_1 l0_1.length c0_1, .slice A0_2 l0_2.length c0_2] 26 (0, 0)) (by (with_reducible repeat (first | refine blk_drewN ?_ _ | refine blk_drew ?_ | refine blk_alloc ?_ _)); exact BK295.out) hb); have n1_ := Aside0.mk (below_step (by repeat (first | (with_reducible first | exact HB.out | apply below_alloc | apply pw_below_drewN | apply below_drew1 | refine below_set ?_ GE295.out) | exact HB.out)) hb); clear BK295; clear HB; have BK295 := n0_; have HB := n1_; clear n0_ n1_; (try clear hb); (try clear hb2); (try clear hk); (try clear hi); have hcz19_0 : w18.cell? ⟨gb295, 0, none⟩ = some (.slice A0_0 l0_0.length c0_0) := (blk_cell BK295.out 0).trans rfl; have hcz19_1 : w18.cell? ⟨gb295, 1, none⟩ = some (.slice A0_1 l0_1.length c0_1) := (blk_cell BK295.out 1).trans rfl; have hcz19_2 : w18.cell? ⟨gb295, 2, none⟩ = some (.slice A0_2 l0_2.length c0_2) := (blk_cell BK295.out 2).trans rfl; have hfz19_0 := blk_frozen BK295.out 0; have hfz19_1 := blk_frozen BK295.out 1; have hfz19_2 := blk_frozen BK295.out 2))
     go_ret
     exact ⟨by first | rfl | (simp [errW_none, errW_some] <;> rfl) | (simp [*, errW_none, errW_some] <;> rfl), by repeat (first | (with_reducible first | exact HB.out | apply below_alloc | apply pw_below_drewN | apply below_drew1 | refine below_set ?_ GE295.out) | exact HB.out)⟩
    ·
     rw [if_neg c15] at H
     have c15b0 : decide (a2 < 0) = false := decide_eq_false c15
     clear c15
     by_cases c20 : a2 ≥ (l0_1.length : Int)
     ·
      rw [if_pos c20] at H
      have c20b0 : decide ((l0_1.length : Int) ≤ a2) = true := decide_eq_true c20
      clear c20
      obtain rfl := Option.some.inj H
      go_enter Try.func72, Try.ntmps72
      go_wp2_with (first | ((with_reducible refine gate_dst (N := 3) rfl ?_); (try (refine gate_guard (by rfl) ?_; dsimp only)); refine box_event ?hg (N := 3) ?hd (cs := #[.slice A0_0 l0_0.length c0_0, .slice A0_1 l0_1.length c0_1, .slice A0_2 l0_2.length c0_2]) (t := 26) ?hr ?_; (case hd => rfl); (case hg => rfl); (case hr => first | (go_simp; done) | (go_simp; rfl)); intro gb295 hg w21 hbox hb; have n0_ := Aside0.mk (below_step (by repeat (first | (with_reducible first | exact HB.out | apply below_alloc | apply pw_below_drewN | apply below_drew1) | exact HB.out)) hb); have n1_ := Aside0.mk (hbox); have n2_ := Aside0.mk ((by rw [hg]; exact (below_size (by repeat (first | (with_reducible first | exact HB.out | apply below_alloc | apply pw_below_drewN | apply below_drew1) | exact HB.out))) : w.heap.size ≤ gb295)); have n3_ := Aside0.mk ((by rw [hg]; exact (below_size (by repeat (first | (with_reducible first | exact HB.out | apply below_alloc | apply pw_below_drewN | apply below_drew1) | exact HB.out))) : w.heap.size ≤ gb295)); clear HB; have HB := n0_; have BK295 := n1_; have GW295 := n2_; have GE295 := n3_; clear n0_ n1_ n2_ n3_; clear hb hbox hg; have hcz22_0 : w21.cell? ⟨gb295, 0, none⟩ = some (.slice A0_0 l0_0.length c0_0) := (blk_cell BK295.out 0).trans rfl; have hcz22_1 : w21.cell? ⟨gb295, 1, none⟩ = some (.slice A0_1 l0_1.length c0_1) := (blk_cell BK295.out 1).trans rfl; have hcz22_2 : w21.cell? ⟨gb295, 2, none⟩ = some (.slice A0_2 l0_2.length c0_2) := (blk_cell BK295.out 2).trans rfl; have hfz22_0 := blk_frozen BK295.out 0; have hfz22_1 := blk_frozen BK295.out 1; have hfz22_2 := blk_frozen BK295.out 2) | ((with_reducible refine gate_callee (f := 19) rfl ?_); refine goesL_ (some 9) rfl rfl Try.func19 (by kernel_rfl) rfl #[.agg #[.slice A0_0 l0_0.length c0_0, .slice A0_1 l0_1.length c0_1, .slice A0_2 l0_2.length c0_2]] rfl (by (try simp only [List.map_toArray, List.map_cons, List.map_nil]); first | done | rfl | (simp only [List.length_drop, List.length_take]; rfl)) ?_; (with_reducible refine (laganref04_CheckBoard.calls k _ _ l0_0 _ _ l0_1 _ _ l0_2 t296 _ ?side1 ?side2 ?side3 ?side4 ?side5 ?side6 A4.out).mono ?_); (case side1 => repeat (first | exact (Kd.C_below HR0_0.out HB.out) | (with_reducible refine Kd.C_alloc ?_ _) | (with_reducible refine Kd.C_drewN ?_ _) | (with_reducible refine Kd.C_drew ?_))); (case side2 => exact HC0_0.out); (case side3 => repeat (first | exact (Kd.C_below HR0_1.out HB.out) | (with_reducible refine Kd.C_alloc ?_ _) | (with_reducible refine Kd.C_drewN ?_ _) | (with_reducible refine Kd.C_drew ?_))); (case side4 => exact HC0_1.out); (case side5 => repeat (first | exact (Kd.C_below HR0_2.out HB.out) | (with_reducible refine Kd.C_alloc ?_ _) | (with_reducible refine Kd.C_drewN ?_ _) | (with_reducible refine Kd.C_drew ?_))); (case side6 => exact HC0_2.out); rintro e w23 ⟨rfl, hb⟩; refine ⟨_, rfl, ?_⟩; have n0_ := Aside0.mk (blk_below (g := gb295) (o := .cells #[.slice A0_0 l0_0.length c0_0, .slice A0_1 l0_1.length c0_1, .slice A0_2 l0_2.length c0_2] 26 (0, 0)) (by (with_reducible repeat (first | refine blk_drewN ?_ _ | refine blk_drew ?_ | refine blk_alloc ?_ _)); exact BK295.out) hb); have n1_ := Aside0.mk (below_step (by repeat (first | (with_reducible first | exact HB.out | apply below_alloc | apply pw_below_drewN | apply below_drew1 | refine below_set ?_ GE295.out) | exact HB.out)) hb); clear BK295; clear HB; have BK295 := n0_; have HB := n1_; clear n0_ n1_; (try clear hb); (try clear hb2); (try clear hk); (try clear hi); have hcz24_0 : w23.cell? ⟨gb295, 0, none⟩ = some (.slice A0_0 l0_0.length c0_0) := (blk_cell BK295.out 0).trans rfl; have hcz24_1 : w23.cell? ⟨gb295, 1, none⟩ = some (.slice A0_1 l0_1.length c0_1) := (blk_cell BK295.out 1).trans rfl; have hcz24_2 : w23.cell? ⟨gb295, 2, none⟩ = some (.slice A0_2 l0_2.length c0_2) := (blk_cell BK295.out 2).trans rfl; have hfz24_0 := blk_frozen BK295.out 0; have hfz24_1 := blk_frozen BK295.out 1; have hfz24_2 := blk_frozen BK295.out 2))
      go_ret
      exact ⟨by first | rfl | (simp [errW_none, errW_some] <;> rfl) | (simp [*, errW_none, errW_some] <;> rfl), by repeat (first | (with_reducible first | exact HB.out | apply below_alloc | apply pw_below_drewN | apply below_drew1 | refine below_set ?_ GE295.out) | exact HB.out)⟩
     ·
      rw [if_neg c20] at H
      have c20b0 : decide ((l0_1.length : Int) ≤ a2) = false := decide_eq_false c20
      clear c20
      obtain rfl := Option.some.inj H
      go_enter Try.func72, Try.ntmps72
      go_wp2_with (first | ((with_reducible refine gate_dst (N := 3) rfl ?_); (try (refine gate_guard (by rfl) ?_; dsimp only)); refine box_event ?hg (N := 3) ?hd (cs := #[.slice A0_0 l0_0.length c0_0, .slice A0_1 l0_1.length c0_1, .slice A0_2 l0_2.length c0_2]) (t := 26) ?hr ?_; (case hd => rfl); (case hg => rfl); (case hr => first | (go_simp; done) | (go_simp; rfl)); intro gb295 hg w25 hbox hb; have n0_ := Aside0.mk (below_step (by repeat (first | (with_reducible first | exact HB.out | apply below_alloc | apply pw_below_drewN | apply below_drew1) | exact HB.out)) hb); have n1_ := Aside0.mk (hbox); have n2_ := Aside0.mk ((by rw [hg]; exact (below_size (by repeat (first | (with_reducible first | exact HB.out | apply below_alloc | apply pw_below_drewN | apply below_drew1) | exact HB.out))) : w.heap.size ≤ gb295)); have n3_ := Aside0.mk ((by rw [hg]; exact (below_size (by repeat (first | (with_reducible first | exact HB.out | apply below_alloc | apply pw_below_drewN | apply below_drew1) | exact HB.out))) : w.heap.size ≤ gb295)); clear HB; have HB := n0_; have BK295 := n1_; have GW295 := n2_; have GE295 := n3_; clear n0_ n1_ n2_ n3_; clear hb hbox hg; have hcz26_0 : w25.cell? ⟨gb295, 0, none⟩ = some (.slice A0_0 l0_0.length c0_0) := (blk_cell BK295.out 0).trans rfl; have hcz26_1 : w25.cell? ⟨gb295, 1, none⟩ = some (.slice A0_1 l0_1.length c0_1) := (blk_cell BK295.out 1).trans rfl; have hcz26_2 : w25.cell? ⟨gb295, 2, none⟩ = some (.slice A0_2 l0_2.length c0_2) := (blk_cell BK295.out 2).trans rfl; have hfz26_0 := blk_frozen BK295.out 0; have hfz26_1 := blk_frozen BK295.out 1; have hfz26_2 := blk_frozen BK295.out 2) | ((with_reducible refine gate_callee (f := 19) rfl ?_); refine goesL_ (some 9) rfl rfl Try.func19 (by kernel_rfl) rfl #[.agg #[.slice A0_0 l0_0.length c0_0, .slice A0_1 l0_1.length c0_1, .slice A0_2 l0_2.length c0_2]] rfl (by (try simp only [List.map_toArray, List.map_cons, List.map_nil]); first | done | rfl | (simp only [List.length_drop, List.length_take]; rfl)) ?_; (with_reducible refine (laganref04_CheckBoard.calls k _ _ l0_0 _ _ l0_1 _ _ l0_2 t296 _ ?side1 ?side2 ?side3 ?side4 ?side5 ?side6 A4.out).mono ?_); (case side1 => repeat (first | exact (Kd.C_below HR0_0.out HB.out) | (with_reducible refine Kd.C_alloc ?_ _) | (with_reducible refine Kd.C_drewN ?_ _) | (with_reducible refine Kd.C_drew ?_))); (case side2 => exact HC0_0.out); (case side3 => repeat (first | exact (Kd.C_below HR0_1.out HB.out) | (with_reducible refine Kd.C_alloc ?_ _) | (with_reducible refine Kd.C_drewN ?_ _) | (with_reducible refine Kd.C_drew ?_))); (case side4 => exact HC0_1.out); (case side5 => repeat (first | exact (Kd.C_below HR0_2.out HB.out) | (with_reducible refine Kd.C_alloc ?_ _) | (with_reducible refine Kd.C_drewN ?_ _) | (with_reducible refine Kd.C_drew ?_))); (case side6 => exact HC0_2.out); rintro e w27 ⟨rfl, hb⟩; refine ⟨_, rfl, ?_⟩; have n0_ := Aside0.mk (blk_below (g := gb295) (o := .cells #[.slice A0_0 l0_0.length c0_0, .slice A0_1 l0_1.length c0_1, .slice A0_2 l0_2.length c0_2] 26 (0, 0)) (by (with_reducible repeat (first | refine blk_drewN ?_ _ | refine blk_drew ?_ | refine blk_alloc ?_ _)); exact BK295.out) hb); have n1_ := Aside0.mk (below_step (by repeat (first | (with_reducible first | exact HB.out | apply below_alloc | apply pw_below_drewN | apply below_drew1 | refine below_set ?_ GE295.out) | exact HB.out)) hb); clear BK295; clear HB; have BK295 := n0_; have HB := n1_; clear n0_ n1_; (try clear hb); (try clear hb2); (try clear hk); (try clear hi); have hcz28_0 : w27.cell? ⟨gb295, 0, none⟩ = some (.slice A0_0 l0_0.length c0_0) := (blk_cell BK295.out 0).trans rfl; have hcz28_1 : w27.cell? ⟨gb295, 1, none⟩ = some (.slice A0_1 l0_1.length c0_1) := (blk_cell BK295.out 1).trans rfl; have hcz28_2 : w27.cell? ⟨gb295, 2, none⟩ = some (.slice A0_2 l0_2.length c0_2) := (blk_cell BK295.out 2).trans rfl; have hfz28_0 := blk_frozen BK295.out 0; have hfz28_1 := blk_frozen BK295.out 1; have hfz28_2 := blk_frozen BK295.out 2))
      go_ret
      exact ⟨by first | rfl | (simp [errW_none, errW_some] <;> rfl) | (simp [*, errW_none, errW_some] <;> rfl), by repeat (first | (with_reducible first | exact HB.out | apply below_alloc | apply pw_below_drewN | apply below_drew1 | refine below_set ?_ GE295.out) | exact HB.out)⟩
 ·
  rw [if_neg c5] at H
  have c5b0 : (t296 == 0) = false := beq_eq_false_iff_ne.mpr c5
  have c5b1 : (t296 != 0) = true := bne_iff_ne.mpr c5
  obtain rfl := Option.some.inj H
  go_enter Try.func72, Try.ntmps72
  go_wp2_with (first | ((with_reducible refine gate_dst (N := 3) rfl ?_); (try (refine gate_guard (by rfl) ?_; dsimp only)); refine box_event ?hg (N := 3) ?hd (cs := #[.slice A0_0 l0_0.length c0_0, .slice A0_1 l0_1.length c0_1, .slice A0_2 l0_2.length c0_2]) (t := 26) ?hr ?_; (case hd => rfl); (case hg => rfl); (case hr => first | (go_simp; done) | (go_simp; rfl)); intro gb295 hg w29 hbox hb; have n0_ := Aside0.mk (below_step (by repeat (first | (with_reducible first | exact HB.out | apply below_alloc | apply pw_below_drewN | apply below_drew1) | exact HB.out)) hb); have n1_ := Aside0.mk (hbox); have n2_ := Aside0.mk ((by rw [hg]; exact (below_size (by repeat (first | (with_reducible first | exact HB.out | apply below_alloc | apply pw_below_drewN | apply below_drew1) | exact HB.out))) : w.heap.size ≤ gb295)); have n3_ := Aside0.mk ((by rw [hg]; exact (below_size (by repeat (first | (with_reducible first | exact HB.out | apply below_alloc | apply pw_below_drewN | apply below_drew1) | exact HB.out))) : w.heap.size ≤ gb295)); clear HB; have HB := n0_; have BK295 := n1_; have GW295 := n2_; have GE295 := n3_; clear n0_ n1_ n2_ n3_; clear hb hbox hg; have hcz30_0 : w29.cell? ⟨gb295, 0, none⟩ = some (.slice A0_0 l0_0.length c0_0) := (blk_cell BK295.out 0).trans rfl; have hcz30_1 : w29.cell? ⟨gb295, 1, none⟩ = some (.slice A0_1 l0_1.length c0_1) := (blk_cell BK295.out 1).trans rfl; have hcz30_2 : w29.cell? ⟨gb295, 2, none⟩ = some (.slice A0_2 l0_2.length c0_2) := (blk_cell BK295.out 2).trans rfl; have hfz30_0 := blk_frozen BK295.out 0; have hfz30_1 := blk_frozen BK295.out 1; have hfz30_2 := blk_frozen BK295.out 2) | ((with_reducible refine gate_callee (f := 19) rfl ?_); refine goesL_ (some 9) rfl rfl Try.func19 (by kernel_rfl) rfl #[.agg #[.slice A0_0 l0_0.length c0_0, .slice A0_1 l0_1.length c0_1, .slice A0_2 l0_2.length c0_2]] rfl (by (try simp only [List.map_toArray, List.map_cons, List.map_nil]); first | done | rfl | (simp only [List.length_drop, List.length_take]; rfl)) ?_; (with_reducible refine (laganref04_CheckBoard.calls k _ _ l0_0 _ _ l0_1 _ _ l0_2 t296 _ ?side1 ?side2 ?side3 ?side4 ?side5 ?side6 A4.out).mono ?_); (case side1 => repeat (first | exact (Kd.C_below HR0_0.out HB.out) | (with_reducible refine Kd.C_alloc ?_ _) | (with_reducible refine Kd.C_drewN ?_ _) | (with_reducible refine Kd.C_drew ?_))); (case side2 => exact HC0_0.out); (case side3 => repeat (first | exact (Kd.C_below HR0_1.out HB.out) | (with_reducible refine Kd.C_alloc ?_ _) | (with_reducible refine Kd.C_drewN ?_ _) | (with_reducible refine Kd.C_drew ?_))); (case side4 => exact HC0_1.out); (case side5 => repeat (first | exact (Kd.C_below HR0_2.out HB.out) | (with_reducible refine Kd.C_alloc ?_ _) | (with_reducible refine Kd.C_drewN ?_ _) | (with_reducible refine Kd.C_drew ?_))); (case side6 => exact HC0_2.out); rintro e w31 ⟨rfl, hb⟩; refine ⟨_, rfl, ?_⟩; have n0_ := Aside0.mk (blk_below (g := gb295) (o := .cells #[.slice A0_0 l0_0.length c0_0, .slice A0_1 l0_1.length c0_1, .slice A0_2 l0_2.length c0_2] 26 (0, 0)) (by (with_reducible repeat (first | refine blk_drewN ?_ _ | refine blk_drew ?_ | refine blk_alloc ?_ _)); exact BK295.out) hb); have n1_ := Aside0.mk (below_step (by repeat (first | (with_reducible first | exact HB.out | apply below_alloc | apply pw_below_drewN | apply below_drew1 | refine below_set ?_ GE295.out) | exact HB.out)) hb); clear BK295; clear HB; have BK295 := n0_; have HB := n1_; clear n0_ n1_; (try clear hb); (try clear hb2); (try clear hk); (try clear hi)))
  go_ret
  exact ⟨by first | rfl | (simp [errW_none, errW_some] <;> rfl) | (simp [*, errW_none, errW_some] <;> rfl), by repeat (first | (with_reducible first | exact HB.out | apply below_alloc | apply pw_below_drewN | apply below_drew1 | refine below_set ?_ GE295.out) | exact HB.out)⟩
def laganref04_Nobody.l0 : Nat → List Int → Int → List Int → List (S50) → List (List Int) → Option (List Int × Int)
 | 0, _, _, _, _, _ => none
 | k + 1, x5, x6, x964000, x964001, x964002 => if x6 < (x964002.length : Int) then (if 0 ≤ x6 then (if ((rd_L1 x964002 x6).length : Int) = 0 then (if x5.length < 17592186044416 then (laganref04_Nobody.l0 k (x5 ++ [x6]) (wrap64 (x6 + 1)) x964000 x964001 x964002) else (none)) else (laganref04_Nobody.l0 k x5 (wrap64 (x6 + 1)) x964000 x964001 x964002)) else (none)) else (some (x5, 0))
def laganref04_Nobody.f (k : Nat) (l0_0 : List Int) (l0_1 : List (S50)) (l0_2 : List (List Int)) : Option (List Int × Int) := (laganref04_CheckBoard.f k l0_0 l0_1 l0_2).bind fun t964 => (if t964 = 0 then (laganref04_Nobody.l0 k ([] : List Int) 0 l0_0 l0_1 l0_2) else (some (([] : List Int), t964)))
theorem laganref04_Nobody.mono_l : ∀ k, (∀ y0 y1 y2 y3 y4, LeO (laganref04_Nobody.l0 k y0 y1 y2 y3 y4) (laganref04_Nobody.l0 (k + 1) y0 y1 y2 y3 y4))
 | 0 => fun _ _ _ _ _ r h => by simp [laganref04_Nobody.l0] at h
 | k + 1 => by
  have ih0 := laganref04_Nobody.mono_l k
  ·
   intro y0 y1 y2 y3 y4
   unfold laganref04_Nobody.l0
   repeat' first
   | (with_reducible exact ih0 _ _ _ _ _)
   | (with_reducible exact laganref04_CheckBoard.mono _ _ _ _)
   | (with_reducible exact LeO.refl _)
   | (with_reducible exact LeO.none _)
   | (with_reducible refine LeO.ite ?_ ?_)
   | (with_reducible refine LeO.bind ?_ (fun _ => ?_))
   | exact ih0 _ _ _ _ _
   | exact laganref04_CheckBoard.mono _ _ _ _
   | exact LeO.none _
   | refine LeO.ite ?_ ?_
   | refine LeO.bind ?_ (fun _ => ?_)
theorem laganref04_Nobody.mono : ∀ a0 a1 a2 k, LeO (laganref04_Nobody.f k a0 a1 a2) (laganref04_Nobody.f (k + 1) a0 a1 a2) := by
 intro a0 a1 a2 k
 have ih0 := laganref04_Nobody.mono_l k
 unfold laganref04_Nobody.f
 repeat' first
   | (with_reducible exact ih0 _ _ _ _ _)
   | (with_reducible exact laganref04_CheckBoard.mono _ _ _ _)
   | (with_reducible exact LeO.refl _)
   | (with_reducible exact LeO.none _)
   | (with_reducible refine LeO.ite ?_ ?_)
   | (with_reducible refine LeO.bind ?_ (fun _ => ?_))
   | exact ih0 _ _ _ _ _
   | exact laganref04_CheckBoard.mono _ _ _ _
   | exact LeO.none _
   | refine LeO.ite ?_ ?_
   | refine LeO.bind ?_ (fun _ => ?_)
set_option maxHeartbeats 8000000 in
set_option maxRecDepth 100000 in
theorem laganref04_Nobody.calls (k : Nat) (A0_0 : Option Addr) (c0_0 : Nat) (l0_0 : List Int) (A0_1 : Option Addr) (c0_1 : Nat) (l0_1 : List (S50)) (A0_2 : Option Addr) (c0_2 : Nat) (l0_2 : List (List Int)) (r1 : List Int) (r2 : Int) (w : World) (hr0_0 : Kd.C (Kd.int .i64) w A0_0 l0_0.length l0_0) (hc0_0 : l0_0.length ≤ c0_0) (hr0_1 : Kd.C k50 w A0_1 l0_1.length l0_1) (hc0_1 : l0_1.length ≤ c0_1) (hr0_2 : Kd.C (Kd.slice 3 (Kd.int .i64)) w A0_2 l0_2.length l0_2) (hc0_2 : l0_2.length ≤ c0_2) (h : laganref04_Nobody.f k l0_0 l0_1 l0_2 = some (r1, r2)) :
  Calls Try.prog 48 #[.agg #[.slice A0_0 l0_0.length c0_0, .slice A0_1 l0_1.length c0_1, .slice A0_2 l0_2.length c0_2]] w fun e w' => ∃ v0_ : Value, e = .returned (.tuple #[v0_, .int .i64 r2]) ∧ Kd.R (Kd.int .i64) 3 w' w.heap.size (fun _ => True) v0_ r1 ∧ Below w.heap.size w w' := by
 have hu26 := Try.underlying26
 have HR0_0 := Aside0.mk hr0_0
 have HC0_0 := Aside0.mk hc0_0
 clear hr0_0 hc0_0
 have HR0_1 := Aside0.mk hr0_1
 have HC0_1 := Aside0.mk hc0_1
 clear hr0_1 hc0_1
 have HR0_2 := Aside0.mk hr0_2
 have HC0_2 := Aside0.mk hc0_2
 clear hr0_2 hc0_2
 have HB := Aside0.mk (Below.refl w.heap.size w)
 have H : ((laganref04_CheckBoard.f k l0_0 l0_1 l0_2).bind fun t964 => (if t964 = 0 then (laganref04_Nobody.l0 k ([] : List Int) 0 l0_0 l0_1 l0_2) else (some (([] : List Int), t964)))) = some (r1, r2) := h
 clear h
 replace H := Option.bind_eq_some_iff.mp H
 obtain ⟨t964, A20, H⟩ := H
 replace H : (if t964 = 0 then (laganref04_Nobody.l0 k ([] : List Int) 0 l0_0 l0_1 l0_2) else (some (([] : List Int), t964))) = some (r1, r2) := H
 have A2 := Aside0.mk A20
 clear A20
 by_cases c3 : t964 = 0
 ·
  rw [if_pos c3] at H
  have c3b0 : (t964 == 0) = true := beq_iff_eq.mpr c3
  have c3b1 : (t964 != 0) = false := bne_eq_false_iff_eq.mpr c3
  clear c3
  have H' := Aside0.mk H
  clear H
  go_enter Try.func48, Try.ntmps48
  go_wp2_with (first | ((with_reducible refine gate_dst (N := 1) rfl ?_); refine box_event ?hg (N := 1) ?hd (cs := #[.slice A0_0 l0_0.length c0_0, .slice A0_1 l0_1.length c0_1, .slice A0_2 l0_2.length c0_2]) (t := 26) ?hr ?_; (case hd => rfl); (case hg => rfl); (case hr => first | (go_simp; done) | (go_simp; rfl)); intro gb963 hg w4 hbox hb; have n0_ := Aside0.mk (below_step (by repeat (first | (with_reducible first | exact HB.out | apply below_alloc | apply pw_below_drewN | apply below_drew1) | exact HB.out)) hb); have n1_ := Aside0.mk (hbox); have n2_ := Aside0.mk ((by rw [hg]; exact (below_size (by repeat (first | (with_reducible first | exact HB.out | apply below_alloc | apply pw_below_drewN | apply below_drew1) | exact HB.out))) : w.heap.size ≤ gb963)); have n3_ := Aside0.mk ((by rw [hg]; exact (below_size (by repeat (first | (with_reducible first | exact HB.out | apply below_alloc | apply pw_below_drewN | apply below_drew1) | exact HB.out))) : w.heap.size ≤ gb963)); clear HB; have HB := n0_; have BK963 := n1_; have GW963 := n2_; have GE963 := n3_; clear n0_ n1_ n2_ n3_; clear hb hbox hg; have hcz5_0 : w4.cell? ⟨gb963, 0, none⟩ = some (.slice A0_0 l0_0.length c0_0) := (blk_cell BK963.out 0).trans rfl; have hcz5_1 : w4.cell? ⟨gb963, 1, none⟩ = some (.slice A0_1 l0_1.length c0_1) := (blk_cell BK963.out 1).trans rfl; have hcz5_2 : w4.cell? ⟨gb963, 2, none⟩ = some (.slice A0_2 l0_2.length c0_2) := (blk_cell BK963.out 2).trans rfl; have hfz5_0 := blk_frozen BK963.out 0; have hfz5_1 := blk_frozen BK963.out 1; have hfz5_2 := blk_frozen BK963.out 2) | ((with_reducible refine gate_callee (f := 19) rfl ?_); refine goesL_ (some 8) rfl rfl Try.func19 (by kernel_rfl) rfl #[.agg #[.slice A0_0 l0_0.length c0_0, .slice A0_1 l0_1.length c0_1, .slice A0_2 l0_2.length c0_2]] rfl (by (try simp only [List.map_toArray, List.map_cons, List.map_nil]); first | done | rfl | (simp only [List.length_drop, List.length_take]; rfl)) ?_; (with_reducible refine (laganref04_CheckBoard.calls k _ _ l0_0 _ _ l0_1 _ _ l0_2 t964 _ ?side1 ?side2 ?side3 ?side4 ?side5 ?side6 A2.out).mono ?_); (case side1 => repeat (first | exact (Kd.C_below HR0_0.out HB.out) | (with_reducible refine Kd.C_alloc ?_ _) | (with_reducible refine Kd.C_drewN ?_ _) | (with_reducible refine Kd.C_drew ?_))); (case side2 => exact HC0_0.out); (case side3 => repeat (first | exact (Kd.C_below HR0_1.out HB.out) | (with_reducible refine Kd.C_alloc ?_ _) | (with_reducible refine Kd.C_drewN ?_ _) | (with_reducible refine Kd.C_drew ?_))); (case side4 => exact HC0_1.out); (case side5 => repeat (first | exact (Kd.C_below HR0_2.out HB.out) | (with_reducible refine Kd.C_alloc ?_ _) | (with_reducible refine Kd.C_drewN ?_ _) | (with_reducible refine Kd.C_drew ?_))); (case side6 => exact HC0_2.out); rintro e w6 ⟨rfl, hb⟩; refine ⟨_, rfl, ?_⟩; have n0_ := Aside0.mk (blk_below (g := gb963) (o := .cells #[.slice A0_0 l0_0.length c0_0, .slice A0_1 l0_1.length c0_1, .slice A0_2 l0_2.length c0_2] 26 (0, 0)) (by (with_reducible repeat (first | refine blk_drewN ?_ _ | refine blk_drew ?_ | refine blk_alloc ?_ _)); exact BK963.out) hb); have n1_ := Aside0.mk (below_step (by repeat (first | (with_reducible first | exact HB.out | apply below_alloc | apply pw_below_drewN | apply below_drew1 | refine below_set ?_ GE963.out) | exact HB.out)) hb); clear BK963; clear HB; have BK963 := n0_; have HB := n1_; clear n0_ n1_; (try clear hb); (try clear hb2); (try clear hk); (try clear hi)))
  go_loopg [5, 6] k (fun kq v5 v6 w' => ∃ (x5_1 : List Int) (x6_1 : Int), v6 = .int .i64 x6_1 ∧ Aside0 (laganref04_Nobody.l0 kq x5_1 x6_1 l0_0 l0_1 l0_2 = some (r1, r2)) ∧ Aside0 (kq ≤ k) ∧ Aside0 (Kd.R (Kd.int .i64) 3 w' w.heap.size (fun _ => True) v5 x5_1) ∧ Aside0 (w'.heap[gb963]? = some (.cells #[(.slice A0_0 l0_0.length c0_0), (.slice A0_1 l0_1.length c0_1), (.slice A0_2 l0_2.length c0_2)] 26 (0, 0))) ∧ Aside0 (Below w.heap.size w w'))
  case atStart => exact ⟨(([] : List Int)), (0), (by first | rfl | (simp; done) | (simp [*]; done)), H', ⟨Nat.le_refl _⟩, ⟨by first | exact Kd.R_nil _ _ _ _ _ | exact Kd.N_nil _ _ _ _ _ | exact Kd.V_nil _ _ _ _ _ | exact Kd.Q_nil _ _ _ _ _ | exact Kd.S_nil _ _ _ _ _⟩, ⟨by (with_reducible repeat (first | refine blk_drewN ?_ _ | refine blk_drew ?_ | refine blk_alloc ?_ _)); exact BK963.out⟩, ⟨by repeat (first | (with_reducible first | exact HB.out | apply below_alloc | apply pw_below_drewN | apply below_drew1 | refine below_set ?_ GE963.out) | exact HB.out)⟩⟩
  case round =>
   clear H'
   try clear c1
   try clear p2
   try clear c3
   try clear c3b0
   try clear c3b1
   try clear c4
   try clear hcz5_0
   try clear hcz5_1
   try clear hcz5_2
   try clear hfz5_0
   try clear hfz5_1
   try clear hfz5_2
   obtain ⟨x5_1, x6_1, rfl, HA, HK1, HO_5, BK963, HB⟩ := hrel
   cases gk with
   | zero => exact absurd HA.out (by simp [laganref04_Nobody.l0])
   | succ k1 =>
    have H := HA.out
    clear HA
    simp only [laganref04_Nobody.l0] at H
    by_cases c7 : x6_1 < (l0_2.length : Int)
    ·
     rw [if_pos c7] at H
     have c7b0 : decide (x6_1 < (l0_2.length : Int)) = true := decide_eq_true c7
     clear c7
     by_cases c8 : 0 ≤ x6_1
     ·
      rw [if_pos c8] at H
      have c8b0 : decide (0 ≤ x6_1) = true := decide_eq_true c8
      clear c8
      by_cases c9 : ((rd_L1 l0_2 x6_1).length : Int) = 0
      ·
       rw [if_pos c9] at H
       have c9b0 : (((rd_L1 l0_2 x6_1).length : Int) == 0) = true := beq_iff_eq.mpr c9
       have c9b1 : (((rd_L1 l0_2 x6_1).length : Int) != 0) = false := bne_eq_false_iff_eq.mpr c9
       clear c9
       by_cases c10 : x5_1.length < 17592186044416
       ·
        rw [if_pos c10] at H
        have LMc10 := Aside0.mk c10
        clear c10
        obtain ⟨y966, hy966⟩ : ∃ y_ : List Int, y_ = (x5_1 ++ [x6_1]) := ⟨_, rfl⟩
        replace H : (laganref04_Nobody.l0 k1 y966 (wrap64 (x6_1 + 1)) l0_0 l0_1 l0_2) = some (r1, r2) := by first | (rw [hy966]; with_reducible exact H) | (have H2_ := (Option.bind_some _ _).symm.trans H; rw [hy966]; with_reducible exact H2_) | (have H2_ := (Option.bind_some _ _).symm.trans H; with_reducible exact H2_) | with_reducible exact H | (rw [hy966]; exact H) | exact H
        have Ny966 := Aside0.mk hy966
        clear hy966
        have H' := Aside0.mk H
        clear H
        have hcz11_0 : wr.cell? ⟨gb963, 0, none⟩ = some (.slice A0_0 l0_0.length c0_0) := (blk_cell BK963.out 0).trans rfl
        have hcz11_1 : wr.cell? ⟨gb963, 1, none⟩ = some (.slice A0_1 l0_1.length c0_1) := (blk_cell BK963.out 1).trans rfl
        have hcz11_2 : wr.cell? ⟨gb963, 2, none⟩ = some (.slice A0_2 l0_2.length c0_2) := (blk_cell BK963.out 2).trans rfl
        have hfz11_0 := blk_frozen BK963.out 0
        have hfz11_1 := blk_frozen BK963.out 1
        have hfz11_2 := blk_frozen BK963.out 2
        have p965 : 0 ≤ (x6_1 : Int) := of_decide_eq_true (by first | (with_reducible assumption) | assumption)
        have q965 : x6_1 < (l0_2.length : Int) := of_decide_eq_true (by first | (with_reducible assumption) | assumption)
        obtain ⟨ad965, A965_0, c965_0, e965, hx965_0, hl965_0, hi965_0⟩ := at_L1 HR0_2.out x6_1 p965 q965
        cases e965
        replace hx965_0 := (HB.out.cell (World.block_lt_of_cell? w _ hx965_0)).trans hx965_0
        have HR965_0 := Aside0.mk hi965_0
        have HC965_0 := Aside0.mk hl965_0
        clear hi965_0 hl965_0
        replace p965 := eq_true p965
        replace q965 := eq_true q965
        go_wp2_with (first | ((with_reducible refine gate_builtin (b := .append) (xs := #[.tmp 26, .tmp 28]) rfl ?_); at_builtin; refine Kd.R_append (Kd.int .i64) (w0 := w) w.heap.size rfl (.tmp 26) (.tmp 28) 22 3 (.int .i64 0) 8 rfl Try.underlying22 info3 rfl (by decide) (by omega) u5 x5_1 x6_1 [.int .i64 x6_1] (fun _ => True) (fun _ => False) rfl rfl ?aP (fun _ hk => hk.elim) ?aF ?aO ?aB ?aS ?aL ?_; (case aP => exact rfl); (case aB => exact (by repeat (first | (with_reducible first | exact HB.out | apply below_alloc | apply pw_below_drewN | apply below_drew1 | refine below_set ?_ GE963.out) | exact HB.out))); (case aF => exact (fun _ _ => trivial)); (case aO => exact (by (with_reducible repeat (first | apply Kd.R_alloc | apply Kd.R_drewN | apply Kd.R_drew)); exact HO_5.out)); (case aS => exact (below_size (by repeat (first | (with_reducible first | exact HB.out | apply below_alloc | apply pw_below_drewN | apply below_drew1 | refine below_set ?_ GE963.out) | exact HB.out)))); (case aL => have := LMc10.out; omega); intro v967 w12 ho hb hg hat; rw [← Ny966.out] at ho; have n0_ := Aside0.mk (blk_grown (g := gb963) (o := .cells #[.slice A0_0 l0_0.length c0_0, .slice A0_1 l0_1.length c0_1, .slice (some ad965) l0_2.length c0_2] 26 (0, 0)) (by (with_reducible repeat (first | refine blk_drewN ?_ _ | refine blk_drew ?_ | refine blk_alloc ?_ _)); exact BK963.out) hg (Kd.R_ne HO_5.out BK963.out (by decide))); have n1_ := Aside0.mk (hb); have n2_ := Aside0.mk (ho); clear BK963; clear HB; clear HO_5; have BK963 := n0_; have HB := n1_; have HO968 := n2_; clear n0_ n1_ n2_; clear ho hb hg hat))
        go_roundg k1
        case measure => have := HK1.out; omega
        case rel => exact ⟨(y966), (wrap64 (x6_1 + 1)), (by first | rfl | (simp; done) | (simp [*]; done)), H', ⟨by have := HK1.out; omega⟩, ⟨by (with_reducible repeat (first | apply Kd.R_alloc | apply Kd.R_drewN | apply Kd.R_drew)); exact HO968.out⟩, ⟨by (with_reducible repeat (first | refine blk_drewN ?_ _ | refine blk_drew ?_ | refine blk_alloc ?_ _)); exact BK963.out⟩, ⟨by repeat (first | (with_reducible first | exact HB.out | apply below_alloc | apply pw_below_drewN | apply below_drew1 | refine below_set ?_ GE963.out) | exact HB.out)⟩⟩
       ·
        rw [if_neg c10] at H
        exact absurd H (by simp)
      ·
       rw [if_neg c9] at H
       have c9b0 : (((rd_L1 l0_2 x6_1).length : Int) == 0) = false := beq_eq_false_iff_ne.mpr c9
       have c9b1 : (((rd_L1 l0_2 x6_1).length : Int) != 0) = true := bne_iff_ne.mpr c9
       have c9b2 : ¬ ((rd_L1 l0_2 x6_1) = []) := fun h_ => c9 (by rw [h_]; rfl)
       have H' := Aside0.mk H
       clear H
       have hcz13_0 : wr.cell? ⟨gb963, 0, none⟩ = some (.slice A0_0 l0_0.length c0_0) := (blk_cell BK963.out 0).trans rfl
       have hcz13_1 : wr.cell? ⟨gb963, 1, none⟩ = some (.slice A0_1 l0_1.length c0_1) := (blk_cell BK963.out 1).trans rfl
       have hcz13_2 : wr.cell? ⟨gb963, 2, none⟩ = some (.slice A0_2 l0_2.length c0_2) := (blk_cell BK963.out 2).trans rfl
       have hfz13_0 := blk_frozen BK963.out 0
       have hfz13_1 := blk_frozen BK963.out 1
       have hfz13_2 := blk_frozen BK963.out 2
       have p965 : 0 ≤ (x6_1 : Int) := of_decide_eq_true (by first | (with_reducible assumption) | assumption)
       have q965 : x6_1 < (l0_2.length : Int) := of_decide_eq_true (by first | (with_reducible assumption) | assumption)
       obtain ⟨ad965, A965_0, c965_0, e965, hx965_0, hl965_0, hi965_0⟩ := at_L1 HR0_2.out x6_1 p965 q965
       cases e965
       replace hx965_0 := (HB.out.cell (World.block_lt_of_cell? w _ hx965_0)).trans hx965_0
       have HR965_0 := Aside0.mk hi965_0
       have HC965_0 := Aside0.mk hl965_0
       clear hi965_0 hl965_0
       replace p965 := eq_true p965
       replace q965 := eq_true q965
       go_wp2
       go_roundg k1
       case measure => have := HK1.out; omega
       case rel => exact ⟨(x5_1), (wrap64 (x6_1 + 1)), (by first | rfl | (simp; done) | (simp [*]; done)), H', ⟨by have := HK1.out; omega⟩, ⟨by (with_reducible repeat (first | apply Kd.R_alloc | apply Kd.R_drewN | apply Kd.R_drew)); exact HO_5.out⟩, ⟨by (with_reducible repeat (first | refine blk_drewN ?_ _ | refine blk_drew ?_ | refine blk_alloc ?_ _)); exact BK963.out⟩, ⟨by repeat (first | (with_reducible first | exact HB.out | apply below_alloc | apply pw_below_drewN | apply below_drew1 | refine below_set ?_ GE963.out) | exact HB.out)⟩⟩
     ·
      rw [if_neg c8] at H
      exact absurd H (by simp)
    ·
     rw [if_neg c7] at H
     have c7b0 : decide (x6_1 < (l0_2.length : Int)) = false := decide_eq_false c7
     clear c7
     simp only [Option.some.injEq, Prod.mk.injEq] at H
     obtain ⟨rfl, rfl⟩ := H
     have hcz14_0 : wr.cell? ⟨gb963, 0, none⟩ = some (.slice A0_0 l0_0.length c0_0) := (blk_cell BK963.out 0).trans rfl
     have hcz14_1 : wr.cell? ⟨gb963, 1, none⟩ = some (.slice A0_1 l0_1.length c0_1) := (blk_cell BK963.out 1).trans rfl
     have hcz14_2 : wr.cell? ⟨gb963, 2, none⟩ = some (.slice A0_2 l0_2.length c0_2) := (blk_cell BK963.out 2).trans rfl
     have hfz14_0 := blk_frozen BK963.out 0
     have hfz14_1 := blk_frozen BK963.out 1
     have hfz14_2 := blk_frozen BK963.out 2
     go_wp2
     go_ret2
     exact ⟨_, by first | rfl | (simp [errW_none, errW_some] <;> rfl) | (simp [*, errW_none, errW_some] <;> rfl), by (with_reducible repeat (first | apply Kd.R_alloc | apply Kd.R_drewN | apply Kd.R_drew)); exact HO_5.out, by repeat (first | (with_reducible first | exact HB.out | apply below_alloc | apply pw_below_drewN | apply below_drew1 | refine below_set ?_ GE963.out) | exact HB.out)⟩
 ·
  rw [if_neg c3] at H
  have c3b0 : (t964 == 0) = false := beq_eq_false_iff_ne.mpr c3
  have c3b1 : (t964 != 0) = true := bne_iff_ne.mpr c3
  simp only [Option.some.injEq, Prod.mk.injEq] at H
  obtain ⟨rfl, rfl⟩ := H
  go_enter Try.func48, Try.ntmps48
  go_wp2_with (first | ((with_reducible refine gate_dst (N := 1) rfl ?_); refine box_event ?hg (N := 1) ?hd (cs := #[.slice A0_0 l0_0.length c0_0, .slice A0_1 l0_1.length c0_1, .slice A0_2 l0_2.length c0_2]) (t := 26) ?hr ?_; (case hd => rfl); (case hg => rfl); (case hr => first | (go_simp; done) | (go_simp; rfl)); intro gb963 hg w15 hbox hb; have n0_ := Aside0.mk (below_step (by repeat (first | (with_reducible first | exact HB.out | apply below_alloc | apply pw_below_drewN | apply below_drew1) | exact HB.out)) hb); have n1_ := Aside0.mk (hbox); have n2_ := Aside0.mk ((by rw [hg]; exact (below_size (by repeat (first | (with_reducible first | exact HB.out | apply below_alloc | apply pw_below_drewN | apply below_drew1) | exact HB.out))) : w.heap.size ≤ gb963)); have n3_ := Aside0.mk ((by rw [hg]; exact (below_size (by repeat (first | (with_reducible first | exact HB.out | apply below_alloc | apply pw_below_drewN | apply below_drew1) | exact HB.out))) : w.heap.size ≤ gb963)); clear HB; have HB := n0_; have BK963 := n1_; have GW963 := n2_; have GE963 := n3_; clear n0_ n1_ n2_ n3_; clear hb hbox hg; have hcz16_0 : w15.cell? ⟨gb963, 0, none⟩ = some (.slice A0_0 l0_0.length c0_0) := (blk_cell BK963.out 0).trans rfl; have hcz16_1 : w15.cell? ⟨gb963, 1, none⟩ = some (.slice A0_1 l0_1.length c0_1) := (blk_cell BK963.out 1).trans rfl; have hcz16_2 : w15.cell? ⟨gb963, 2, none⟩ = some (.slice A0_2 l0_2.length c0_2) := (blk_cell BK963.out 2).trans rfl; have hfz16_0 := blk_frozen BK963.out 0; have hfz16_1 := blk_frozen BK963.out 1; have hfz16_2 := blk_frozen BK963.out 2) | ((with_reducible refine gate_callee (f := 19) rfl ?_); refine goesL_ (some 8) rfl rfl Try.func19 (by kernel_rfl) rfl #[.agg #[.slice A0_0 l0_0.length c0_0, .slice A0_1 l0_1.length c0_1, .slice A0_2 l0_2.length c0_2]] rfl (by (try simp only [List.map_toArray, List.map_cons, List.map_nil]); first | done | rfl | (simp only [List.length_drop, List.length_take]; rfl)) ?_; (with_reducible refine (laganref04_CheckBoard.calls k _ _ l0_0 _ _ l0_1 _ _ l0_2 t964 _ ?side1 ?side2 ?side3 ?side4 ?side5 ?side6 A2.out).mono ?_); (case side1 => repeat (first | exact (Kd.C_below HR0_0.out HB.out) | (with_reducible refine Kd.C_alloc ?_ _) | (with_reducible refine Kd.C_drewN ?_ _) | (with_reducible refine Kd.C_drew ?_))); (case side2 => exact HC0_0.out); (case side3 => repeat (first | exact (Kd.C_below HR0_1.out HB.out) | (with_reducible refine Kd.C_alloc ?_ _) | (with_reducible refine Kd.C_drewN ?_ _) | (with_reducible refine Kd.C_drew ?_))); (case side4 => exact HC0_1.out); (case side5 => repeat (first | exact (Kd.C_below HR0_2.out HB.out) | (with_reducible refine Kd.C_alloc ?_ _) | (with_reducible refine Kd.C_drewN ?_ _) | (with_reducible refine Kd.C_drew ?_))); (case side6 => exact HC0_2.out); rintro e w17 ⟨rfl, hb⟩; refine ⟨_, rfl, ?_⟩; have n0_ := Aside0.mk (blk_below (g := gb963) (o := .cells #[.slice A0_0 l0_0.length c0_0, .slice A0_1 l0_1.length c0_1, .slice A0_2 l0_2.length c0_2] 26 (0, 0)) (by (with_reducible repeat (first | refine blk_drewN ?_ _ | refine blk_drew ?_ | refine blk_alloc ?_ _)); exact BK963.out) hb); have n1_ := Aside0.mk (below_step (by repeat (first | (with_reducible first | exact HB.out | apply below_alloc | apply pw_below_drewN | apply below_drew1 | refine below_set ?_ GE963.out) | exact HB.out)) hb); clear BK963; clear HB; have BK963 := n0_; have HB := n1_; clear n0_ n1_; (try clear hb); (try clear hb2); (try clear hk); (try clear hi)))
  go_ret2
  exact ⟨_, by first | rfl | (simp [errW_none, errW_some] <;> rfl) | (simp [*, errW_none, errW_some] <;> rfl), by first | exact Kd.R_nil _ _ _ _ _ | exact Kd.N_nil _ _ _ _ _ | exact Kd.V_nil _ _ _ _ _ | exact Kd.Q_nil _ _ _ _ _ | exact Kd.S_nil _ _ _ _ _, by repeat (first | (with_reducible first | exact HB.out | apply below_alloc | apply pw_below_drewN | apply below_drew1 | refine below_set ?_ GE963.out) | exact HB.out)⟩
end Go.Proofs.Ytkmmihadcbfkoaa.PM
end

section
namespace Go.Proofs.Ytkmmihadcbfkoaa
open PM
def inB (n a b : Int) : Bool := decide (a ≤ n) && decide (n ≤ b)
/-- Rising at place i. -/
def risAt (l : List Int) (a b : Int) (i : Nat) : Bool := inB (l.getD i 0) a b && (decide (i = 0) || decide (l.getD (i - 1) 0 < l.getD i 0))
def risB (l : List Int) (a b : Int) : Bool := (List.range l.length).all (risAt l a b)
def slotKey (s : S50) : Int × Int × Int := (s.f0, s.f1, 0)
def slotIn (s : S50) : Bool := inB s.f0 1 20 && inB s.f1 1 200 && inB s.f2 1 20
/-- A slot that comes before the one ahead of it. -/
def slotBack (S : List S50) (k : Nat) : Bool := decide (0 < k) && (decide ((S.getD k z50).f0 < (S.getD (k - 1) z50).f0) || decide ((S.getD k z50).f0 = (S.getD (k - 1) z50).f0) && decide ((S.getD k z50).f1 < (S.getD (k - 1) z50).f1))
def slotAt (S : List S50) (k : Nat) : Bool := slotIn (S.getD k z50) && !(decide (slotKey (S.getD k z50) ∈ (S.take k).map slotKey)) && !slotBack S k
def slotsB (S : List S50) : Bool := (List.range S.length).all (slotAt S)
def fitsB (S : List S50) (T : List (List Int)) : Bool := T.all fun l => risB l 0 ((S.length : Int) - 1)
def checkB (F : List Int) (S : List S50) (T : List (List Int)) : Int :=
  if 60 < F.length ∨ 200 < S.length then 2
  else if risB F 10 10000007 = false ∨ T.length ≠ F.length then 1
  else if slotsB S = false then 1
  else if fitsB S T = false then 1 else 0
theorem all_range_step {p : Nat → Bool} {n k : Nat} (hk : k < n) : ((List.range n).drop k).all p = (p k && ((List.range n).drop (k + 1)).all p) := by
  rw [List.drop_eq_getElem_cons (by simpa using hk)]
  simp
end Go.Proofs.Ytkmmihadcbfkoaa
end

section
namespace Go.Proofs.Ytkmmihadcbfkoaa.PM
open Go.RowKit Go.Proofs.YtkmmihadcbfkoaaW.PrintWords Go.Proofs.YtkmmihadcbfkoaaW.PrintLast Go.Proofs.YtkmmihadcbfkoaaW.PrintMore
set_option linter.unusedVariables false
set_option linter.unusedSimpArgs false
def match_copied_int_53.f (l0 : List (List Int)) : Option ((List (List Int))) := (some (([] : List (List Int)) : List (List Int))).bind fun y496 => (if y496.length + l0.length < 5864062014805 then (some (y496 ++ l0)) else (none))
set_option maxHeartbeats 8000000 in
set_option maxRecDepth 100000 in
theorem match_copied_int_53.calls (P0_ : Nat → Prop) (A0 : Option Addr) (c0 : Nat) (l0 : List (List Int)) (r : List (List Int)) (w : World) (hs0 : Kd.V (Kd.slice 3 (Kd.int .i64)) 22 w w.heap.size (fun k_ => P0_ k_) (.slice A0 l0.length c0) l0) (h : match_copied_int_53.f l0 = some r) :
  Calls Try.prog 53 #[.slice A0 l0.length c0] w fun e w' => ∃ v0_ : Value, e = .returned (v0_) ∧ Kd.N (Kd.slice 3 (Kd.int .i64)) 22 w' w.heap.size (fun k_ => (P0_ k_ ∨ w.heap.size ≤ k_)) v0_ r ∧ Below w.heap.size w w' := by
 have HO0 := Aside0.mk (show Kd.V (Kd.slice 3 (Kd.int .i64)) 22 w w.heap.size (fun k_ => (P0_ k_ ∨ w.heap.size ≤ k_)) (.slice A0 l0.length c0) l0 from Kd.V_mono hs0 (fun k_ hk => .inl hk))
 have HB := Aside0.mk (Below.refl w.heap.size w)
 have H : ((some (([] : List (List Int)) : List (List Int))).bind fun y496 => (if y496.length + l0.length < 5864062014805 then (some (y496 ++ l0)) else (none))) = some r := h
 clear h
 obtain ⟨y496, hy496⟩ : ∃ y_ : List (List Int), y_ = (([] : List (List Int))) := ⟨_, rfl⟩
 replace H : (if y496.length + l0.length < 5864062014805 then (some (y496 ++ l0)) else (none)) = some r := by first | (rw [hy496]; with_reducible exact H) | (have H2_ := (Option.bind_some _ _).symm.trans H; rw [hy496]; with_reducible exact H2_) | (have H2_ := (Option.bind_some _ _).symm.trans H; with_reducible exact H2_) | with_reducible exact H | (rw [hy496]; exact H) | exact H
 have Ny496 := Aside0.mk hy496
 clear hy496
 by_cases c2 : y496.length + l0.length < 5864062014805
 ·
  rw [if_pos c2] at H
  have LMc2 := Aside0.mk c2
  clear c2
  obtain ⟨y499, hy499⟩ : ∃ y_ : List (List Int), y_ = (y496 ++ l0) := ⟨_, rfl⟩
  replace H : (some y499) = some r := by first | (rw [hy499]; with_reducible exact H) | (have H2_ := (Option.bind_some _ _).symm.trans H; rw [hy499]; with_reducible exact H2_) | (have H2_ := (Option.bind_some _ _).symm.trans H; with_reducible exact H2_) | with_reducible exact H | (rw [hy499]; exact H) | exact H
  have Ny499 := Aside0.mk hy499
  clear hy499
  obtain rfl := Option.some.inj H
  go_enter Try.func53, Try.ntmps53
  go_wp2_with (first | ((with_reducible refine gate_dst (N := 3) rfl ?_); refine Kd.N_lit (Kd.slice 3 (Kd.int .i64)) _ 22 ?hg (N' := 3) ?hd (xs := ([] : List (List Int))) (inner := []) (ok := (fun k_ => (P0_ k_ ∨ w.heap.size ≤ k_))) (okp := (fun k_ => (P0_ k_ ∨ w.heap.size ≤ k_))) ?hr ?hp (fun _ hk => hk) ((show ∀ k_, w.heap.size ≤ k_ → (fun k_ => (P0_ k_ ∨ w.heap.size ≤ k_)) k_ from fun k_ hk => (.inr (Nat.le_trans (below_size (by repeat (first | (with_reducible first | exact HB.out | apply below_alloc | apply pw_below_drewN | apply below_drew1) | exact HB.out))) hk))) _ (Nat.le_refl _)) (Below.refl _ _) (Nat.le_refl _) (by simp) ?_; (case hd => rfl); (case hg => rfl); (case hr => first | (go_simp; done) | (go_simp; rfl)); (case hp => exact (Reps.none _ _)); intro v497 w3 ho4 hb hg_ hnew_; clear hg_ hnew_; (first | rw [← Ny496.out] at ho4 | (simp only [Int.reduceToNat] at ho4; rw [← Ny496.out] at ho4)); have n0_ := Aside0.mk (Kd.V_elder' (by (with_reducible repeat (first | apply Kd.V_alloc | apply Kd.V_drewN | apply Kd.V_drew)); exact HO0.out) (Kd.N_base ho4) hb); have n1_ := Aside0.mk (Kd.N_lower ho4 (below_size (by repeat (first | (with_reducible first | exact HB.out | apply below_alloc | apply pw_below_drewN | apply below_drew1) | exact HB.out)))); have n2_ := Aside0.mk (below_step (by repeat (first | (with_reducible first | exact HB.out | apply below_alloc | apply pw_below_drewN | apply below_drew1) | exact HB.out)) hb); clear HO0; clear HB; have HO0 := n0_; have HO498 := n1_; have HB := n2_; clear n0_ n1_ n2_; clear hb ho4) | ((with_reducible refine gate_builtin (b := .append) (xs := #[.tmp 3, .tmp 4]) rfl ?_); at_builtin; refine Kd.N_append_rows (Kd.slice 3 (Kd.int .i64)) (w0 := w) w.heap.size rfl (.tmp 3) (.tmp 4) 24 22 (.slice none 0 0) 24 rfl Try.underlying24 info22 rfl (by decide) (by omega) v497 y496 l0 _ _ _ (fun k_ => (P0_ k_ ∨ w.heap.size ≤ k_)) (fun k_ => ((fun k_ => (P0_ k_ ∨ w.heap.size ≤ k_))) k_ ∧ some k_ ≠ (v497 : Value).ownBlock) rfl rfl ?aO ?aR (fun _ hk => hk) ?aF ?aB ?aS ?aL ?_; (case aR => exact (by skip; exact Kd.V_F (Kd.V_mono (ok' := (fun k_ => ((fun k_ => (P0_ k_ ∨ w.heap.size ≤ k_))) k_ ∧ some k_ ≠ (v497 : Value).ownBlock)) (HO0.out) (fun k_ hk => ⟨hk.1, hk.2⟩)))); (case aB => exact (by repeat (first | (with_reducible first | exact HB.out | apply below_alloc | apply pw_below_drewN | apply below_drew1) | exact HB.out))); (case aF => exact (fun k_ hk => (.inr (Nat.le_trans (below_size (by repeat (first | (with_reducible first | exact HB.out | apply below_alloc | apply pw_below_drewN | apply below_drew1) | exact HB.out))) hk)))); (case aO => exact (by (with_reducible repeat (first | apply Kd.N_alloc | apply Kd.N_drewN | apply Kd.N_drew)); exact HO498.out)); (case aS => exact (below_size (by repeat (first | (with_reducible first | exact HB.out | apply below_alloc | apply pw_below_drewN | apply below_drew1) | exact HB.out)))); (case aL => have := LMc2.out; omega); intro v500 w5 ho hb hg hat; rw [← Ny499.out] at ho; have n0_ := Aside0.mk (Kd.V_afterv (ok := (fun k_ => (P0_ k_ ∨ w.heap.size ≤ k_))) (by (with_reducible repeat (first | apply Kd.V_alloc | apply Kd.V_drewN | apply Kd.V_drew)); exact HO0.out) hg hat); have n1_ := Aside0.mk (hb); have n2_ := Aside0.mk (ho); clear HO0; clear HB; clear HO498; have HO0 := n0_; have HB := n1_; have HO501 := n2_; clear n0_ n1_ n2_; clear ho hb hg hat))
  go_ret
  exact ⟨_, by first | rfl | (simp [errW_none, errW_some] <;> rfl) | (simp [*, errW_none, errW_some] <;> rfl), by (with_reducible repeat (first | apply Kd.N_alloc | apply Kd.N_drewN | apply Kd.N_drew)); exact HO501.out, by repeat (first | (with_reducible first | exact HB.out | apply below_alloc | apply pw_below_drewN | apply below_drew1) | exact HB.out)⟩
 ·
  rw [if_neg c2] at H
  exact absurd H (by simp)
def slices_Index_int_int.l0 : Nat → List Int → Int → Int → Int → Option (Int)
 | 0, _, _, _, _ => none
 | k + 1, x0, x1, x7, x8 => if x8 < x7 then (if 0 ≤ x8 then (if x8 < (x0.length : Int) then (if x1 = (rd x0 x8) then (some x8) else (slices_Index_int_int.l0 k x0 x1 x7 (wrap64 (x8 + 1)))) else (none)) else (none)) else (some (-1))
def slices_Index_int_int.f (k : Nat) (l0 : List Int) (a1 : Int) : Option (Int) := slices_Index_int_int.l0 k l0 a1 (l0.length : Int) 0
theorem slices_Index_int_int.mono_l : ∀ k, (∀ y0 y1 y2 y3, LeO (slices_Index_int_int.l0 k y0 y1 y2 y3) (slices_Index_int_int.l0 (k + 1) y0 y1 y2 y3))
 | 0 => fun _ _ _ _ r h => by simp [slices_Index_int_int.l0] at h
 | k + 1 => by
  have ih0 := slices_Index_int_int.mono_l k
  ·
   intro y0 y1 y2 y3
   unfold slices_Index_int_int.l0
   repeat' first
   | (with_reducible exact ih0 _ _ _ _)
   | (with_reducible exact LeO.refl _)
   | (with_reducible exact LeO.none _)
   | (with_reducible refine LeO.ite ?_ ?_)
   | (with_reducible refine LeO.bind ?_ (fun _ => ?_))
   | exact ih0 _ _ _ _
   | exact LeO.none _
   | refine LeO.ite ?_ ?_
   | refine LeO.bind ?_ (fun _ => ?_)
theorem slices_Index_int_int.mono : ∀ a0 a1 k, LeO (slices_Index_int_int.f k a0 a1) (slices_Index_int_int.f (k + 1) a0 a1) := by
 intro a0 a1 k
 have ih0 := slices_Index_int_int.mono_l k
 unfold slices_Index_int_int.f
 repeat' first
   | (with_reducible exact ih0 _ _ _ _)
   | (with_reducible exact LeO.refl _)
   | (with_reducible exact LeO.none _)
   | (with_reducible refine LeO.ite ?_ ?_)
   | (with_reducible refine LeO.bind ?_ (fun _ => ?_))
   | exact ih0 _ _ _ _
   | exact LeO.none _
   | refine LeO.ite ?_ ?_
   | refine LeO.bind ?_ (fun _ => ?_)
set_option maxHeartbeats 8000000 in
set_option maxRecDepth 100000 in
theorem slices_Index_int_int.calls (k : Nat) (A0 : Option Addr) (c0 : Nat) (l0 : List Int) (a1 : Int) (r : Int) (w : World) (hr0 : Kd.C (Kd.int .i64) w A0 l0.length l0) (hc0 : l0.length ≤ c0) (h : slices_Index_int_int.f k l0 a1 = some r) :
  Calls Try.prog 86 #[.slice A0 l0.length c0, .int .i64 a1] w fun e w' => e = .returned (.int .i64 r) ∧ Drawn0 w w' := by
 have HR0 := Aside0.mk hr0
 have HC0 := Aside0.mk hc0
 clear hr0 hc0
 have H : (slices_Index_int_int.l0 k l0 a1 (l0.length : Int) 0) = some r := h
 clear h
 have H' := Aside0.mk H
 clear H
 go_enter Try.func86, Try.ntmps86
 go_wp2
 go_loopg [8] k (fun kq v8 w' => ∃ (x8_1 : Int), v8 = .int .i64 x8_1 ∧ Aside0 (slices_Index_int_int.l0 kq l0 a1 (l0.length : Int) x8_1 = some r) ∧ Aside0 (kq ≤ k) ∧ Drawn0 w w')
 case atStart => exact ⟨(0), (by first | rfl | (simp; done) | (simp [*]; done)), H', ⟨Nat.le_refl _⟩, by repeat (first | exact Drawn0.refl _ | apply Drawn0.step)⟩
 case round =>
  clear H'
  try clear p2
  obtain ⟨x8_1, rfl, HA, HK1, ⟨m1, rfl⟩⟩ := hrel
  cases gk with
  | zero => exact absurd HA.out (by simp [slices_Index_int_int.l0])
  | succ k1 =>
   have H := HA.out
   clear HA
   simp only [slices_Index_int_int.l0] at H
   by_cases c3 : x8_1 < (l0.length : Int)
   ·
    rw [if_pos c3] at H
    have c3b0 : decide (x8_1 < (l0.length : Int)) = true := decide_eq_true c3
    clear c3
    by_cases c4 : 0 ≤ x8_1
    ·
     rw [if_pos c4] at H
     have c4b0 : decide (0 ≤ x8_1) = true := decide_eq_true c4
     clear c4
     by_cases c5 : x8_1 < (l0.length : Int)
     ·
      rw [if_pos c5] at H
      have c5b0 : decide (x8_1 < (l0.length : Int)) = true := decide_eq_true c5
      clear c5
      by_cases c6 : a1 = (rd l0 x8_1)
      ·
       rw [if_pos c6] at H
       have c6b0 : (a1 == (rd l0 x8_1)) = true := beq_iff_eq.mpr c6
       have c6b1 : (a1 != (rd l0 x8_1)) = false := bne_eq_false_iff_eq.mpr c6
       clear c6
       obtain rfl := Option.some.inj H
       have p502 : 0 ≤ (x8_1 : Int) := of_decide_eq_true (by first | (with_reducible assumption) | assumption)
       have q502 : x8_1 < (l0.length : Int) := of_decide_eq_true (by first | (with_reducible assumption) | assumption)
       obtain ⟨ad502, e502, hx502_0⟩ := Kd.at_int HR0.out x8_1 p502 q502
       cases e502
       replace p502 := eq_true p502
       replace q502 := eq_true q502
       go_wp2
       go_ret
       exact ⟨by first | rfl | (simp; done) | (simp [*]; done), by repeat (first | exact Drawn0.refl _ | apply Drawn0.step)⟩
      ·
       rw [if_neg c6] at H
       have c6b0 : (a1 == (rd l0 x8_1)) = false := beq_eq_false_iff_ne.mpr c6
       have c6b1 : (a1 != (rd l0 x8_1)) = true := bne_iff_ne.mpr c6
       have H' := Aside0.mk H
       clear H
       have p502 : 0 ≤ (x8_1 : Int) := of_decide_eq_true (by first | (with_reducible assumption) | assumption)
       have q502 : x8_1 < (l0.length : Int) := of_decide_eq_true (by first | (with_reducible assumption) | assumption)
       obtain ⟨ad502, e502, hx502_0⟩ := Kd.at_int HR0.out x8_1 p502 q502
       cases e502
       replace p502 := eq_true p502
       replace q502 := eq_true q502
       go_wp2
       go_roundg k1
       case measure => have := HK1.out; omega
       case rel => exact ⟨(wrap64 (x8_1 + 1)), (by first | rfl | (simp; done) | (simp [*]; done)), H', ⟨by have := HK1.out; omega⟩, by repeat (first | exact Drawn0.refl _ | apply Drawn0.step)⟩
     ·
      rw [if_neg c5] at H
      exact absurd H (by simp)
    ·
     rw [if_neg c4] at H
     exact absurd H (by simp)
   ·
    rw [if_neg c3] at H
    have c3b0 : decide (x8_1 < (l0.length : Int)) = false := decide_eq_false c3
    clear c3
    obtain rfl := Option.some.inj H
    go_wp2
    go_ret
    exact ⟨by first | rfl | (simp; done) | (simp [*]; done), by repeat (first | exact Drawn0.refl _ | apply Drawn0.step)⟩
def slices_Contains_int_int.f (k : Nat) (l0 : List Int) (a1 : Int) : Option (Bool) := (slices_Index_int_int.f k l0 a1).bind fun t503 => (some (decide (t503 ≥ 0)))
theorem slices_Contains_int_int.mono : ∀ a0 a1 k, LeO (slices_Contains_int_int.f k a0 a1) (slices_Contains_int_int.f (k + 1) a0 a1) := by
 intro a0 a1 k
 unfold slices_Contains_int_int.f
 repeat' first
   | (with_reducible exact slices_Index_int_int.mono _ _ _)
   | (with_reducible exact LeO.refl _)
   | (with_reducible exact LeO.none _)
   | (with_reducible refine LeO.ite ?_ ?_)
   | (with_reducible refine LeO.bind ?_ (fun _ => ?_))
   | exact slices_Index_int_int.mono _ _ _
   | exact LeO.none _
   | refine LeO.ite ?_ ?_
   | refine LeO.bind ?_ (fun _ => ?_)
set_option maxHeartbeats 8000000 in
set_option maxRecDepth 100000 in
theorem slices_Contains_int_int.calls (k : Nat) (A0 : Option Addr) (c0 : Nat) (l0 : List Int) (a1 : Int) (r : Bool) (w : World) (hr0 : Kd.C (Kd.int .i64) w A0 l0.length l0) (hc0 : l0.length ≤ c0) (h : slices_Contains_int_int.f k l0 a1 = some r) :
  Calls Try.prog 59 #[.slice A0 l0.length c0, .int .i64 a1] w fun e w' => e = .returned (.bool r) ∧ Drawn0 w w' := by
 have HR0 := Aside0.mk hr0
 have HC0 := Aside0.mk hc0
 clear hr0 hc0
 have H : ((slices_Index_int_int.f k l0 a1).bind fun t503 => (some (decide (t503 ≥ 0)))) = some r := h
 clear h
 replace H := Option.bind_eq_some_iff.mp H
 obtain ⟨t503, A30, H⟩ := H
 replace H : (some (decide (t503 ≥ 0))) = some r := H
 have A3 := Aside0.mk A30
 clear A30
 obtain rfl := Option.some.inj H
 go_enter Try.func59, Try.ntmps59
 go_wp2_with (first | ((with_reducible refine gate_callee (f := 86) rfl ?_); refine goesL_ (some 7) rfl rfl Try.func86 (by kernel_rfl) rfl #[.slice A0 l0.length c0, .int .i64 a1] rfl (by (try simp only [List.map_toArray, List.map_cons, List.map_nil]); first | done | rfl | (simp only [List.length_drop, List.length_take]; rfl)) ?_; (with_reducible refine (slices_Index_int_int.calls k _ _ l0 a1 t503 _ ?side1 ?side2 A3.out).mono ?_); (case side1 => repeat (first | exact HR0.out | (with_reducible refine Kd.C_alloc ?_ _) | (with_reducible refine Kd.C_drewN ?_ _) | (with_reducible refine Kd.C_drew ?_))); (case side2 => exact HC0.out); rintro e w' ⟨rfl, ⟨nd, rfl⟩⟩; refine ⟨_, rfl, ?_⟩))
 go_ret
 exact ⟨by first | rfl | (simp; done) | (simp [*]; done), by repeat (first | exact Drawn0.refl _ | apply Drawn0.step)⟩
def match_in.f (a0 : Int) (a1 : Int) (a2 : Int) : Option (Bool) := if a0 ≥ a1 then (some (decide (a0 ≤ a2))) else (some false)
set_option maxHeartbeats 8000000 in
set_option maxRecDepth 100000 in
theorem match_in.calls (a0 : Int) (a1 : Int) (a2 : Int) (r : Bool) (w : World) (h : match_in.f a0 a1 a2 = some r) :
  Calls Try.prog 82 #[.int .i64 a0, .int .i64 a1, .int .i64 a2] w fun e w' => e = .returned (.bool r) ∧ Drawn0 w w' := by
 have H : (if a0 ≥ a1 then (some (decide (a0 ≤ a2))) else (some false)) = some r := h
 clear h
 by_cases c4 : a0 ≥ a1
 ·
  rw [if_pos c4] at H
  have c4b0 : decide (a1 ≤ a0) = true := decide_eq_true c4
  clear c4
  obtain rfl := Option.some.inj H
  go_enter Try.func82, Try.ntmps82
  go_wp2
  go_ret
  exact ⟨by first | rfl | (simp; done) | (simp [*]; done), by repeat (first | exact Drawn0.refl _ | apply Drawn0.step)⟩
 ·
  rw [if_neg c4] at H
  have c4b0 : decide (a1 ≤ a0) = false := decide_eq_false c4
  clear c4
  obtain rfl := Option.some.inj H
  go_enter Try.func82, Try.ntmps82
  go_wp2
  go_ret
  exact ⟨by first | rfl | (simp; done) | (simp [*]; done), by repeat (first | exact Drawn0.refl _ | apply Drawn0.step)⟩
def match_rising.l0 : Nat → List Int → Int → Int → List Int → Int → Int → Option (Bool)
 | 0, _, _, _, _, _, _ => none
 | k + 1, x0, x1, x2, x9, x10, x11 => if x11 < x10 then (if 0 ≤ x11 then (if x11 < (x9.length : Int) then ((match_in.f (rd x9 x11) x1 x2).bind fun t505 => (if t505 = true then (if x11 > 0 then (if 0 ≤ (wrap64 (x11 - 1)) then (if (wrap64 (x11 - 1)) < (x0.length : Int) then (if (rd x0 (wrap64 (x11 - 1))) ≥ (rd x9 x11) then (some false) else (match_rising.l0 k x0 x1 x2 x9 x10 (wrap64 (x11 + 1)))) else (none)) else (none)) else (match_rising.l0 k x0 x1 x2 x9 x10 (wrap64 (x11 + 1)))) else (some false))) else (none)) else (none)) else (some true)
def match_rising.f (k : Nat) (l0 : List Int) (a1 : Int) (a2 : Int) : Option (Bool) := match_rising.l0 k l0 a1 a2 l0 (l0.length : Int) 0
theorem match_rising.mono_l : ∀ k, (∀ y0 y1 y2 y3 y4 y5, LeO (match_rising.l0 k y0 y1 y2 y3 y4 y5) (match_rising.l0 (k + 1) y0 y1 y2 y3 y4 y5))
 | 0 => fun _ _ _ _ _ _ r h => by simp [match_rising.l0] at h
 | k + 1 => by
  have ih0 := match_rising.mono_l k
  ·
   intro y0 y1 y2 y3 y4 y5
   unfold match_rising.l0
   repeat' first
   | (with_reducible exact ih0 _ _ _ _ _ _)
   | (with_reducible exact LeO.refl _)
   | (with_reducible exact LeO.none _)
   | (with_reducible refine LeO.ite ?_ ?_)
   | (with_reducible refine LeO.bind ?_ (fun _ => ?_))
   | exact ih0 _ _ _ _ _ _
   | exact LeO.none _
   | refine LeO.ite ?_ ?_
   | refine LeO.bind ?_ (fun _ => ?_)
theorem match_rising.mono : ∀ a0 a1 a2 k, LeO (match_rising.f k a0 a1 a2) (match_rising.f (k + 1) a0 a1 a2) := by
 intro a0 a1 a2 k
 have ih0 := match_rising.mono_l k
 unfold match_rising.f
 repeat' first
   | (with_reducible exact ih0 _ _ _ _ _ _)
   | (with_reducible exact LeO.refl _)
   | (with_reducible exact LeO.none _)
   | (with_reducible refine LeO.ite ?_ ?_)
   | (with_reducible refine LeO.bind ?_ (fun _ => ?_))
   | exact ih0 _ _ _ _ _ _
   | exact LeO.none _
   | refine LeO.ite ?_ ?_
   | refine LeO.bind ?_ (fun _ => ?_)
set_option maxHeartbeats 8000000 in
set_option maxRecDepth 100000 in
theorem match_rising.calls (k : Nat) (A0 : Option Addr) (c0 : Nat) (l0 : List Int) (a1 : Int) (a2 : Int) (r : Bool) (w : World) (hr0 : Kd.C (Kd.int .i64) w A0 l0.length l0) (hc0 : l0.length ≤ c0) (h : match_rising.f k l0 a1 a2 = some r) :
  Calls Try.prog 68 #[.slice A0 l0.length c0, .int .i64 a1, .int .i64 a2] w fun e w' => e = .returned (.bool r) ∧ Drawn0 w w' := by
 have HR0 := Aside0.mk hr0
 have HC0 := Aside0.mk hc0
 clear hr0 hc0
 have H : (match_rising.l0 k l0 a1 a2 l0 (l0.length : Int) 0) = some r := h
 clear h
 have H' := Aside0.mk H
 clear H
 go_enter Try.func68, Try.ntmps68
 go_wp2
 go_loopg [11] k (fun kq v11 w' => ∃ (x11_1 : Int), v11 = .int .i64 x11_1 ∧ Aside0 (match_rising.l0 kq l0 a1 a2 l0 (l0.length : Int) x11_1 = some r) ∧ Aside0 (kq ≤ k) ∧ Drawn0 w w')
 case atStart => exact ⟨(0), (by first | rfl | (simp; done) | (simp [*]; done)), H', ⟨Nat.le_refl _⟩, by repeat (first | exact Drawn0.refl _ | apply Drawn0.step)⟩
 case round =>
  clear H'
  try clear p2
  obtain ⟨x11_1, rfl, HA, HK1, ⟨m1, rfl⟩⟩ := hrel
  cases gk with
  | zero => exact absurd HA.out (by simp [match_rising.l0])
  | succ k1 =>
   have H := HA.out
   clear HA
   simp only [match_rising.l0] at H
   by_cases c4 : x11_1 < (l0.length : Int)
   ·
    rw [if_pos c4] at H
    have c4b0 : decide (x11_1 < (l0.length : Int)) = true := decide_eq_true c4
    clear c4
    by_cases c5 : 0 ≤ x11_1
    ·
     rw [if_pos c5] at H
     have c5b0 : decide (0 ≤ x11_1) = true := decide_eq_true c5
     clear c5
     by_cases c6 : x11_1 < (l0.length : Int)
     ·
      rw [if_pos c6] at H
      have c6b0 : decide (x11_1 < (l0.length : Int)) = true := decide_eq_true c6
      clear c6
      replace H := Option.bind_eq_some_iff.mp H
      obtain ⟨t505, A70, H⟩ := H
      replace H : (if t505 = true then (if x11_1 > 0 then (if 0 ≤ (wrap64 (x11_1 - 1)) then (if (wrap64 (x11_1 - 1)) < (l0.length : Int) then (if (rd l0 (wrap64 (x11_1 - 1))) ≥ (rd l0 x11_1) then (some false) else (match_rising.l0 k1 l0 a1 a2 l0 (l0.length : Int) (wrap64 (x11_1 + 1)))) else (none)) else (none)) else (match_rising.l0 k1 l0 a1 a2 l0 (l0.length : Int) (wrap64 (x11_1 + 1)))) else (some false)) = some r := H
      have A7 := Aside0.mk A70
      clear A70
      by_cases c8 : t505 = true
      ·
       subst c8
       have H1 : (if x11_1 > 0 then (if 0 ≤ (wrap64 (x11_1 - 1)) then (if (wrap64 (x11_1 - 1)) < (l0.length : Int) then (if (rd l0 (wrap64 (x11_1 - 1))) ≥ (rd l0 x11_1) then (some false) else (match_rising.l0 k1 l0 a1 a2 l0 (l0.length : Int) (wrap64 (x11_1 + 1)))) else (none)) else (none)) else (match_rising.l0 k1 l0 a1 a2 l0 (l0.length : Int) (wrap64 (x11_1 + 1)))) = some r := by rw [if_pos rfl] at H; exact H
       clear H
       have H := H1
       clear H1
       by_cases c9 : x11_1 > 0
       ·
        rw [if_pos c9] at H
        have c9b0 : decide (0 < x11_1) = true := decide_eq_true c9
        clear c9
        obtain ⟨ji10, hji10⟩ : ∃ j_ : Int, (wrap64 (x11_1 - 1)) = j_ := ⟨_, rfl⟩
        replace H : (if 0 ≤ (ji10) then (if (ji10) < (l0.length : Int) then (if (rd l0 (ji10)) ≥ (rd l0 x11_1) then (some false) else (match_rising.l0 k1 l0 a1 a2 l0 (l0.length : Int) (wrap64 (x11_1 + 1)))) else (none)) else (none)) = some r := by first | (rw [hji10] at H; exact H) | (simp only [hji10] at H ⊢; exact H)
        (try rw [hji10] at A7)
        have hji10w : (IntKind.i64.wrap (x11_1 - 1)) = ji10 := (i64_w _).trans hji10
        by_cases c11 : 0 ≤ (ji10)
        ·
         rw [if_pos c11] at H
         have c11b0 : decide (0 ≤ (ji10)) = true := decide_eq_true c11
         clear c11
         by_cases c12 : (ji10) < (l0.length : Int)
         ·
          rw [if_pos c12] at H
          have c12b0 : decide ((ji10) < (l0.length : Int)) = true := decide_eq_true c12
          clear c12
          by_cases c13 : (rd l0 (ji10)) ≥ (rd l0 x11_1)
          ·
           rw [if_pos c13] at H
           have c13b0 : decide ((rd l0 x11_1) ≤ (rd l0 (ji10))) = true := decide_eq_true c13
           clear c13
           obtain rfl := Option.some.inj H
           have p504 : 0 ≤ (x11_1 : Int) := of_decide_eq_true (by first | (with_reducible assumption) | assumption)
           have q504 : x11_1 < (l0.length : Int) := of_decide_eq_true (by first | (with_reducible assumption) | assumption)
           obtain ⟨ad504, e504, hx504_0⟩ := Kd.at_int HR0.out x11_1 p504 q504
           cases e504
           replace p504 := eq_true p504
           replace q504 := eq_true q504
           go_wp2_with (first | ((with_reducible refine gate_callee (f := 82) rfl ?_); refine goesL_ (some 19) rfl rfl Try.func82 (by kernel_rfl) rfl #[.int .i64 (rd l0 x11_1), .int .i64 a1, .int .i64 a2] rfl (by (try simp only [List.map_toArray, List.map_cons, List.map_nil]); first | done | rfl | (simp only [List.length_drop, List.length_take]; rfl)) ?_; (with_reducible refine (match_in.calls (rd l0 x11_1) a1 a2 true _ A7.out).mono ?_); rintro e w' ⟨rfl, ⟨nd, rfl⟩⟩; refine ⟨_, rfl, ?_⟩; have p506 : 0 ≤ ((ji10) : Int) := of_decide_eq_true (by first | (with_reducible assumption) | assumption); have q506 : (ji10) < (l0.length : Int) := of_decide_eq_true (by first | (with_reducible assumption) | assumption); obtain ⟨ad506, e506, hx506_0⟩ := Kd.at_int HR0.out (ji10) p506 q506; obtain rfl : ad504 = ad506 := (by injection e506); replace p506 := eq_true p506; replace q506 := eq_true q506))
           go_ret
           exact ⟨by first | rfl | (simp; done) | (simp only [← hji10] <;> (first | rfl | simp)) | (simp [*]; done), by repeat (first | exact Drawn0.refl _ | apply Drawn0.step)⟩
          ·
           rw [if_neg c13] at H
           have c13b0 : decide ((rd l0 x11_1) ≤ (rd l0 (ji10))) = false := decide_eq_false c13
           clear c13
           have H' := Aside0.mk H
           clear H
           have p504 : 0 ≤ (x11_1 : Int) := of_decide_eq_true (by first | (with_reducible assumption) | assumption)
           have q504 : x11_1 < (l0.length : Int) := of_decide_eq_true (by first | (with_reducible assumption) | assumption)
           obtain ⟨ad504, e504, hx504_0⟩ := Kd.at_int HR0.out x11_1 p504 q504
           cases e504
           replace p504 := eq_true p504
           replace q504 := eq_true q504
           go_wp2_with (first | ((with_reducible refine gate_callee (f := 82) rfl ?_); refine goesL_ (some 19) rfl rfl Try.func82 (by kernel_rfl) rfl #[.int .i64 (rd l0 x11_1), .int .i64 a1, .int .i64 a2] rfl (by (try simp only [List.map_toArray, List.map_cons, List.map_nil]); first | done | rfl | (simp only [List.length_drop, List.length_take]; rfl)) ?_; (with_reducible refine (match_in.calls (rd l0 x11_1) a1 a2 true _ A7.out).mono ?_); rintro e w' ⟨rfl, ⟨nd, rfl⟩⟩; refine ⟨_, rfl, ?_⟩; have p506 : 0 ≤ ((ji10) : Int) := of_decide_eq_true (by first | (with_reducible assumption) | assumption); have q506 : (ji10) < (l0.length : Int) := of_decide_eq_true (by first | (with_reducible assumption) | assumption); obtain ⟨ad506, e506, hx506_0⟩ := Kd.at_int HR0.out (ji10) p506 q506; obtain rfl : ad504 = ad506 := (by injection e506); replace p506 := eq_true p506; replace q506 := eq_true q506))
           go_roundg k1
           case measure => have := HK1.out; omega
           case rel => exact ⟨(wrap64 (x11_1 + 1)), (by first | rfl | (simp; done) | (simp [*]; done)), H', ⟨by have := HK1.out; omega⟩, by repeat (first | exact Drawn0.refl _ | apply Drawn0.step)⟩
         ·
          rw [if_neg c12] at H
          exact absurd H (by simp)
        ·
         rw [if_neg c11] at H
         exact absurd H (by simp)
       ·
        rw [if_neg c9] at H
        have c9b0 : decide (0 < x11_1) = false := decide_eq_false c9
        clear c9
        have H' := Aside0.mk H
        clear H
        have p504 : 0 ≤ (x11_1 : Int) := of_decide_eq_true (by first | (with_reducible assumption) | assumption)
        have q504 : x11_1 < (l0.length : Int) := of_decide_eq_true (by first | (with_reducible assumption) | assumption)
        obtain ⟨ad504, e504, hx504_0⟩ := Kd.at_int HR0.out x11_1 p504 q504
        cases e504
        replace p504 := eq_true p504
        replace q504 := eq_true q504
        go_wp2_with (first | ((with_reducible refine gate_callee (f := 82) rfl ?_); refine goesL_ (some 19) rfl rfl Try.func82 (by kernel_rfl) rfl #[.int .i64 (rd l0 x11_1), .int .i64 a1, .int .i64 a2] rfl (by (try simp only [List.map_toArray, List.map_cons, List.map_nil]); first | done | rfl | (simp only [List.length_drop, List.length_take]; rfl)) ?_; (with_reducible refine (match_in.calls (rd l0 x11_1) a1 a2 true _ A7.out).mono ?_); rintro e w' ⟨rfl, ⟨nd, rfl⟩⟩; refine ⟨_, rfl, ?_⟩))
        go_roundg k1
        case measure => have := HK1.out; omega
        case rel => exact ⟨(wrap64 (x11_1 + 1)), (by first | rfl | (simp; done) | (simp [*]; done)), H', ⟨by have := HK1.out; omega⟩, by repeat (first | exact Drawn0.refl _ | apply Drawn0.step)⟩
      ·
       replace c8 := Bool.eq_false_iff.mpr c8
       subst c8
       have H1 : (some false) = some r := by rw [if_neg (show ¬ (false = true) by decide)] at H; exact H
       clear H
       have H := H1
       clear H1
       obtain rfl := Option.some.inj H
       have p504 : 0 ≤ (x11_1 : Int) := of_decide_eq_true (by first | (with_reducible assumption) | assumption)
       have q504 : x11_1 < (l0.length : Int) := of_decide_eq_true (by first | (with_reducible assumption) | assumption)
       obtain ⟨ad504, e504, hx504_0⟩ := Kd.at_int HR0.out x11_1 p504 q504
       cases e504
       replace p504 := eq_true p504
       replace q504 := eq_true q504
       go_wp2_with (first | ((with_reducible refine gate_callee (f := 82) rfl ?_); refine goesL_ (some 19) rfl rfl Try.func82 (by kernel_rfl) rfl #[.int .i64 (rd l0 x11_1), .int .i64 a1, .int .i64 a2] rfl (by (try simp only [List.map_toArray, List.map_cons, List.map_nil]); first | done | rfl | (simp only [List.length_drop, List.length_take]; rfl)) ?_; (with_reducible refine (match_in.calls (rd l0 x11_1) a1 a2 false _ A7.out).mono ?_); rintro e w' ⟨rfl, ⟨nd, rfl⟩⟩; refine ⟨_, rfl, ?_⟩))
       go_ret
       exact ⟨by first | rfl | (simp; done) | (simp [*]; done), by repeat (first | exact Drawn0.refl _ | apply Drawn0.step)⟩
     ·
      rw [if_neg c6] at H
      exact absurd H (by simp)
    ·
     rw [if_neg c5] at H
     exact absurd H (by simp)
   ·
    rw [if_neg c4] at H
    have c4b0 : decide (x11_1 < (l0.length : Int)) = false := decide_eq_false c4
    clear c4
    obtain rfl := Option.some.inj H
    go_wp2
    go_ret
    exact ⟨by first | rfl | (simp; done) | (simp [*]; done), by repeat (first | exact Drawn0.refl _ | apply Drawn0.step)⟩
def match_copied_int_88.f (l0 : List Int) : Option (List Int) := (some (([] : List Int) : List Int)).bind fun y507 => (if y507.length + l0.length < 17592186044416 then (some (y507 ++ l0)) else (none))
set_option maxHeartbeats 8000000 in
set_option maxRecDepth 100000 in
theorem match_copied_int_88.calls (A0 : Option Addr) (c0 : Nat) (l0 : List Int) (r : List Int) (w : World) (hr0 : Kd.C (Kd.int .i64) w A0 l0.length l0) (hc0 : l0.length ≤ c0) (h : match_copied_int_88.f l0 = some r) :
  Calls Try.prog 88 #[.slice A0 l0.length c0] w fun e w' => ∃ v0_ : Value, e = .returned (v0_) ∧ Kd.R (Kd.int .i64) 3 w' w.heap.size (fun _ => True) v0_ r ∧ Below w.heap.size w w' := by
 have HR0 := Aside0.mk hr0
 have HC0 := Aside0.mk hc0
 clear hr0 hc0
 have HB := Aside0.mk (Below.refl w.heap.size w)
 have H : ((some (([] : List Int) : List Int)).bind fun y507 => (if y507.length + l0.length < 17592186044416 then (some (y507 ++ l0)) else (none))) = some r := h
 clear h
 obtain ⟨y507, hy507⟩ : ∃ y_ : List Int, y_ = (([] : List Int)) := ⟨_, rfl⟩
 replace H : (if y507.length + l0.length < 17592186044416 then (some (y507 ++ l0)) else (none)) = some r := by first | (rw [hy507]; with_reducible exact H) | (have H2_ := (Option.bind_some _ _).symm.trans H; rw [hy507]; with_reducible exact H2_) | (have H2_ := (Option.bind_some _ _).symm.trans H; with_reducible exact H2_) | with_reducible exact H | (rw [hy507]; exact H) | exact H
 have Ny507 := Aside0.mk hy507
 clear hy507
 by_cases c2 : y507.length + l0.length < 17592186044416
 ·
  rw [if_pos c2] at H
  have LMc2 := Aside0.mk c2
  clear c2
  obtain ⟨y510, hy510⟩ : ∃ y_ : List Int, y_ = (y507 ++ l0) := ⟨_, rfl⟩
  replace H : (some y510) = some r := by first | (rw [hy510]; with_reducible exact H) | (have H2_ := (Option.bind_some _ _).symm.trans H; rw [hy510]; with_reducible exact H2_) | (have H2_ := (Option.bind_some _ _).symm.trans H; with_reducible exact H2_) | with_reducible exact H | (rw [hy510]; exact H) | exact H
  have Ny510 := Aside0.mk hy510
  clear hy510
  obtain rfl := Option.some.inj H
  go_enter Try.func88, Try.ntmps88
  go_wp2_with (first | ((with_reducible refine gate_dst (N := 3) rfl ?_); refine Kd.R_lit (Kd.int .i64) _ 3 ?hg (N := 3) ?hd (xs := ([] : List Int)) (inner := []) (ok := fun _ => True) (okp := fun _ => True) ?hr ?hp (fun _ hk => hk) trivial (Below.refl _ _) (Nat.le_refl _) (by simp) ?_; (case hd => rfl); (case hg => rfl); (case hr => first | (go_simp; done) | (go_simp; rfl)); (case hp => exact (Reps.none _ _)); intro v508 w3 ho4 hb hg_ hnew_; clear hg_ hnew_; (first | rw [← Ny507.out] at ho4 | (simp only [Int.reduceToNat] at ho4; rw [← Ny507.out] at ho4)); have n0_ := Aside0.mk (Kd.R_lower ho4 (below_size (by repeat (first | (with_reducible first | exact HB.out | apply below_alloc | apply pw_below_drewN | apply below_drew1) | exact HB.out)))); have n1_ := Aside0.mk (below_step (by repeat (first | (with_reducible first | exact HB.out | apply below_alloc | apply pw_below_drewN | apply below_drew1) | exact HB.out)) hb); clear HB; have HO509 := n0_; have HB := n1_; clear n0_ n1_; clear hb ho4) | ((with_reducible refine gate_builtin (b := .append) (xs := #[.tmp 3, .tmp 4]) rfl ?_); at_builtin; refine Kd.R_append_rows (Kd.int .i64) (w0 := w) w.heap.size rfl (.tmp 3) (.tmp 4) 22 3 (.int .i64 0) 8 rfl Try.underlying22 info3 rfl (by decide) (by omega) v508 y507 l0 _ _ _ (fun _ => True) (fun _ => False) rfl rfl ?aO ?aR (fun _ _ h => h) (fun _ h => h.elim) ?aF ?aB ?aS ?aL ?_; (case aR => repeat (first | exact (Kd.C_below HR0.out HB.out) | (with_reducible refine Kd.C_alloc ?_ _) | (with_reducible refine Kd.C_drewN ?_ _) | (with_reducible refine Kd.C_drew ?_))); (case aB => exact (by repeat (first | (with_reducible first | exact HB.out | apply below_alloc | apply pw_below_drewN | apply below_drew1) | exact HB.out))); (case aF => exact (fun _ _ => trivial)); (case aO => exact (by (with_reducible repeat (first | apply Kd.R_alloc | apply Kd.R_drewN | apply Kd.R_drew)); exact HO509.out)); (case aS => exact (below_size (by repeat (first | (with_reducible first | exact HB.out | apply below_alloc | apply pw_below_drewN | apply below_drew1) | exact HB.out)))); (case aL => have := LMc2.out; omega); intro v511 w5 ho hb hg hat; rw [← Ny510.out] at ho; have n0_ := Aside0.mk (hb); have n1_ := Aside0.mk (ho); clear HB; clear HO509; have HB := n0_; have HO512 := n1_; clear n0_ n1_; clear ho hb hg hat))
  go_ret
  exact ⟨_, by first | rfl | (simp [errW_none, errW_some] <;> rfl) | (simp [*, errW_none, errW_some] <;> rfl), by (with_reducible repeat (first | apply Kd.R_alloc | apply Kd.R_drewN | apply Kd.R_drew)); exact HO512.out, by repeat (first | (with_reducible first | exact HB.out | apply below_alloc | apply pw_below_drewN | apply below_drew1) | exact HB.out)⟩
 ·
  rw [if_neg c2] at H
  exact absurd H (by simp)
def api_Slot.f (l0 : List (S50)) : Option ((List (S50))) := (some (([] : List (S50)) : List (S50))).bind fun y513 => (if y513.length + l0.length < 5864062014805 then (some (y513 ++ l0)) else (none))
set_option maxHeartbeats 8000000 in
set_option maxRecDepth 100000 in
theorem api_Slot.calls (A0 : Option Addr) (c0 : Nat) (l0 : List (S50)) (r : List (S50)) (w : World) (hr0 : Kd.C k50 w A0 l0.length l0) (hc0 : l0.length ≤ c0) (h : api_Slot.f l0 = some r) :
  Calls Try.prog 92 #[.slice A0 l0.length c0] w fun e w' => ∃ v0_ : Value, e = .returned (v0_) ∧ Kd.R k50 50 w' w.heap.size (fun _ => True) v0_ r ∧ Below w.heap.size w w' := by
 have HR0 := Aside0.mk hr0
 have HC0 := Aside0.mk hc0
 clear hr0 hc0
 have HB := Aside0.mk (Below.refl w.heap.size w)
 have H : ((some (([] : List (S50)) : List (S50))).bind fun y513 => (if y513.length + l0.length < 5864062014805 then (some (y513 ++ l0)) else (none))) = some r := h
 clear h
 obtain ⟨y513, hy513⟩ : ∃ y_ : List (S50), y_ = (([] : List (S50))) := ⟨_, rfl⟩
 replace H : (if y513.length + l0.length < 5864062014805 then (some (y513 ++ l0)) else (none)) = some r := by first | (rw [hy513]; with_reducible exact H) | (have H2_ := (Option.bind_some _ _).symm.trans H; rw [hy513]; with_reducible exact H2_) | (have H2_ := (Option.bind_some _ _).symm.trans H; with_reducible exact H2_) | with_reducible exact H | (rw [hy513]; exact H) | exact H
 have Ny513 := Aside0.mk hy513
 clear hy513
 by_cases c2 : y513.length + l0.length < 5864062014805
 ·
  rw [if_pos c2] at H
  have LMc2 := Aside0.mk c2
  clear c2
  obtain ⟨y516, hy516⟩ : ∃ y_ : List (S50), y_ = (y513 ++ l0) := ⟨_, rfl⟩
  replace H : (some y516) = some r := by first | (rw [hy516]; with_reducible exact H) | (have H2_ := (Option.bind_some _ _).symm.trans H; rw [hy516]; with_reducible exact H2_) | (have H2_ := (Option.bind_some _ _).symm.trans H; with_reducible exact H2_) | with_reducible exact H | (rw [hy516]; exact H) | exact H
  have Ny516 := Aside0.mk hy516
  clear hy516
  obtain rfl := Option.some.inj H
  go_enter Try.func92, Try.ntmps92
  go_wp2_with (first | ((with_reducible refine gate_dst (N := 3) rfl ?_); refine Kd.R_lit k50 _ 50 ?hg (N := 3) ?hd (xs := ([] : List (S50))) (inner := []) (ok := fun _ => True) (okp := fun _ => True) ?hr ?hp (fun _ hk => hk) trivial (Below.refl _ _) (Nat.le_refl _) (by simp) ?_; (case hd => rfl); (case hg => rfl); (case hr => first | (go_simp; done) | (go_simp; rfl)); (case hp => exact (Reps.none _ _)); intro v514 w3 ho4 hb hg_ hnew_; clear hg_ hnew_; (first | rw [← Ny513.out] at ho4 | (simp only [Int.reduceToNat] at ho4; rw [← Ny513.out] at ho4)); have n0_ := Aside0.mk (Kd.R_lower ho4 (below_size (by repeat (first | (with_reducible first | exact HB.out | apply below_alloc | apply pw_below_drewN | apply below_drew1) | exact HB.out)))); have n1_ := Aside0.mk (below_step (by repeat (first | (with_reducible first | exact HB.out | apply below_alloc | apply pw_below_drewN | apply below_drew1) | exact HB.out)) hb); clear HB; have HO515 := n0_; have HB := n1_; clear n0_ n1_; clear hb ho4) | ((with_reducible refine gate_builtin (b := .append) (xs := #[.tmp 3, .tmp 4]) rfl ?_); at_builtin; refine Kd.R_append_rows k50 (w0 := w) w.heap.size rfl (.tmp 3) (.tmp 4) 23 50 (.agg #[(.int .i64 0), (.int .i64 0), (.int .i64 0)]) 24 rfl Try.underlying23 info50 rfl (by decide) (by omega) v514 y513 l0 _ _ _ (fun _ => True) (fun _ => False) rfl rfl ?aO ?aR (fun _ _ h => h) (fun _ h => h.elim) ?aF ?aB ?aS ?aL ?_; (case aR => repeat (first | exact (Kd.C_below HR0.out HB.out) | (with_reducible refine Kd.C_alloc ?_ _) | (with_reducible refine Kd.C_drewN ?_ _) | (with_reducible refine Kd.C_drew ?_))); (case aB => exact (by repeat (first | (with_reducible first | exact HB.out | apply below_alloc | apply pw_below_drewN | apply below_drew1) | exact HB.out))); (case aF => exact (fun _ _ => trivial)); (case aO => exact (by (with_reducible repeat (first | apply Kd.R_alloc | apply Kd.R_drewN | apply Kd.R_drew)); exact HO515.out)); (case aS => exact (below_size (by repeat (first | (with_reducible first | exact HB.out | apply below_alloc | apply pw_below_drewN | apply below_drew1) | exact HB.out)))); (case aL => have := LMc2.out; omega); intro v517 w5 ho hb hg hat; rw [← Ny516.out] at ho; have n0_ := Aside0.mk (hb); have n1_ := Aside0.mk (ho); clear HB; clear HO515; have HB := n0_; have HO518 := n1_; clear n0_ n1_; clear ho hb hg hat))
  go_ret
  exact ⟨_, by first | rfl | (simp [errW_none, errW_some] <;> rfl) | (simp [*, errW_none, errW_some] <;> rfl), by (with_reducible repeat (first | apply Kd.R_alloc | apply Kd.R_drewN | apply Kd.R_drew)); exact HO518.out, by repeat (first | (with_reducible first | exact HB.out | apply below_alloc | apply pw_below_drewN | apply below_drew1) | exact HB.out)⟩
 ·
  rw [if_neg c2] at H
  exact absurd H (by simp)
end Go.Proofs.Ytkmmihadcbfkoaa.PM
end

section
namespace Go.Proofs.Ytkmmihadcbfkoaa
/-- The finds below k that were given the slot. -/
def atTo (zs : List Int) (s : Int) (k : Nat) : List Int := ((List.range k).filter (fun j => zs[j]?.getD 0 == s)).map Int.ofNat
def atOf (zs : List Int) (s : Int) : List Int := atTo zs s zs.length
theorem atTo_yes {zs : List Int} {s : Int} {k : Nat} (h : zs[k]?.getD 0 = s) : atTo zs s (k + 1) = atTo zs s k ++ [(k : Int)] := by
  simp [atTo, List.range_succ, List.filter_append, h]
theorem atTo_no {zs : List Int} {s : Int} {k : Nat} (h : zs[k]?.getD 0 ≠ s) : atTo zs s (k + 1) = atTo zs s k := by
  simp [atTo, List.range_succ, List.filter_append, h]
theorem atTo_length (zs : List Int) (s : Int) (k : Nat) : (atTo zs s k).length ≤ k := by
  simp only [atTo, List.length_map]
  exact Nat.le_trans (List.length_filter_le _ _) (by simp)
theorem mem_atOf {zs : List Int} {s g : Int} : g ∈ atOf zs s ↔ 0 ≤ g ∧ g < zs.length ∧ zs[g.toNat]?.getD 0 = s := by
  simp only [atOf, atTo, List.mem_map, List.mem_filter, List.mem_range, beq_iff_eq]
  constructor
  · rintro ⟨j, ⟨h1, h2⟩, rfl⟩
    exact ⟨Int.natCast_nonneg _, by simpa using h1, by simpa using h2⟩
  · rintro ⟨h0, h1, h2⟩
    exact ⟨g.toNat, ⟨by omega, h2⟩, by simp; omega⟩
def ld (has : List Int) (s : Int) : Int := (atOf has s).length
/-- What the search comes to: found or not, the slots seen, the finds' slots. -/
structure SR where
  ok : Bool
  seen : List Bool
  has : List Int
def seekG (rec : Int → List Bool → List Int → SR) (f : Int) : List Int → List Bool → List Int → SR
  | [], seen, has => ⟨false, seen, has⟩
  | g :: gs, seen, has =>
    if g = f then seekG rec f gs seen has
    else if (rec g seen has).ok then rec g seen has else seekG rec f gs (rec g seen has).seen (rec g seen has).has
def seekS (rec : Int → List Bool → List Int → SR) (room : List Int) (f : Int) : List Int → List Bool → List Int → SR
  | [], seen, has => ⟨false, seen, has⟩
  | s :: ss, seen, has =>
    if seen.getD s.toNat false then seekS rec room f ss seen has
    else if ld has s < room.getD s.toNat 0 then ⟨true, seen.set s.toNat true, has.set f.toNat s⟩
    else if (seekG rec f (atOf has s) (seen.set s.toNat true) has).ok then
      ⟨true, (seekG rec f (atOf has s) (seen.set s.toNat true) has).seen, (seekG rec f (atOf has s) (seen.set s.toNat true) has).has.set f.toNat s⟩
    else seekS rec room f ss (seekG rec f (atOf has s) (seen.set s.toNat true) has).seen (seekG rec f (atOf has s) (seen.set s.toNat true) has).has
def seekF (fits : List (List Int)) (room : List Int) : Nat → Int → List Bool → List Int → SR
  | 0, _, seen, has => ⟨false, seen, has⟩
  | m + 1, f, seen, has => seekS (seekF fits room m) room f (fits.getD f.toNat []) seen has
/-- How many slots have not been seen. -/
def cnt (seen : List Bool) : Nat := seen.count false
/-- Nothing has been lost of the lists' lengths; what was seen stays seen. -/
def SRok (seen : List Bool) (has : List Int) (r : SR) : Prop := r.seen.length = seen.length ∧ r.has.length = has.length ∧ cnt r.seen ≤ cnt seen
theorem cnt_set {seen : List Bool} {i : Nat} (hi : i < seen.length) (h : seen.getD i false = false) : cnt (seen.set i true) + 1 = cnt seen := by
  have h' : seen[i] = false := by simpa [List.getD_eq_getElem?_getD, List.getElem?_eq_getElem hi] using h
  have hp : 0 < seen.count false := List.count_pos_iff.2 (h' ▸ List.getElem_mem hi)
  unfold cnt
  rw [List.count_set hi, h']
  simp
  omega
theorem cnt_set_le {seen : List Bool} {i : Nat} : cnt (seen.set i true) ≤ cnt seen := by
  by_cases hi : i < seen.length
  · by_cases h : seen.getD i false = false
    · have := cnt_set hi h; omega
    · have h' : seen[i] = true := by
        have : ¬ seen[i] = false := by simpa [List.getD_eq_getElem?_getD, List.getElem?_eq_getElem hi] using h
        simpa using this
      have : seen.set i true = seen := by
        apply List.ext_getElem (by simp)
        intro j h1 h2
        rw [List.getElem_set]
        split
        · rename_i e; subst e; exact h'.symm
        · rfl
      rw [this]; omega
  · rw [List.set_eq_of_length_le (by omega)]; omega
theorem seekG_ok {rec : Int → List Bool → List Int → SR} (hr : ∀ g seen has, SRok seen has (rec g seen has)) (f : Int) : ∀ gs seen has, SRok seen has (seekG rec f gs seen has)
  | [], seen, has => ⟨rfl, rfl, Nat.le_refl _⟩
  | g :: gs, seen, has => by
    unfold seekG
    have h0 := hr g seen has
    have ih := seekG_ok hr f gs
    split
    · exact ih _ _
    · split
      · exact h0
      · have h1 := ih (rec g seen has).seen (rec g seen has).has
        exact ⟨h1.1.trans h0.1, h1.2.1.trans h0.2.1, Nat.le_trans h1.2.2 h0.2.2⟩
theorem seekS_ok {rec : Int → List Bool → List Int → SR} (hr : ∀ g seen has, SRok seen has (rec g seen has)) (room : List Int) (f : Int) : ∀ ss seen has, SRok seen has (seekS rec room f ss seen has)
  | [], seen, has => ⟨rfl, rfl, Nat.le_refl _⟩
  | s :: ss, seen, has => by
    unfold seekS
    have ih := seekS_ok hr room f ss
    have h0 := seekG_ok hr f (atOf has s) (seen.set s.toNat true) has
    have hc := cnt_set_le (seen := seen) (i := s.toNat)
    have hl : (seen.set s.toNat true).length = seen.length := by simp
    split
    · exact ih _ _
    · split
      · exact ⟨by simp, by simp, hc⟩
      · split
        · exact ⟨h0.1.trans hl, by simpa using h0.2.1, Nat.le_trans h0.2.2 hc⟩
        · have h1 := ih (seekG rec f (atOf has s) (seen.set s.toNat true) has).seen (seekG rec f (atOf has s) (seen.set s.toNat true) has).has
          exact ⟨h1.1.trans (h0.1.trans hl), h1.2.1.trans h0.2.1, Nat.le_trans h1.2.2 (Nat.le_trans h0.2.2 hc)⟩
theorem seekF_ok (fits : List (List Int)) (room : List Int) : ∀ m f seen has, SRok seen has (seekF fits room m f seen has)
  | 0, _, _, _ => ⟨rfl, rfl, Nat.le_refl _⟩
  | m + 1, f, seen, has => by
    unfold seekF
    exact seekS_ok (fun g s h => seekF_ok fits room m g s h) room f _ _ _
/-- The finds that stand in each other's way, as they are gathered. -/
def hallTo (find : Int) (seen : List Bool) (has : List Int) (k : Nat) : List Int := find :: ((List.range k).filter (fun s : Nat => seen.getD s false)).flatMap (fun s : Nat => atOf has (s : Int))
theorem hallTo_yes {find : Int} {seen : List Bool} {has : List Int} {k : Nat} (h : seen.getD k false = true) : hallTo find seen has (k + 1) = hallTo find seen has k ++ atOf has (k : Int) := by
  simp only [hallTo, List.range_succ, List.filter_append, List.flatMap_append, List.cons_append]
  rw [List.filter_cons_of_pos (by simpa using h)]
  simp
theorem hallTo_no {find : Int} {seen : List Bool} {has : List Int} {k : Nat} (h : seen.getD k false = false) : hallTo find seen has (k + 1) = hallTo find seen has k := by
  simp only [hallTo, List.range_succ, List.filter_append]
  rw [List.filter_cons_of_neg (by simp only [h]; simp)]
  simp
def giveR (fits : List (List Int)) (room : List Int) (ns : Nat) (find : Int) (has : List Int) : SR := seekF fits room (ns + 1) find (List.replicate ns false) has
def giveH (fits : List (List Int)) (room : List Int) (ns : Nat) (find : Int) (has : List Int) : List Int :=
  if (giveR fits room ns find has).ok then [] else
    Lib.compact ((hallTo find (giveR fits room ns find has).seen (giveR fits room ns find has).has ns).mergeSort fun x y => decide (x ≤ y))
/-- What filling comes to: all have a slot, or a Hall set; the finds' slots. -/
structure FR where
  ok : Bool
  hall : List Int
  has : List Int
def fillL (fits : List (List Int)) (room : List Int) (ns : Nat) (out : Int) : List Nat → List Int → FR
  | [], has => ⟨true, [], has⟩
  | f :: fs, has =>
    if (fits.getD f []).length = 0 ∨ (f : Int) = out ∨ 0 ≤ has.getD f 0 then fillL fits room ns out fs has
    else if (giveR fits room ns f has).ok then fillL fits room ns out fs (giveR fits room ns f has).has
    else ⟨false, giveH fits room ns f has, (giveR fits room ns f has).has⟩
def fillF (fits : List (List Int)) (room : List Int) (ns : Nat) (out : Int) (has : List Int) : FR := fillL fits room ns out (List.range fits.length) has
theorem giveR_len (fits : List (List Int)) (room : List Int) (ns : Nat) (f : Int) (has : List Int) : (giveR fits room ns f has).has.length = has.length := (seekF_ok fits room (ns + 1) f _ has).2.1
theorem fillL_len (fits : List (List Int)) (room : List Int) (ns : Nat) (out : Int) : ∀ fs has, (fillL fits room ns out fs has).has.length = has.length
  | [], _ => rfl
  | f :: fs, has => by
    unfold fillL
    split
    · exact fillL_len fits room ns out fs has
    · split
      · exact (fillL_len fits room ns out fs _).trans (giveR_len ..)
      · exact giveR_len ..
end Go.Proofs.Ytkmmihadcbfkoaa
end
