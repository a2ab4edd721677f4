/-
  MatchMay holds: for every board, find, slot and list, the law returns true and what it is given reads as it did. (part 6 of 6 of the texts that it stands on)
-/
import Derived.Lib.SmallJoins
import Derived.Deep.Matrix
import Derived.Deep.Slices
import Derived.Deep.Strs
import Derived.ChangeSlices
import Derived.ProofKit
import Derived.OpenShut
import Derived.ChangeOld
import Derived.Below
import Derived.WalkKit
import Derived.Test.YtkmmihadcbfkoaaRows
import Derived.Test.YtkmmihadcbfkoaaZMaye
section
namespace Go.Proofs.Ytkmmihadcbfkoaa
open Go.RowKit Go.Proofs.YtkmmihadcbfkoaaW.PrintWords PM
set_option linter.unusedVariables false
set_option linter.unusedSimpArgs false
theorem notin_calls (s : Int) (B : Nat) (A : Option Addr) (c : Nat) (l : List Int) (w : World) (hb : w.cell? ⟨B, 0, none⟩ = some (.slice A l.length c)) (hr : Kd.C (Kd.int .i64) w A l.length l) (hc : l.length ≤ c) :
  Calls Try.prog 70 #[.int .i64 s, .pointer (some ⟨B, 0, none⟩)] w fun e w' => e = .returned (.bool (!decide (s ∈ l))) ∧ Drawn0 w w' := by
 have RC := contains_calls A c l s w hr hc
 have l9 := hr.2.1
 clear hr
 go_enter Try.func70, Try.ntmps70
 go_wp2_with fail
 refine RC.mono ?_
 clear RC
 rintro e w' ⟨rfl, hd⟩
 go_wp2_with fail
 go_ret
 exact ⟨rfl, hd⟩
def IdxPost2 (p : Int → Bool) (l : List Int) (w : World) (e : Ending) (w' : World) : Prop := ∃ r : Int, e = .returned (.int .i64 r) ∧ decide (r ≥ 0) = !(l.all p) ∧ Drawn0 w w'
set_option maxRecDepth 100000 in
set_option maxHeartbeats 2000000 in
theorem idxfunc2_calls (A2 : Option Addr) (c2 : Nat) (l : List Int) (B : Nat) (A : Option Addr) (c : Nat) (sl : List Int) (w : World) (hb : w.cell? ⟨B, 0, none⟩ = some (.slice A sl.length c)) (hs : Kd.C (Kd.int .i64) w A sl.length sl) (hc : sl.length ≤ c) (hr : Kd.C (Kd.int .i64) w A2 l.length l) (hl : l.length ≤ 1000000) :
  Calls Try.prog 91 #[.slice A2 l.length c2, .func (.func 70) #[] #[.pointer (some ⟨B, 0, none⟩)]] w (IdxPost2 (fun s => decide (s ∈ sl)) l w) := by
 have HR := Go.Lib.hid (And.intro hr (And.intro hs hc))
 have HB := Go.Lib.hid hb
 clear hr hb hs hc
 go_enter Try.func91, Try.ntmps91
 go_wp2_with fail
 go_loopw [8] (fun i wr => ∃ k : Nat, k ≤ l.length ∧ i = .int .i64 k ∧ Hid ((l.take k).all (fun s => decide (s ∈ sl)) = true ∧ Drawn0 w wr)) (fun i _ => l.length - (intOf i).toNat)
 case atStart => exact ⟨0, Nat.zero_le _, rfl, rfl, Drawn0.refl _⟩
 obtain ⟨k, hk, rfl, HID⟩ := hrel
 obtain ⟨hall, hd⟩ := HID.out
 by_cases hlt : k < l.length
 rotate_left
 ·
  obtain rfl : k = l.length := by omega
  rw [List.take_length] at hall
  have HAL := Go.Lib.hid hall
  have HD := Go.Lib.hid hd
  clear hall hd HID
  go_wp2_with fail
  go_ret
  exact ⟨-1, rfl, by rw [HAL.out]; rfl, HD.out⟩
 have hbl := hd.below
 obtain ⟨a, e2, hx⟩ := Kd.at_int (Kd.C_below HR.out.1 hbl) (k : Int) (by omega) (by omega)
 rw [Int.toNat_natCast, show rd l (k : Int) = l.getD k 0 from by simp [rd]] at hx
 obtain ⟨x, hxe⟩ : ∃ x, l.getD k 0 = x := ⟨_, rfl⟩
 rw [hxe] at hx
 have NR := notin_calls x B A c sl wr ((hbl.cell (World.block_lt_of_cell? w _ HB.out)).trans HB.out) (Kd.C_below HR.out.2.1 hbl) HR.out.2.2
 have htk : l.take (k + 1) = l.take k ++ [x] := by
  rw [List.take_succ_eq_append_getElem hlt, ← hxe]
  simp [List.getD_eq_getElem?_getD, List.getElem?_eq_getElem hlt]
 have HTK := Go.Lib.hid htk
 have HXE := Go.Lib.hid hxe
 have HAL := Go.Lib.hid hall
 have HD := Go.Lib.hid hd
 have e2' := e2
 clear htk hxe hall hd hbl HID
 subst e2'
 go_wp2_with fail
 refine NR.mono ?_
 clear NR
 rintro e w1 ⟨rfl, hd1⟩
 have HD1 := Go.Lib.hid (Drawn0.trans' HD.out hd1)
 clear hd1
 cases hrs : decide (x ∈ sl) with
 | true =>
  have HRS := Go.Lib.hid hrs
  rw [Bool.not_true]
  clear hrs
  go_wp2_with fail
  go_roundw
  case rel => exact ⟨k + 1, by omega, by simp, by rw [HTK.out, List.all_append, HAL.out]; simp only [List.all_cons, List.all_nil, HRS.out]; rfl, HD1.out⟩
  case measure => simp [intOf]; omega
 | false =>
  have HRS := Go.Lib.hid hrs
  rw [Bool.not_false]
  clear hrs
  go_wp2_with fail
  go_ret
  refine ⟨(k : Int), rfl, ?_, HD1.out⟩
  have hf : l.all (fun s => decide (s ∈ sl)) = false := by
   rw [List.all_eq_false]
   refine ⟨x, ?_, by rw [HRS.out]; simp⟩
   rw [← HXE.out, List.getD_eq_getElem?_getD, List.getElem?_eq_getElem hlt]
   exact List.getElem_mem hlt
  rw [hf]
  simp
theorem contfunc2_calls (A2 : Option Addr) (c2 : Nat) (l : List Int) (B : Nat) (A : Option Addr) (c : Nat) (sl : List Int) (w : World) (hb : w.cell? ⟨B, 0, none⟩ = some (.slice A sl.length c)) (hs : Kd.C (Kd.int .i64) w A sl.length sl) (hc : sl.length ≤ c) (hr : Kd.C (Kd.int .i64) w A2 l.length l) (hl : l.length ≤ 1000000) :
  Calls Try.prog 69 #[.slice A2 l.length c2, .func (.func 70) #[] #[.pointer (some ⟨B, 0, none⟩)]] w fun e w' => e = .returned (.bool (!(l.all fun s => decide (s ∈ sl)))) ∧ Drawn0 w w' := by
 have IC := idxfunc2_calls A2 c2 l B A c sl w hb hs hc hr hl
 clear hr hs hb
 go_enter Try.func69, Try.ntmps69
 go_wp2_with fail
 refine IC.mono ?_
 clear IC
 rintro e w' ⟨r, rfl, hr, hd⟩
 go_wp2_with fail
 go_ret
 exact ⟨rfl, hd⟩
def withinP (F : List Int) (S : List S50) (T : List (List Int)) (find : Int) (sl : List Int) : Bool × Int :=
 if askB F S T find 0 false true ≠ 0 then (false, askB F S T find 0 false true)
 else if risB sl 0 ((S.length : Int) - 1) = false then (false, 1)
 else if isF F S T = false then (false, 40)
 else (decide (((chancesF T (rooms S) S.length (hasF F S T) find.toNat).length : Int) > 0) && (chancesF T (rooms S) S.length (hasF F S T) find.toNat).all fun s => decide (s ∈ sl), 0)
set_option maxRecDepth 100000 in
set_option maxHeartbeats 8000000 in
theorem within_calls (A0 : Option Addr) (c0 : Nat) (F : List Int) (A1 : Option Addr) (c1 : Nat) (S : List S50) (A2 : Option Addr) (c2 : Nat) (T : List (List Int)) (find : Int) (A3 : Option Addr) (c3 : Nat) (sl : List Int) (w : World)
  (hr0 : Kd.C (Kd.int .i64) w A0 F.length F) (hc0 : F.length ≤ c0) (hr1 : Kd.C k50 w A1 S.length S) (hc1 : S.length ≤ c1) (hr2 : Kd.C (Kd.slice 3 (Kd.int .i64)) w A2 T.length T) (hc2 : T.length ≤ c2) (hr3 : Kd.C (Kd.int .i64) w A3 sl.length sl) (hc3 : sl.length ≤ c3) :
  Calls Try.prog 32 #[.agg #[.slice A0 F.length c0, .slice A1 S.length c1, .slice A2 T.length c2], .int .i64 find, .slice A3 sl.length c3] w fun e w' => e = .returned (.tuple #[.bool (withinP F S T find sl).1, .int .i64 (withinP F S T find sl).2]) ∧ Below w.heap.size w w' := by
 have hB0 := (Below.refl w.heap.size w).alloc (Nat.le_refl _) (.cells #[.slice A0 F.length c0, .slice A1 S.length c1, .slice A2 T.length c2] 26)
 have CB := asked_boxed A0 c0 F A1 c1 S A2 c2 T find 0 false true _ (Kd.C_below hr0 hB0) hc0 (Kd.C_below hr1 hB0) (Kd.C_below hr2 hB0) (.cells #[.slice A3 sl.length c3] 22)
 rw [show (w.alloc (.cells #[.slice A0 F.length c0, .slice A1 S.length c1, .slice A2 T.length c2] 26)).heap.size = w.heap.size + 1 from by simp] at CB
 have l3 := hr3.2.1
 have lS := hr1.2.1
 obtain ⟨res, hres⟩ : ∃ res, withinP F S T find sl = res := ⟨_, rfl⟩
 rw [hres]
 unfold withinP at hres
 obtain ⟨q, hq⟩ : ∃ q, askB F S T find 0 false true = q := ⟨_, rfl⟩
 rw [hq] at hres CB
 have HB0 := Go.Lib.hid hB0
 have HR := Go.Lib.hid (And.intro hr1 (And.intro hr2 (And.intro hr3 hc3)))
 have HQ := Go.Lib.hid hq
 have HH := Go.Lib.hid hres
 clear hr0 hr1 hr2 hr3 hB0 hq hres
 go_enter Try.func32, Try.ntmps32
 go_wp2_with fail
 refine CB.mono ?_
 clear CB
 rintro e w1 ⟨⟨rfl, hB1⟩, bS⟩
 have hW1 : Below w.heap.size w w1 := HB0.out.trans (hB1.mono HB0.out.size)
 have b1 : w1.heap[w.heap.size]? = some (.cells #[.slice A0 F.length c0, .slice A1 S.length c1, .slice A2 T.length c2] 26 (0, 0)) := by
  rw [hB1.block w.heap.size (by simp)]
  exact World.alloc_heap_new w _
 have k0 := cell_of_heap b1 (j := 0) rfl
 have k1 := cell_of_heap b1 (j := 1) rfl
 have k2 := cell_of_heap b1 (j := 2) rfl
 have k3 := cell_of_heap bS (j := 0) rfl
 have HW1 := Go.Lib.hid hW1
 have BX1 := Go.Lib.hid (And.intro b1 bS)
 clear hB1 b1 bS hW1
 by_cases hq0 : q = 0
 rotate_left
 ·
  have g9 : decide (q = 0) = false := by simpa using hq0
  have hf := HH.out
  rw [if_pos hq0] at hf
  subst hf
  go_wp2_with fail
  go_ret2
  exact ⟨rfl, HW1.out⟩
 subst hq0
 obtain ⟨hcb, hfd, _⟩ := ask_parts HQ.out
 have hfd := hfd rfl
 have hk := bok_of_check hcb
 have hnt := hk.nt
 have hf := HH.out
 rw [if_neg (by simp)] at hf
 have RC := rising_calls A3 c3 sl 0 ((S.length : Int) - 1) w1 (Kd.C_below HR.out.2.2.1 HW1.out) HR.out.2.2.2 l3
 have hsl : S.length ≤ 200 := hk.ns
 have HF := Go.Lib.hid hf
 have HK := Go.Lib.hid (And.intro hcb (And.intro hk (And.intro hfd hnt)))
 clear HH HQ hcb hk hf hfd hnt
 obtain ⟨ri, hri⟩ : ∃ ri, risB sl 0 ((S.length : Int) - 1) = ri := ⟨_, rfl⟩
 have hf := HF.out
 rw [hri] at RC hf
 have HF2 := Go.Lib.hid hf
 clear HF hri hf
 go_wp2_with fail
 refine RC.mono ?_
 clear RC
 rintro e w2 ⟨rfl, hd2⟩
 have hb2 := hd2.below
 have b2 := (hb2.block w.heap.size (Array.getElem?_eq_some_iff.1 BX1.out.1).1).trans BX1.out.1
 have bS2 := (hb2.block (w.heap.size + 1) (Array.getElem?_eq_some_iff.1 BX1.out.2).1).trans BX1.out.2
 have HW2 := Go.Lib.hid (HW1.out.trans (hb2.mono HW1.out.size))
 clear k0 k1 k2 k3 hd2 hb2 HW1 BX1
 have k0 := cell_of_heap b2 (j := 0) rfl
 have k1 := cell_of_heap b2 (j := 1) rfl
 have k2 := cell_of_heap b2 (j := 2) rfl
 have k3 := cell_of_heap bS2 (j := 0) rfl
 have BX2 := Go.Lib.hid (And.intro b2 bS2)
 clear b2 bS2
 cases ri with
 | false =>
  have hf := HF2.out
  rw [if_pos rfl] at hf
  subst hf
  clear HF2
  go_wp2_with fail
  go_ret2
  exact ⟨rfl, HW2.out⟩
 | true =>
  have hf := HF2.out
  rw [if_neg (by simp)] at hf
  clear HF2
  cases hok : isF F S T with
  | false =>
   have MC := matched_no A0 c0 F A1 c1 S A2 c2 T w2 HK.out.2.1 (Kd.C_below HR.out.1 HW2.out) (Kd.C_below HR.out.2.1 HW2.out) hok
   rw [if_pos hok] at hf
   subst hf
   clear hok
   go_wp2_with fail
   refine MC.mono ?_
   clear MC
   rintro e w3 ⟨rfl, hB3⟩
   have HB3 := Go.Lib.hid (HW2.out.trans (hB3.mono HW2.out.size))
   clear hB3
   go_wp2_with fail
   go_ret2
   exact ⟨rfl, HB3.out⟩
  | true =>
   have MC := matched_yes A0 c0 F A1 c1 S A2 c2 T w2 HK.out.2.1 (Kd.C_below HR.out.1 HW2.out) (Kd.C_below HR.out.2.1 HW2.out) hok
   rw [if_neg (by rw [hok]; simp)] at hf
   have HF := Go.Lib.hid hf
   clear hok hf
   go_wp2_with fail
   refine MC.mono ?_
   clear MC
   rintro e w3 ⟨t, rfl, en1, enh, es0, hT, hB3⟩
   have bS3 := (hB3.block (w.heap.size + 1) (Array.getElem?_eq_some_iff.1 BX2.out.2).1).trans BX2.out.2
   have hG := good_of_in HK.out.1 hT en1 es0
   have CH := chances_calls t T (rooms S) (hasF F S T) find.toNat w3 (by have := HK.out.2.2.1; omega) hG
   rw [en1, Int.toNat_of_nonneg HK.out.2.2.1.1] at CH
   have hcl : (chancesF T (rooms S) S.length (hasF F S T) find.toNat).length ≤ 1000 := by
    have h1 := HK.out.2.1.row find.toNat (by have := HK.out.2.2.1; have := HK.out.2.2.2; omega)
    unfold chancesF
    exact Nat.le_trans (List.length_filter_le _ _) h1
   have hf := HF.out
   obtain ⟨cl, ecl⟩ : ∃ cl, chancesF T (rooms S) S.length (hasF F S T) find.toNat = cl := ⟨_, rfl⟩
   rw [ecl] at CH hcl hf
   have HF3 := Go.Lib.hid hf
   have HW3 := Go.Lib.hid (HW2.out.trans (hB3.mono HW2.out.size))
   have BX3 := Go.Lib.hid bS3
   clear k0 k1 k2 k3 BX2 HW2 hB3 bS3 hG hT en1 enh es0 HF hf ecl
   go_wp2_with fail
   refine CH.mono ?_
   clear CH
   rintro e w4 ⟨v, rfl, hRv, hB4⟩
   obtain ⟨Av, cv, rfl, hlv, hCv⟩ := Kd.R_reads hRv
   have bS4 := (hB4.block (w.heap.size + 1) (Array.getElem?_eq_some_iff.1 BX3.out).1).trans BX3.out
   have hW4 := HW3.out.trans (hB4.mono HW3.out.size)
   have k3 := cell_of_heap bS4 (j := 0) rfl
   have IC := contfunc2_calls Av cv cl (w.heap.size + 1) A3 c3 sl w4 k3 (Kd.C_below HR.out.2.2.1 hW4) HR.out.2.2.2 hCv (by omega)
   have HW4 := Go.Lib.hid hW4
   have hf := HF3.out
   clear hRv hlv hCv hB4 bS4 hW4 HW3 HF3 BX3 k3
   by_cases hp : (cl.length : Int) > 0
   rotate_left
   ·
    have g1 : decide ((cl.length : Int) > 0) = false := decide_eq_false hp
    have g2 : ¬ 0 < cl.length := by omega
    have g3 : cl = [] := List.length_eq_zero_iff.1 (by omega)
    subst g3
    rw [g1, Bool.false_and] at hf
    subst hf
    clear hp g2 IC
    go_wp2_with fail
    go_ret2
    exact ⟨rfl, HW4.out⟩
   have g1 : decide ((cl.length : Int) > 0) = true := decide_eq_true hp
   have g2 : 0 < cl.length := by omega
   have g3 : (cl = []) = False := eq_false (fun e => by rw [e] at g2; exact absurd g2 (by simp))
   rw [g1, Bool.true_and] at hf
   have HF := Go.Lib.hid hf
   clear hf hp
   go_wp2_with fail
   refine IC.mono ?_
   clear IC
   rintro e w5 ⟨rfl, hd5⟩
   have HB5 := Go.Lib.hid (HW4.out.trans (hd5.below.mono HW4.out.size))
   clear hd5
   go_wp2_with fail
   go_ret2
   refine ⟨?_, HB5.out⟩
   rw [← HF.out]
   simp
end Go.Proofs.Ytkmmihadcbfkoaa
end

section
namespace Go.Proofs.Ytkmmihadcbfkoaa
open Go.RowKit Go.Proofs.YtkmmihadcbfkoaaW.PrintWords PM
set_option linter.unusedVariables false
set_option linter.unusedSimpArgs false
structure LAt (w0 : World) (A0 : Option Addr) (c0 : Nat) (F : List Int) (A1 : Option Addr) (c1 : Nat) (S : List S50) (A2 : Option Addr) (c2 : Nat) (T : List (List Int)) (w : World) : Prop where
 box : w.heap[w0.heap.size]? = some (.cells #[.slice A0 F.length c0, .slice A1 S.length c1, .slice A2 T.length c2] 26 (0, 0))
 B : Below w0.heap.size w0 w
 C0 : Kd.C (Kd.int .i64) w A0 F.length F
 l0 : F.length ≤ c0
 C1 : Kd.C k50 w A1 S.length S
 l1 : S.length ≤ c1
 C2 : Kd.C (Kd.slice 3 (Kd.int .i64)) w A2 T.length T
 l2 : T.length ≤ c2
section
variable {w0 w w' : World} {A0 : Option Addr} {c0 : Nat} {F : List Int} {A1 : Option Addr} {c1 : Nat} {S : List S50} {A2 : Option Addr} {c2 : Nat} {T : List (List Int)}
theorem LAt.start (C0 : Kd.C (Kd.int .i64) w0 A0 F.length F) (l0 : F.length ≤ c0) (C1 : Kd.C k50 w0 A1 S.length S) (l1 : S.length ≤ c1) (C2 : Kd.C (Kd.slice 3 (Kd.int .i64)) w0 A2 T.length T) (l2 : T.length ≤ c2) :
  LAt w0 A0 c0 F A1 c1 S A2 c2 T (w0.alloc (.cells #[.slice A0 F.length c0, .slice A1 S.length c1, .slice A2 T.length c2] 26)) := by
 have hB := (Below.refl w0.heap.size w0).alloc (Nat.le_refl _) (.cells #[.slice A0 F.length c0, .slice A1 S.length c1, .slice A2 T.length c2] 26)
 exact ⟨World.alloc_heap_new w0 _, hB, Kd.C_below C0 hB, l0, Kd.C_below C1 hB, l1, Kd.C_below C2 hB, l2⟩
theorem LAt.later (h : LAt w0 A0 c0 F A1 c1 S A2 c2 T w) (hb : Below w.heap.size w w') : LAt w0 A0 c0 F A1 c1 S A2 c2 T w' :=
 ⟨(hb.block w0.heap.size (Array.getElem?_eq_some_iff.1 h.box).1).trans h.box, h.B.trans (hb.mono h.B.size), Kd.C_below h.C0 hb, h.l0, Kd.C_below h.C1 hb, h.l1, Kd.C_below h.C2 hb, h.l2⟩
theorem LAt.k0 (h : LAt w0 A0 c0 F A1 c1 S A2 c2 T w) : w.cell? ⟨w0.heap.size, 0, none⟩ = some (.slice A0 F.length c0) := cell_of_heap h.box (j := 0) rfl
theorem LAt.k1 (h : LAt w0 A0 c0 F A1 c1 S A2 c2 T w) : w.cell? ⟨w0.heap.size, 1, none⟩ = some (.slice A1 S.length c1) := cell_of_heap h.box (j := 1) rfl
theorem LAt.k2 (h : LAt w0 A0 c0 F A1 c1 S A2 c2 T w) : w.cell? ⟨w0.heap.size, 2, none⟩ = some (.slice A2 T.length c2) := cell_of_heap h.box (j := 2) rfl
theorem LAt.rows (h : LAt w0 A0 c0 F A1 c1 S A2 c2 T w) : ∀ l, l ∈ T → l.length ≤ 9223372036854775807 := by
 intro l hl
 obtain ⟨j, hj, he⟩ := List.getElem_of_mem hl
 obtain ⟨ad, _, hc⟩ := h.C2.2.2 (by omega)
 obtain ⟨c, _, ⟨A', c', _, _, hC⟩, _⟩ := hc j l (by rw [List.getElem?_eq_getElem hj, he])
 exact hC.2.1
end
end Go.Proofs.Ytkmmihadcbfkoaa
end

section
namespace Go.Proofs.Ytkmmihadcbfkoaa
open Go.RowKit Go.Proofs.YtkmmihadcbfkoaaW.PrintWords PM
set_option linter.unusedVariables false
set_option linter.unusedSimpArgs false
section
variable {F : List Int} {S : List S50} {T : List (List Int)}
theorem chances_row (F : List Int) (S : List S50) (T : List (List Int)) {i : Nat} (hi : i < F.length) : (allChances F S T).getD i [] = chancesF T (rooms S) S.length (hasF F S T) i := by
 unfold allChances
 rw [List.getD_eq_getElem?_getD, List.getElem?_map, List.getElem?_range hi]
 rfl
theorem every_ask (hc : checkB F S T = 0) {fn : Nat} (hf : fn < F.length) : askB F S T (fn : Int) 0 false true = 0 := by
 unfold askB
 rw [if_neg (fun k => k hc)]
 have h1 : inB (fn : Int) 0 ((F.length : Int) - 1) = true := by unfold inB; rw [Bool.and_eq_true, decide_eq_true_eq, decide_eq_true_eq]; omega
 rw [h1]
 rfl
theorem every_within (hc : checkB F S T = 0) (his : isF F S T = true) {fn : Nat} (hf : fn < F.length) (sl : List Int) :
  withinP F S T (fn : Int) sl = if risB sl 0 ((S.length : Int) - 1) = false then (false, 1) else (decide ((((allChances F S T).getD fn []).length : Int) > 0) && ((allChances F S T).getD fn []).all fun s => decide (s ∈ sl), 0) := by
 unfold withinP
 rw [if_neg (fun k => k (every_ask hc hf)), if_neg (show ¬ isF F S T = false by rw [his]; simp), Int.toNat_natCast, chances_row F S T hf]
end
theorem all_take_step (row sl : List Int) (i : Nat) (h : i < row.length) : (row.take (i + 1)).all (fun s => decide (s ∈ sl)) = ((row.take i).all (fun s => decide (s ∈ sl)) && decide (row.getD i 0 ∈ sl)) := by
 rw [List.take_add_one, List.all_append, List.getElem?_eq_getElem h, List.getD_eq_getElem?_getD, List.getElem?_eq_getElem h]
 simp
end Go.Proofs.Ytkmmihadcbfkoaa
end

section
namespace Go.Proofs.Ytkmmihadcbfkoaa
open Go.RowKit Go.Proofs.YtkmmihadcbfkoaaW.PrintWords PM
set_option linter.unusedVariables false
set_option linter.unusedSimpArgs false
section
variable {F : List Int} {S : List S50} {T : List (List Int)}
theorem may_bad (hq : checkB F S T ≠ 0) (find slot : Int) (sl : List Int) : match_May.f F S T find slot = some (false, checkB F S T) ∧ match_Through.f F S T find slot = some ([], false, checkB F S T) ∧ match_Refuse.f F S T find slot = some ([], false, checkB F S T) ∧ withinP F S T find sl = (false, checkB F S T) := by
 have h1 : match_Through.f F S T find slot = some ([], false, checkB F S T) := by
  unfold match_Through.f
  rw [ask_bad hq, if_pos hq]
 refine ⟨?_, h1, ?_, ?_⟩
 ·
  unfold match_May.f
  rw [h1]
  rfl
 ·
  unfold match_Refuse.f
  rw [ask_bad hq, if_pos hq]
 unfold withinP
 rw [ask_bad hq, if_pos hq]
theorem ask_two (hc : checkB F S T = 0) (find slot : Int) : (askB F S T find slot false false = 0 ↔ 0 ≤ find ∧ find < F.length ∧ 0 ≤ slot ∧ slot < S.length) ∧ (askB F S T find slot false false = 0 ∨ askB F S T find slot false false = 1) := by
 unfold askB
 rw [if_neg (fun k => k hc)]
 have hi : ∀ x : Int, ∀ n : Nat, inB x 0 ((n : Int) - 1) = (decide (0 ≤ x) && decide (x < n)) := fun x n => by
  unfold inB
  congr 1
  exact decide_eq_decide.2 ⟨fun h => by omega, fun h => by omega⟩
 rw [hi, hi]
 by_cases a1 : 0 ≤ find <;> by_cases a2 : find < (F.length : Int) <;> by_cases a3 : 0 ≤ slot <;> by_cases a4 : slot < (S.length : Int) <;> simp [a1, a2, a3, a4]
theorem ask_one (hc : checkB F S T = 0) (find : Int) : (askB F S T find 0 false true = 0 ↔ 0 ≤ find ∧ find < F.length) ∧ (askB F S T find 0 false true = 0 ∨ askB F S T find 0 false true = 1) := by
 unfold askB
 rw [if_neg (fun k => k hc)]
 have hi : ∀ x : Int, ∀ n : Nat, inB x 0 ((n : Int) - 1) = (decide (0 ≤ x) && decide (x < n)) := fun x n => by
  unfold inB
  congr 1
  exact decide_eq_decide.2 ⟨fun h => by omega, fun h => by omega⟩
 rw [hi]
 by_cases a1 : 0 ≤ find <;> by_cases a2 : find < (F.length : Int) <;> simp [a1, a2]
structure MayAt (F : List Int) (S : List S50) (T : List (List Int)) (find slot : Int) (his : Bool) (may no : Bool) (t r : List Int) (ea : Int) : Prop where
 may_ : match_May.f F S T find slot = some (may, ea)
 through : match_Through.f F S T find slot = some (t, may, ea)
 refuse : match_Refuse.f F S T find slot = some (r, no, ea)
 out : ¬ (0 ≤ find ∧ find < F.length ∧ 0 ≤ slot ∧ slot < S.length) → ea = 1 ∧ may = false ∧ no = false ∧ t = [] ∧ r = []
 none : 0 ≤ find ∧ find < F.length ∧ 0 ≤ slot ∧ slot < S.length → his = false → ea = 40 ∧ may = false ∧ no = false ∧ t = [] ∧ r = []
 some : 0 ≤ find ∧ find < F.length ∧ 0 ≤ slot ∧ slot < S.length → his = true → ea = 0 ∧ no = (!may) ∧ Shown F S T find.toNat slot t r may
theorem may_is (hc : checkB F S T = 0) (find slot : Int) : ∃ may no t r ea, MayAt F S T find slot (isF F S T) may no t r ea := by
 obtain ⟨h1, h2⟩ := ask_two hc find slot
 by_cases hq : askB F S T find slot false false = 0
 rotate_left
 ·
  have hq1 : askB F S T find slot false false = 1 := h2.resolve_left hq
  have hT : match_Through.f F S T find slot = some ([], false, 1) := by
   unfold match_Through.f
   rw [if_pos hq, hq1]
  refine ⟨false, false, [], [], 1, ?_, hT, ?_, fun _ => ⟨rfl, rfl, rfl, rfl, rfl⟩, fun h => absurd (h1.2 h) hq, fun h => absurd (h1.2 h) hq⟩
  ·
   unfold match_May.f
   rw [hT]
   rfl
  unfold match_Refuse.f
  rw [if_pos hq, hq1]
 have hin := h1.1 hq
 cases his : isF F S T with
 | false =>
  have hT : match_Through.f F S T find slot = some ([], false, 40) := by
   unfold match_Through.f
   rw [if_neg (fun h => h hq), if_pos his]
  refine ⟨false, false, [], [], 40, ?_, hT, ?_, fun h => absurd hin h, fun _ _ => ⟨rfl, rfl, rfl, rfl, rfl⟩, fun _ h => (by cases h)⟩
  ·
   unfold match_May.f
   rw [hT]
   rfl
  unfold match_Refuse.f
  rw [if_neg (fun h => h hq), if_pos his]
 | true =>
  obtain ⟨fn, rfl⟩ : ∃ fn : Nat, find = (fn : Int) := ⟨find.toNat, by omega⟩
  obtain ⟨t, r, may, h⟩ := shown_is hq his
  exact ⟨may, !may, t, r, 0, shown_may h, h.through, h.refuse, fun k => absurd hin k, fun _ k => (by cases k), fun _ _ => ⟨rfl, rfl, h⟩⟩
theorem may_mem (hc : checkB F S T = 0) (his : isF F S T = true) {fn : Nat} (hf : fn < F.length) {slot : Int} (h0 : 0 ≤ slot) {t r : List Int} {may : Bool} (h : Shown F S T fn slot t r may) : decide (slot ∈ (allChances F S T).getD fn []) = may := by
 have hnt := (bok_of_check hc).nt
 have hm := mem_chances (F := F) hc his (f := fn) (by omega) (x := slot)
 rw [chances_row F S T hf]
 cases may with
 | true => exact decide_eq_true (hm.2 ⟨h0, h.can.1 rfl⟩)
 | false =>
  refine decide_eq_false fun k => ?_
  have := h.can.2 (hm.1 k).2
  cases this
theorem within_is (hc : checkB F S T = 0) (find : Int) (sl : List Int) : ∃ inn ew, withinP F S T find sl = (inn, ew) ∧ (¬ (0 ≤ find ∧ find < F.length) ∨ risB sl 0 ((S.length : Int) - 1) = false → ew = 1 ∧ inn = false) ∧
  (0 ≤ find ∧ find < F.length → risB sl 0 ((S.length : Int) - 1) = true → isF F S T = false → ew = 40 ∧ inn = false) ∧
  (0 ≤ find ∧ find < F.length → risB sl 0 ((S.length : Int) - 1) = true → isF F S T = true → ew = 0 ∧ inn = (decide ((((allChances F S T).getD find.toNat []).length : Int) > 0) && ((allChances F S T).getD find.toNat []).all fun s => decide (s ∈ sl))) := by
 obtain ⟨h1, h2⟩ := ask_one hc find
 by_cases hq : askB F S T find 0 false true = 0
 rotate_left
 ·
  have hq1 : askB F S T find 0 false true = 1 := h2.resolve_left hq
  refine ⟨false, 1, ?_, fun _ => ⟨rfl, rfl⟩, fun h => absurd (h1.2 h) hq, fun h => absurd (h1.2 h) hq⟩
  unfold withinP
  rw [if_pos hq, hq1]
 have hin := h1.1 hq
 obtain ⟨fn, rfl⟩ : ∃ fn : Nat, find = (fn : Int) := ⟨find.toNat, by omega⟩
 have hf : fn < F.length := by omega
 cases hr : risB sl 0 ((S.length : Int) - 1) with
 | false =>
  refine ⟨false, 1, ?_, fun _ => ⟨rfl, rfl⟩, fun _ h => (by cases h), fun _ h => (by cases h)⟩
  unfold withinP
  rw [if_neg (fun k => k hq), if_pos hr]
 | true =>
  cases his : isF F S T with
  | false =>
   refine ⟨false, 40, ?_, fun h => ?_, fun _ _ _ => ⟨rfl, rfl⟩, fun _ _ h => (by cases h)⟩
   ·
    unfold withinP
    rw [if_neg (fun k => k hq), if_neg (by rw [hr]; simp), if_pos his]
   rcases h with h | h
   ·
    exact absurd hin h
   cases h
  | true =>
   have := every_within hc his hf sl
   rw [if_neg (by rw [hr]; simp)] at this
   refine ⟨_, _, this, fun h => ?_, fun _ _ h => (by cases h), fun _ _ _ => ⟨rfl, by rw [Int.toNat_natCast]⟩⟩
   rcases h with h | h
   ·
    exact absurd hin h
   cases h
end
def risTo (sl : List Int) (b : Int) (k : Nat) : Bool := (List.range k).all (risAt sl 0 b)
theorem risTo_step (sl : List Int) (b : Int) (k : Nat) : risTo sl b (k + 1) = (risTo sl b k && risAt sl 0 b k) := by
 unfold risTo
 rw [List.range_succ, List.all_append]
 simp
structure MyI (w0 : World) (A0 : Option Addr) (c0 : Nat) (F : List Int) (A1 : Option Addr) (c1 : Nat) (S : List S50) (A2 : Option Addr) (c2 : Nat) (T : List (List Int)) (A5 : Option Addr) (c5 : Nat) (sl : List Int) (At : Option Addr) (ct : Nat) (t : List Int) (Ar : Option Addr) (cr : Nat) (r : List Int) (Al : Option Addr) (cl : Nat) (al : List (List Int)) (w : World) : Prop where
 a : LAt w0 A0 c0 F A1 c1 S A2 c2 T w
 hs : Kd.C (Kd.int .i64) w A5 sl.length sl
 ls : sl.length ≤ c5
 ht : Kd.C (Kd.int .i64) w At t.length t
 lt : t.length ≤ ct
 hr : Kd.C (Kd.int .i64) w Ar r.length r
 lr : r.length ≤ cr
 hl : Kd.C (Kd.slice 3 (Kd.int .i64)) w Al al.length al
 ll : al.length ≤ cl
theorem MyI.later {w0 : World} {A0 : Option Addr} {c0 : Nat} {F : List Int} {A1 : Option Addr} {c1 : Nat} {S : List S50} {A2 : Option Addr} {c2 : Nat} {T : List (List Int)} {A5 : Option Addr} {c5 : Nat} {sl : List Int} {At : Option Addr} {ct : Nat} {t : List Int} {Ar : Option Addr} {cr : Nat} {r : List Int} {Al : Option Addr} {cl : Nat} {al : List (List Int)} {w w' : World}
  (h : MyI w0 A0 c0 F A1 c1 S A2 c2 T A5 c5 sl At ct t Ar cr r Al cl al w) (hb : Below w.heap.size w w') : MyI w0 A0 c0 F A1 c1 S A2 c2 T A5 c5 sl At ct t Ar cr r Al cl al w' :=
 ⟨h.a.later hb, Kd.C_below h.hs hb, h.ls, Kd.C_below h.ht hb, h.lt, Kd.C_below h.hr hb, h.lr, Kd.C_below h.hl hb, h.ll⟩
end Go.Proofs.Ytkmmihadcbfkoaa
end

section
namespace Go.Proofs.Ytkmmihadcbfkoaa
open Go.RowKit Go.Proofs.YtkmmihadcbfkoaaW.PrintWords PM
set_option linter.unusedVariables false
set_option linter.unusedSimpArgs false
set_option maxRecDepth 100000 in
set_option maxHeartbeats 8000000 in
theorem may_walk1 (A0 : Option Addr) (c0 : Nat) (F : List Int) (A1 : Option Addr) (c1 : Nat) (S : List S50) (A2 : Option Addr) (c2 : Nat) (T : List (List Int)) (find : Int) (slot : Int) (A5 : Option Addr) (c5 : Nat) (sl : List Int) (w : World)
  (hr0 : Kd.C (Kd.int .i64) w A0 F.length F) (hc0 : F.length ≤ c0) (hr1 : Kd.C k50 w A1 S.length S) (hc1 : S.length ≤ c1) (hr2 : Kd.C (Kd.slice 3 (Kd.int .i64)) w A2 T.length T) (hc2 : T.length ≤ c2) (hr5 : Kd.C (Kd.int .i64) w A5 sl.length sl) (hc5 : sl.length ≤ c5) (hP : checkB F S T = 0 → isF F S T = false) :
  Calls Try.prog 5 #[.agg #[.slice A0 F.length c0, .slice A1 S.length c1, .slice A2 T.length c2], .int .i64 find, .int .i64 slot, .slice A5 sl.length c5] w fun e w' => e = .returned (.bool true) ∧ Below w.heap.size w w' := by
 have HA := Go.Lib.hid (LAt.start hr0 hc0 hr1 hc1 hr2 hc2)
 have hB0 := (Below.refl w.heap.size w).alloc (Nat.le_refl _) (.cells #[.slice A0 F.length c0, .slice A1 S.length c1, .slice A2 T.length c2] 26)
 have Hsl := Go.Lib.hid (And.intro hc5 (Kd.C_below hr5 hB0))
 have l5 := hr5.2.1
 have HS := Go.Lib.hid (And.intro hr0.2.1 (And.intro hr1.2.1 (And.intro hr2.2.1 HA.out.rows)))
 clear hr0 hc0 hr1 hc1 hr2 hc2 hB0 hr5 hc5
 obtain ⟨b, hK, hb⟩ := few_is F S T HS.out.2.2.1
 obtain ⟨K, hK⟩ := hK
 have HK := Go.Lib.hid (hK K (Nat.le_refl _))
 have HFew := Go.Lib.hid hb
 clear hK hb
 go_enter Try.func5, Try.ntmps5
 have k0 := HA.out.k0
 have k1 := HA.out.k1
 have k2 := HA.out.k2
 have CC := laganlaw04_few.calls K A0 c0 F A1 c1 S A2 c2 T b _ HA.out.C0 HA.out.l0 HA.out.C1 HA.out.l1 HA.out.C2 HA.out.l2 HK.out
 go_wp2_with fail
 clear k0 k1 k2
 refine CC.mono ?_
 clear CC
 rintro e w1 ⟨rfl, hB⟩
 replace Hsl := Go.Lib.hid (And.intro Hsl.out.1 (Kd.C_below Hsl.out.2 hB))
 replace HA := Go.Lib.hid (HA.out.later hB)
 have k0 := HA.out.k0
 have k1 := HA.out.k1
 have k2 := HA.out.k2
 clear hB
 clear HK
 cases b with
 | false =>
  have CC := matched_walk w1
  go_wp2_with fail
  clear k0 k1 k2
  refine CC.mono ?_
  clear CC
  rintro e w2 ⟨rfl, hB⟩
  replace Hsl := Go.Lib.hid (And.intro Hsl.out.1 (Kd.C_below Hsl.out.2 hB))
  replace HA := Go.Lib.hid (HA.out.later hB)
  have k0 := HA.out.k0
  have k1 := HA.out.k1
  have k2 := HA.out.k2
  clear hB
  go_wp2_with fail
  go_ret
  exact ⟨rfl, HA.out.B⟩
 | true =>
  by_cases h3 : (sl.length : Int) > 20
  ·
   have g3 : decide ((sl.length : Int) > 20) = true := decide_eq_true h3
   have CC := matched_walk w1
   go_wp2_with fail
   clear k0 k1 k2
   refine CC.mono ?_
   clear CC
   rintro e w2 ⟨rfl, hB⟩
   replace Hsl := Go.Lib.hid (And.intro Hsl.out.1 (Kd.C_below Hsl.out.2 hB))
   replace HA := Go.Lib.hid (HA.out.later hB)
   have k0 := HA.out.k0
   have k1 := HA.out.k1
   have k2 := HA.out.k2
   clear hB
   go_wp2_with fail
   go_ret
   exact ⟨rfl, HA.out.B⟩
  have g3 : decide ((sl.length : Int) > 20) = false := decide_eq_false h3
  obtain ⟨KB, hKB⟩ := refcheck_is F S T HS.out.1 HS.out.2.1 HS.out.2.2.1 HS.out.2.2.2
  have HCb := Go.Lib.hid (hKB KB (Nat.le_refl _))
  clear hKB
  by_cases hc : checkB F S T = 0
  rotate_left
  ·
   obtain ⟨h1, h2, h3', h4⟩ := may_bad hc find slot sl
   obtain ⟨q, hq⟩ : ∃ q, checkB F S T = q := ⟨_, rfl⟩
   rw [hq] at hc h1 h2 h3' h4 HCb
   have HMa := Go.Lib.hid h1
   have HTh := Go.Lib.hid h2
   have HRe := Go.Lib.hid h3'
   have HWi := Go.Lib.hid h4
   clear h1 h2 h3' h4 hq
   have CC := match_May.calls A0 c0 F A1 c1 S A2 c2 T find slot _ _ w1 HA.out.C0 HA.out.l0 HA.out.C1 HA.out.l1 HA.out.C2 HA.out.l2 HMa.out
   go_wp2_with fail
   clear k0 k1 k2
   refine CC.mono ?_
   clear CC
   rintro e w2 ⟨rfl, hB⟩
   replace Hsl := Go.Lib.hid (And.intro Hsl.out.1 (Kd.C_below Hsl.out.2 hB))
   replace HA := Go.Lib.hid (HA.out.later hB)
   have k0 := HA.out.k0
   have k1 := HA.out.k1
   have k2 := HA.out.k2
   clear hB
   have CC := match_Through.calls A0 c0 F A1 c1 S A2 c2 T find slot _ _ _ w2 HA.out.C0 HA.out.l0 HA.out.C1 HA.out.l1 HA.out.C2 HA.out.l2 HTh.out
   go_wp2_with fail
   clear k0 k1 k2
   refine CC.mono ?_
   clear CC
   rintro e w3 ⟨v, rfl, hRv, hB⟩
   obtain ⟨At, ct, rfl, hl9, hC9⟩ := Kd.R_reads hRv
   have Ht := Go.Lib.hid (And.intro hl9 hC9)
   clear hRv hl9 hC9
   replace Hsl := Go.Lib.hid (And.intro Hsl.out.1 (Kd.C_below Hsl.out.2 hB))
   replace HA := Go.Lib.hid (HA.out.later hB)
   have k0 := HA.out.k0
   have k1 := HA.out.k1
   have k2 := HA.out.k2
   clear hB
   have CC := match_Refuse.calls A0 c0 F A1 c1 S A2 c2 T find slot _ _ _ w3 HA.out.C0 HA.out.l0 HA.out.C1 HA.out.l1 HA.out.C2 HA.out.l2 HRe.out
   go_wp2_with fail
   clear k0 k1 k2
   refine CC.mono ?_
   clear CC
   rintro e w4 ⟨v, rfl, hRv, hB⟩
   obtain ⟨Ar, cr, rfl, hl9, hC9⟩ := Kd.R_reads hRv
   have Hr := Go.Lib.hid (And.intro hl9 hC9)
   clear hRv hl9 hC9
   replace Hsl := Go.Lib.hid (And.intro Hsl.out.1 (Kd.C_below Hsl.out.2 hB))
   replace Ht := Go.Lib.hid (And.intro Ht.out.1 (Kd.C_below Ht.out.2 hB))
   replace HA := Go.Lib.hid (HA.out.later hB)
   have k0 := HA.out.k0
   have k1 := HA.out.k1
   have k2 := HA.out.k2
   clear hB
   have CC := within_calls A0 c0 F A1 c1 S A2 c2 T find A5 c5 sl w4 HA.out.C0 HA.out.l0 HA.out.C1 HA.out.l1 HA.out.C2 HA.out.l2 Hsl.out.2 Hsl.out.1
   rw [HWi.out] at CC
   go_wp2_with fail
   clear k0 k1 k2
   refine CC.mono ?_
   clear CC
   rintro e w5 ⟨rfl, hB⟩
   replace Hsl := Go.Lib.hid (And.intro Hsl.out.1 (Kd.C_below Hsl.out.2 hB))
   replace Ht := Go.Lib.hid (And.intro Ht.out.1 (Kd.C_below Ht.out.2 hB))
   replace Hr := Go.Lib.hid (And.intro Hr.out.1 (Kd.C_below Hr.out.2 hB))
   replace HA := Go.Lib.hid (HA.out.later hB)
   have k0 := HA.out.k0
   have k1 := HA.out.k1
   have k2 := HA.out.k2
   clear hB
   have CC := laganref04_CheckBoard.calls KB A0 c0 F A1 c1 S A2 c2 T _ w5 HA.out.C0 HA.out.l0 HA.out.C1 HA.out.l1 HA.out.C2 HA.out.l2 HCb.out
   go_wp2_with fail
   clear k0 k1 k2
   refine CC.mono ?_
   clear CC
   rintro e w6 ⟨rfl, hB⟩
   replace Hsl := Go.Lib.hid (And.intro Hsl.out.1 (Kd.C_below Hsl.out.2 hB))
   replace Ht := Go.Lib.hid (And.intro Ht.out.1 (Kd.C_below Ht.out.2 hB))
   replace Hr := Go.Lib.hid (And.intro Hr.out.1 (Kd.C_below Hr.out.2 hB))
   replace HA := Go.Lib.hid (HA.out.later hB)
   have k0 := HA.out.k0
   have k1 := HA.out.k1
   have k2 := HA.out.k2
   clear hB
   clear HMa HTh HRe HWi HCb
   have g5 : decide (q = 0) = false := decide_eq_false hc
   have CC := matched_walk w6
   go_wp2_with fail
   clear k0 k1 k2
   refine CC.mono ?_
   clear CC
   rintro e w7 ⟨rfl, hB⟩
   replace Hsl := Go.Lib.hid (And.intro Hsl.out.1 (Kd.C_below Hsl.out.2 hB))
   replace Ht := Go.Lib.hid (And.intro Ht.out.1 (Kd.C_below Ht.out.2 hB))
   replace Hr := Go.Lib.hid (And.intro Hr.out.1 (Kd.C_below Hr.out.2 hB))
   replace HA := Go.Lib.hid (HA.out.later hB)
   have k0 := HA.out.k0
   have k1 := HA.out.k1
   have k2 := HA.out.k2
   clear hB
   go_wp2_with fail
   go_ret
   exact ⟨rfl, HA.out.B⟩
  rw [hc] at HCb
  have hP := hP hc
  obtain ⟨hT6, hall, hlen, KA, hKA⟩ := all_ref hc (HFew.out rfl).1 (HFew.out rfl).2
  obtain ⟨may, no, t, r, ea, hMy⟩ := may_is hc find slot
  obtain ⟨inn, ew, hw0, hw1, hw2, hw3⟩ := within_is hc find sl
  have hne := allB_ne hc
  have hs200 := (bok_of_check hc).ns
  have hf60 := (bok_of_check hc).nf
  have hgood : isF F S T = true → (∃ KC, laganref04_Chances.f KC F S T (allB S T) = some (allChances F S T)) ∧ (allChances F S T).length = F.length := fun his => by
   obtain ⟨KC, hKC⟩ := refchances_is (F := F) (S := S) (T := T) (allB S T) (by omega) hs200 hf60 hlen
   have hch := hKC KC (Nat.le_refl _)
   rw [refall_chances hc his] at hch
   exact ⟨⟨KC, hch⟩, (chances_small hc).1⟩
  have hmem : isF F S T = true → 0 ≤ find ∧ find < (F.length : Int) → 0 ≤ slot → Shown F S T find.toNat slot t r may → decide (slot ∈ (allChances F S T).getD find.toNat []) = may := fun his hf h0 h => may_mem hc his (by omega) h0 h
  have hasg : ∀ x, AsgB S T x → (x.length : Int) = F.length := fun x hx => by rw [hx.len, (bok_of_check hc).nt]
  have hmeets : ∀ x, meetsB F S T x = true ↔ AsgB S T x := meets_iff hc
  have hask := ask_two hc find slot
  obtain ⟨his, ehis⟩ : ∃ his, isF F S T = his := ⟨_, rfl⟩
  rw [ehis] at hMy hw2 hw3 hne hgood hmem hP
  have HP := Go.Lib.hid hP
  obtain ⟨ch, ech⟩ : ∃ ch, allChances F S T = ch := ⟨_, rfl⟩
  rw [ech] at hw3 hgood hmem
  obtain ⟨al, eal⟩ : ∃ al, allB S T = al := ⟨_, rfl⟩
  rw [eal] at hne hgood
  rw [eal] at hKA
  have HAll := Go.Lib.hid hKA
  have HMa := Go.Lib.hid hMy.may_
  have HTh := Go.Lib.hid hMy.through
  have HRe := Go.Lib.hid hMy.refuse
  have HWi := Go.Lib.hid hw0
  have HMy := Go.Lib.hid (And.intro hMy.out (And.intro hMy.none hMy.some))
  have HW := Go.Lib.hid (And.intro hw1 (And.intro hw2 hw3))
  have HNe := Go.Lib.hid hne
  have HGood := Go.Lib.hid (And.intro hgood hmem)
  have HC := Go.Lib.hid (And.intro hc (And.intro hs200 (And.intro hf60 (And.intro hasg (And.intro hmeets hask)))))
  clear hP hT6 hall hlen hKA hMy hw0 hw1 hw2 hw3 hne hgood hmem hasg hmeets hask hs200 hf60 hc ehis ech eal HFew
  have CC := match_May.calls A0 c0 F A1 c1 S A2 c2 T find slot _ _ w1 HA.out.C0 HA.out.l0 HA.out.C1 HA.out.l1 HA.out.C2 HA.out.l2 HMa.out
  go_wp2_with fail
  clear k0 k1 k2
  refine CC.mono ?_
  clear CC
  rintro e w2 ⟨rfl, hB⟩
  replace Hsl := Go.Lib.hid (And.intro Hsl.out.1 (Kd.C_below Hsl.out.2 hB))
  replace HA := Go.Lib.hid (HA.out.later hB)
  have k0 := HA.out.k0
  have k1 := HA.out.k1
  have k2 := HA.out.k2
  clear hB
  have CC := match_Through.calls A0 c0 F A1 c1 S A2 c2 T find slot _ _ _ w2 HA.out.C0 HA.out.l0 HA.out.C1 HA.out.l1 HA.out.C2 HA.out.l2 HTh.out
  go_wp2_with fail
  clear k0 k1 k2
  refine CC.mono ?_
  clear CC
  rintro e w3 ⟨v, rfl, hRv, hB⟩
  obtain ⟨At, ct, rfl, hl9, hC9⟩ := Kd.R_reads hRv
  have Ht := Go.Lib.hid (And.intro hl9 hC9)
  clear hRv hl9 hC9
  replace Hsl := Go.Lib.hid (And.intro Hsl.out.1 (Kd.C_below Hsl.out.2 hB))
  replace HA := Go.Lib.hid (HA.out.later hB)
  have k0 := HA.out.k0
  have k1 := HA.out.k1
  have k2 := HA.out.k2
  clear hB
  have CC := match_Refuse.calls A0 c0 F A1 c1 S A2 c2 T find slot _ _ _ w3 HA.out.C0 HA.out.l0 HA.out.C1 HA.out.l1 HA.out.C2 HA.out.l2 HRe.out
  go_wp2_with fail
  clear k0 k1 k2
  refine CC.mono ?_
  clear CC
  rintro e w4 ⟨v, rfl, hRv, hB⟩
  obtain ⟨Ar, cr, rfl, hl9, hC9⟩ := Kd.R_reads hRv
  have Hr := Go.Lib.hid (And.intro hl9 hC9)
  clear hRv hl9 hC9
  replace Hsl := Go.Lib.hid (And.intro Hsl.out.1 (Kd.C_below Hsl.out.2 hB))
  replace Ht := Go.Lib.hid (And.intro Ht.out.1 (Kd.C_below Ht.out.2 hB))
  replace HA := Go.Lib.hid (HA.out.later hB)
  have k0 := HA.out.k0
  have k1 := HA.out.k1
  have k2 := HA.out.k2
  clear hB
  have CC := within_calls A0 c0 F A1 c1 S A2 c2 T find A5 c5 sl w4 HA.out.C0 HA.out.l0 HA.out.C1 HA.out.l1 HA.out.C2 HA.out.l2 Hsl.out.2 Hsl.out.1
  rw [HWi.out] at CC
  go_wp2_with fail
  clear k0 k1 k2
  refine CC.mono ?_
  clear CC
  rintro e w5 ⟨rfl, hB⟩
  replace Hsl := Go.Lib.hid (And.intro Hsl.out.1 (Kd.C_below Hsl.out.2 hB))
  replace Ht := Go.Lib.hid (And.intro Ht.out.1 (Kd.C_below Ht.out.2 hB))
  replace Hr := Go.Lib.hid (And.intro Hr.out.1 (Kd.C_below Hr.out.2 hB))
  replace HA := Go.Lib.hid (HA.out.later hB)
  have k0 := HA.out.k0
  have k1 := HA.out.k1
  have k2 := HA.out.k2
  clear hB
  have CC := laganref04_CheckBoard.calls KB A0 c0 F A1 c1 S A2 c2 T _ w5 HA.out.C0 HA.out.l0 HA.out.C1 HA.out.l1 HA.out.C2 HA.out.l2 HCb.out
  go_wp2_with fail
  clear k0 k1 k2
  refine CC.mono ?_
  clear CC
  rintro e w6 ⟨rfl, hB⟩
  replace Hsl := Go.Lib.hid (And.intro Hsl.out.1 (Kd.C_below Hsl.out.2 hB))
  replace Ht := Go.Lib.hid (And.intro Ht.out.1 (Kd.C_below Ht.out.2 hB))
  replace Hr := Go.Lib.hid (And.intro Hr.out.1 (Kd.C_below Hr.out.2 hB))
  replace HA := Go.Lib.hid (HA.out.later hB)
  have k0 := HA.out.k0
  have k1 := HA.out.k1
  have k2 := HA.out.k2
  clear hB
  clear HMa HTh HRe HWi HCb
  have CC := laganref04_All.calls KA A0 c0 F A1 c1 S A2 c2 T _ w6 HA.out.C0 HA.out.l0 HA.out.C1 HA.out.l1 HA.out.C2 HA.out.l2 HAll.out
  go_wp2_with fail
  clear k0 k1 k2
  refine CC.mono ?_
  clear CC
  rintro e w7 ⟨v, rfl, hRv, hB⟩
  obtain ⟨Al, cl, rfl, hl9, hC9⟩ := Kd.N_reads hRv
  have Hl := Go.Lib.hid (And.intro hl9 hC9)
  clear hRv hl9 hC9
  replace Hsl := Go.Lib.hid (And.intro Hsl.out.1 (Kd.C_below Hsl.out.2 hB))
  replace Ht := Go.Lib.hid (And.intro Ht.out.1 (Kd.C_below Ht.out.2 hB))
  replace Hr := Go.Lib.hid (And.intro Hr.out.1 (Kd.C_below Hr.out.2 hB))
  replace HA := Go.Lib.hid (HA.out.later hB)
  have k0 := HA.out.k0
  have k1 := HA.out.k1
  have k2 := HA.out.k2
  clear hB
  clear HAll
  have ehf := HP.out
  subst ehf
  have hL : al = [] := Classical.byContradiction fun k => by have := HNe.out.1 k; simp at this
  subst hL
  go_wp2_with fail
  clear k0 k1 k2
  have h20 : sl.length ≤ 20 := by omega
  go_loopw [22, 23] (fun y i wr => ∃ k : Nat, k ≤ sl.length ∧ i = .int .i64 k ∧ (∃ yb, y = .bool yb ∧ Hid (risTo sl ((S.length : Int) - 1) k = yb)) ∧ Hid (MyI w A0 c0 F A1 c1 S A2 c2 T A5 c5 sl At ct t Ar cr r Al cl ([] : List (List Int)) wr)) (fun _ i _ => sl.length - (intOf i).toNat)
  case atStart => exact ⟨0, Nat.zero_le _, rfl, ⟨true, rfl, rfl⟩, HA.out, Hsl.out.2, Hsl.out.1, Ht.out.2, Ht.out.1, Hr.out.2, Hr.out.1, Hl.out.2, Hl.out.1⟩
  obtain ⟨k, hk, rfl, ⟨yb, rfl, HYb⟩, HI⟩ := hrel
  clear HA Hsl Ht Hr Hl
  have k0 := HI.out.a.k0
  have k1 := HI.out.a.k1
  have k2 := HI.out.a.k2
  by_cases hlt : k < sl.length
  ·
   have hst := risTo_step sl ((S.length : Int) - 1) k
   rw [HYb.out] at hst
   cases yb with
   | false =>
    rw [Bool.false_and] at hst
    have HSt := Go.Lib.hid hst
    clear hst
    go_wp2_with fail
    go_quiet (fail)
    go_wp2_with fail
    go_roundw
    case rel => exact ⟨k + 1, by omega, by first | (simp; done) | (simp; omega), ⟨false, by simp, HSt.out⟩, HI.out.later (by repeat (first | exact Below.refl _ _ | refine pw_below_drewN ?_ _))⟩
    case measure => simp [intOf]; omega
   | true =>
    rw [Bool.true_and] at hst
    obtain ⟨ax, eax, hx⟩ := Kd.at_int HI.out.hs (k : Int) (by omega) (by omega)
    rw [Int.toNat_natCast] at hx
    rw [rd_nat] at hx
    have hprev : 0 < k → ∃ p, sl.getD (k - 1) 0 = p ∧ wr.cell? (ax.add (k - 1)) = some (.int .i64 p) := fun h => by
     obtain ⟨ay, eay, hy⟩ := Kd.at_int HI.out.hs ((k - 1 : Nat) : Int) (by omega) (by omega)
     rw [Int.toNat_natCast, rd_nat] at hy
     rw [eax] at eay
     injection eay with eay
     subst eay
     exact ⟨_, rfl, hy⟩
    obtain ⟨x, ex⟩ : ∃ x, sl.getD k 0 = x := ⟨_, rfl⟩
    rw [ex] at hx
    have hra : risAt sl 0 ((S.length : Int) - 1) k = (decide (0 ≤ x) && decide (x < (S.length : Int)) && (decide (k = 0) || decide (sl.getD (k - 1) 0 < x))) := by
     unfold risAt inB
     rw [ex]
     congr 2
     exact decide_eq_decide.2 ⟨fun h => by omega, fun h => by omega⟩
    rw [hra] at hst
    cases eax
    clear hra ex
    by_cases c1' : x ≥ 0
    rotate_left
    ·
     have e1 : decide (x ≥ 0) = false := decide_eq_false c1'
     rw [decide_eq_false (show ¬ 0 ≤ x by omega)] at hst
     have HSt := Go.Lib.hid hst
     clear hst hprev
     go_wp2_with fail
     go_quiet (fail)
     go_wp2_with fail
     go_roundw
     case rel => exact ⟨k + 1, by omega, by first | (simp; done) | (simp; omega), ⟨false, by simp, by rw [HSt.out]; rfl⟩, HI.out.later (by repeat (first | exact Below.refl _ _ | refine pw_below_drewN ?_ _))⟩
     case measure => simp [intOf]; omega
    have e1 : decide (x ≥ 0) = true := decide_eq_true c1'
    rw [decide_eq_true (show 0 ≤ x by omega), Bool.true_and] at hst
    by_cases c2' : x < (S.length : Int)
    rotate_left
    ·
     have e2 : decide (x < (S.length : Int)) = false := decide_eq_false c2'
     rw [e2] at hst
     have HSt := Go.Lib.hid hst
     clear hst hprev
     go_wp2_with fail
     go_quiet (fail)
     go_wp2_with fail
     go_roundw
     case rel => exact ⟨k + 1, by omega, by first | (simp; done) | (simp; omega), ⟨false, by simp, by rw [HSt.out]; rfl⟩, HI.out.later (by repeat (first | exact Below.refl _ _ | refine pw_below_drewN ?_ _))⟩
     case measure => simp [intOf]; omega
    have e2 : decide (x < (S.length : Int)) = true := decide_eq_true c2'
    rw [e2, Bool.true_and] at hst
    by_cases c3' : k = 0
    ·
     have e3 : ((k : Int) == 0) = true := by rw [beq_iff_eq]; omega
     have e3b : decide ((k : Int) = 0) = true := decide_eq_true (by omega)
     rw [decide_eq_true c3', Bool.true_or] at hst
     have hx0 := hx
     rw [c3', Addr.add_zero'] at hx0
     have c30 : 0 < sl.length := by omega
     have HSt := Go.Lib.hid hst
     clear hst hprev
     go_wp2_with fail
     go_quiet (fail)
     go_wp2_with fail
     go_roundw
     case rel => exact ⟨k + 1, by omega, by first | (simp; done) | (simp; omega), ⟨true, by simp, HSt.out⟩, HI.out.later (by repeat (first | exact Below.refl _ _ | refine pw_below_drewN ?_ _))⟩
     case measure => simp [intOf]; omega
    have e3 : ((k : Int) == 0) = false := by rw [beq_eq_false_iff_ne]; omega
    have e3b : decide ((k : Int) = 0) = false := decide_eq_false (by omega)
    obtain ⟨p, ep, hp⟩ := hprev (by omega)
    rw [decide_eq_false c3', Bool.false_or, ep] at hst
    have s1' : IntKind.i64.wrap ((k : Int) - 1) = (k : Int) - 1 := (YtkmmihadcbfkoaaW.PrintLast.i64_w _).trans (wrap_pm (i := (k : Int)) (by omega) (by omega)).2
    have s2' : ((k : Int) - 1).toNat = k - 1 := by omega
    have s3' : (0 ≤ (k : Int) - 1) = True := eq_true (by omega)
    have s4' : ((k : Int) - 1 < (sl.length : Int)) = True := eq_true (by omega)
    have s5' : k - 1 < sl.length := by omega
    clear hprev ep
    by_cases c4' : x > p
    ·
     have e4 : decide (x > p) = true := decide_eq_true c4'
     rw [decide_eq_true (show p < x by omega)] at hst
     have HSt := Go.Lib.hid hst
     clear hst
     go_wp2_with fail
     go_quiet (fail)
     go_wp2_with fail
     go_roundw
     case rel => exact ⟨k + 1, by omega, by first | (simp; done) | (simp; omega), ⟨true, by simp, HSt.out⟩, HI.out.later (by repeat (first | exact Below.refl _ _ | refine pw_below_drewN ?_ _))⟩
     case measure => simp [intOf]; omega
    have e4 : decide (x > p) = false := decide_eq_false c4'
    rw [decide_eq_false (show ¬ p < x by omega)] at hst
    have HSt := Go.Lib.hid hst
    clear hst
    go_wp2_with fail
    go_quiet (fail)
    go_wp2_with fail
    go_roundw
    case rel => exact ⟨k + 1, by omega, by first | (simp; done) | (simp; omega), ⟨false, by simp, HSt.out⟩, HI.out.later (by repeat (first | exact Below.refl _ _ | refine pw_below_drewN ?_ _))⟩
    case measure => simp [intOf]; omega
  obtain rfl : k = sl.length := by omega
  have HR : Hid (risB sl 0 ((S.length : Int) - 1) = yb) := Go.Lib.hid HYb.out
  clear HYb hk hlt h20
  by_cases f1 : find < 0
  ·
   have d1 : decide (find < 0) = true := decide_eq_true f1
   obtain ⟨rfl, rfl, rfl, rfl, rfl⟩ := HMy.out.1 (by omega)
   obtain ⟨rfl, rfl⟩ := HW.out.1 (Or.inl (by omega))
   have CC := matched_walk wr
   go_wp2_with fail
   clear k0 k1 k2
   refine CC.mono ?_
   clear CC
   rintro e wz ⟨rfl, hB⟩
   replace HI := Go.Lib.hid (HI.out.later hB)
   have k0 := HI.out.a.k0
   have k1 := HI.out.a.k1
   have k2 := HI.out.a.k2
   clear hB
   go_wp2_with fail
   go_ret
   exact ⟨rfl, HI.out.a.B⟩
  have d1 : decide (find < 0) = false := decide_eq_false f1
  by_cases f2 : find ≥ (F.length : Int)
  ·
   have d2 : decide (find ≥ (F.length : Int)) = true := decide_eq_true f2
   obtain ⟨rfl, rfl, rfl, rfl, rfl⟩ := HMy.out.1 (by omega)
   obtain ⟨rfl, rfl⟩ := HW.out.1 (Or.inl (by omega))
   have CC := matched_walk wr
   go_wp2_with fail
   clear k0 k1 k2
   refine CC.mono ?_
   clear CC
   rintro e wz ⟨rfl, hB⟩
   replace HI := Go.Lib.hid (HI.out.later hB)
   have k0 := HI.out.a.k0
   have k1 := HI.out.a.k1
   have k2 := HI.out.a.k2
   clear hB
   go_wp2_with fail
   go_ret
   exact ⟨rfl, HI.out.a.B⟩
  have d2 : decide (find ≥ (F.length : Int)) = false := decide_eq_false f2
  have hfa : 0 ≤ find ∧ find < (F.length : Int) := by omega
  cases yb with
  | false =>
   by_cases s1 : slot < 0
   ·
    have d3 : decide (slot < 0) = true := decide_eq_true s1
    obtain ⟨rfl, rfl, rfl, rfl, rfl⟩ := HMy.out.1 (by omega)
    obtain ⟨rfl, rfl⟩ := HW.out.1 (Or.inr HR.out)
    have CC := matched_walk wr
    go_wp2_with fail
    clear k0 k1 k2
    refine CC.mono ?_
    clear CC
    rintro e wz ⟨rfl, hB⟩
    replace HI := Go.Lib.hid (HI.out.later hB)
    have k0 := HI.out.a.k0
    have k1 := HI.out.a.k1
    have k2 := HI.out.a.k2
    clear hB
    go_wp2_with fail
    go_ret
    exact ⟨rfl, HI.out.a.B⟩
   have d3 : decide (slot < 0) = false := decide_eq_false s1
   by_cases s2 : slot ≥ (S.length : Int)
   ·
    have d4 : decide (slot ≥ (S.length : Int)) = true := decide_eq_true s2
    obtain ⟨rfl, rfl, rfl, rfl, rfl⟩ := HMy.out.1 (by omega)
    obtain ⟨rfl, rfl⟩ := HW.out.1 (Or.inr HR.out)
    have CC := matched_walk wr
    go_wp2_with fail
    clear k0 k1 k2
    refine CC.mono ?_
    clear CC
    rintro e wz ⟨rfl, hB⟩
    replace HI := Go.Lib.hid (HI.out.later hB)
    have k0 := HI.out.a.k0
    have k1 := HI.out.a.k1
    have k2 := HI.out.a.k2
    clear hB
    go_wp2_with fail
    go_ret
    exact ⟨rfl, HI.out.a.B⟩
   have d4 : decide (slot ≥ (S.length : Int)) = false := decide_eq_false s2
   have hargs : 0 ≤ find ∧ find < (F.length : Int) ∧ 0 ≤ slot ∧ slot < (S.length : Int) := by omega
   obtain ⟨rfl, rfl, rfl, rfl, rfl⟩ := HMy.out.2.1 hargs (by simp)
   obtain ⟨rfl, rfl⟩ := HW.out.1 (Or.inr HR.out)
   have CC := matched_walk wr
   go_wp2_with fail
   clear k0 k1 k2
   refine CC.mono ?_
   clear CC
   rintro e wz ⟨rfl, hB⟩
   replace HI := Go.Lib.hid (HI.out.later hB)
   have k0 := HI.out.a.k0
   have k1 := HI.out.a.k1
   have k2 := HI.out.a.k2
   clear hB
   go_wp2_with fail
   go_ret
   exact ⟨rfl, HI.out.a.B⟩
  | true =>
   by_cases s1 : slot < 0
   ·
    have d3 : decide (slot < 0) = true := decide_eq_true s1
    obtain ⟨rfl, rfl, rfl, rfl, rfl⟩ := HMy.out.1 (by omega)
    obtain ⟨rfl, rfl⟩ := HW.out.2.1 hfa HR.out (by simp)
    have CC := matched_walk wr
    go_wp2_with fail
    clear k0 k1 k2
    refine CC.mono ?_
    clear CC
    rintro e wz ⟨rfl, hB⟩
    replace HI := Go.Lib.hid (HI.out.later hB)
    have k0 := HI.out.a.k0
    have k1 := HI.out.a.k1
    have k2 := HI.out.a.k2
    clear hB
    go_wp2_with fail
    go_ret
    exact ⟨rfl, HI.out.a.B⟩
   have d3 : decide (slot < 0) = false := decide_eq_false s1
   by_cases s2 : slot ≥ (S.length : Int)
   ·
    have d4 : decide (slot ≥ (S.length : Int)) = true := decide_eq_true s2
    obtain ⟨rfl, rfl, rfl, rfl, rfl⟩ := HMy.out.1 (by omega)
    obtain ⟨rfl, rfl⟩ := HW.out.2.1 hfa HR.out (by simp)
    have CC := matched_walk wr
    go_wp2_with fail
    clear k0 k1 k2
    refine CC.mono ?_
    clear CC
    rintro e wz ⟨rfl, hB⟩
    replace HI := Go.Lib.hid (HI.out.later hB)
    have k0 := HI.out.a.k0
    have k1 := HI.out.a.k1
    have k2 := HI.out.a.k2
    clear hB
    go_wp2_with fail
    go_ret
    exact ⟨rfl, HI.out.a.B⟩
   have d4 : decide (slot ≥ (S.length : Int)) = false := decide_eq_false s2
   have hargs : 0 ≤ find ∧ find < (F.length : Int) ∧ 0 ≤ slot ∧ slot < (S.length : Int) := by omega
   obtain ⟨rfl, rfl, rfl, rfl, rfl⟩ := HMy.out.2.1 hargs (by simp)
   obtain ⟨rfl, rfl⟩ := HW.out.2.1 hfa HR.out (by simp)
   have CC := matched_walk wr
   go_wp2_with fail
   clear k0 k1 k2
   refine CC.mono ?_
   clear CC
   rintro e wz ⟨rfl, hB⟩
   replace HI := Go.Lib.hid (HI.out.later hB)
   have k0 := HI.out.a.k0
   have k1 := HI.out.a.k1
   have k2 := HI.out.a.k2
   clear hB
   go_wp2_with fail
   go_ret
   exact ⟨rfl, HI.out.a.B⟩
end Go.Proofs.Ytkmmihadcbfkoaa
end

section
namespace Go.Proofs.Ytkmmihadcbfkoaa
open Go.RowKit Go.Proofs.YtkmmihadcbfkoaaW.PrintWords PM
set_option linter.unusedVariables false
set_option linter.unusedSimpArgs false
set_option maxRecDepth 100000 in
set_option maxHeartbeats 8000000 in
theorem may_walk2 (A0 : Option Addr) (c0 : Nat) (F : List Int) (A1 : Option Addr) (c1 : Nat) (S : List S50) (A2 : Option Addr) (c2 : Nat) (T : List (List Int)) (find : Int) (slot : Int) (A5 : Option Addr) (c5 : Nat) (sl : List Int) (w : World)
  (hr0 : Kd.C (Kd.int .i64) w A0 F.length F) (hc0 : F.length ≤ c0) (hr1 : Kd.C k50 w A1 S.length S) (hc1 : S.length ≤ c1) (hr2 : Kd.C (Kd.slice 3 (Kd.int .i64)) w A2 T.length T) (hc2 : T.length ≤ c2) (hr5 : Kd.C (Kd.int .i64) w A5 sl.length sl) (hc5 : sl.length ≤ c5) (hP : checkB F S T = 0 → isF F S T = true ∧ ¬ (0 ≤ find ∧ find < (F.length : Int) ∧ risB sl 0 ((S.length : Int) - 1) = true)) :
  Calls Try.prog 5 #[.agg #[.slice A0 F.length c0, .slice A1 S.length c1, .slice A2 T.length c2], .int .i64 find, .int .i64 slot, .slice A5 sl.length c5] w fun e w' => e = .returned (.bool true) ∧ Below w.heap.size w w' := by
 have HA := Go.Lib.hid (LAt.start hr0 hc0 hr1 hc1 hr2 hc2)
 have hB0 := (Below.refl w.heap.size w).alloc (Nat.le_refl _) (.cells #[.slice A0 F.length c0, .slice A1 S.length c1, .slice A2 T.length c2] 26)
 have Hsl := Go.Lib.hid (And.intro hc5 (Kd.C_below hr5 hB0))
 have l5 := hr5.2.1
 have HS := Go.Lib.hid (And.intro hr0.2.1 (And.intro hr1.2.1 (And.intro hr2.2.1 HA.out.rows)))
 clear hr0 hc0 hr1 hc1 hr2 hc2 hB0 hr5 hc5
 obtain ⟨b, hK, hb⟩ := few_is F S T HS.out.2.2.1
 obtain ⟨K, hK⟩ := hK
 have HK := Go.Lib.hid (hK K (Nat.le_refl _))
 have HFew := Go.Lib.hid hb
 clear hK hb
 go_enter Try.func5, Try.ntmps5
 have k0 := HA.out.k0
 have k1 := HA.out.k1
 have k2 := HA.out.k2
 have CC := laganlaw04_few.calls K A0 c0 F A1 c1 S A2 c2 T b _ HA.out.C0 HA.out.l0 HA.out.C1 HA.out.l1 HA.out.C2 HA.out.l2 HK.out
 go_wp2_with fail
 clear k0 k1 k2
 refine CC.mono ?_
 clear CC
 rintro e w1 ⟨rfl, hB⟩
 replace Hsl := Go.Lib.hid (And.intro Hsl.out.1 (Kd.C_below Hsl.out.2 hB))
 replace HA := Go.Lib.hid (HA.out.later hB)
 have k0 := HA.out.k0
 have k1 := HA.out.k1
 have k2 := HA.out.k2
 clear hB
 clear HK
 cases b with
 | false =>
  have CC := matched_walk w1
  go_wp2_with fail
  clear k0 k1 k2
  refine CC.mono ?_
  clear CC
  rintro e w2 ⟨rfl, hB⟩
  replace Hsl := Go.Lib.hid (And.intro Hsl.out.1 (Kd.C_below Hsl.out.2 hB))
  replace HA := Go.Lib.hid (HA.out.later hB)
  have k0 := HA.out.k0
  have k1 := HA.out.k1
  have k2 := HA.out.k2
  clear hB
  go_wp2_with fail
  go_ret
  exact ⟨rfl, HA.out.B⟩
 | true =>
  by_cases h3 : (sl.length : Int) > 20
  ·
   have g3 : decide ((sl.length : Int) > 20) = true := decide_eq_true h3
   have CC := matched_walk w1
   go_wp2_with fail
   clear k0 k1 k2
   refine CC.mono ?_
   clear CC
   rintro e w2 ⟨rfl, hB⟩
   replace Hsl := Go.Lib.hid (And.intro Hsl.out.1 (Kd.C_below Hsl.out.2 hB))
   replace HA := Go.Lib.hid (HA.out.later hB)
   have k0 := HA.out.k0
   have k1 := HA.out.k1
   have k2 := HA.out.k2
   clear hB
   go_wp2_with fail
   go_ret
   exact ⟨rfl, HA.out.B⟩
  have g3 : decide ((sl.length : Int) > 20) = false := decide_eq_false h3
  obtain ⟨KB, hKB⟩ := refcheck_is F S T HS.out.1 HS.out.2.1 HS.out.2.2.1 HS.out.2.2.2
  have HCb := Go.Lib.hid (hKB KB (Nat.le_refl _))
  clear hKB
  by_cases hc : checkB F S T = 0
  rotate_left
  ·
   obtain ⟨h1, h2, h3', h4⟩ := may_bad hc find slot sl
   obtain ⟨q, hq⟩ : ∃ q, checkB F S T = q := ⟨_, rfl⟩
   rw [hq] at hc h1 h2 h3' h4 HCb
   have HMa := Go.Lib.hid h1
   have HTh := Go.Lib.hid h2
   have HRe := Go.Lib.hid h3'
   have HWi := Go.Lib.hid h4
   clear h1 h2 h3' h4 hq
   have CC := match_May.calls A0 c0 F A1 c1 S A2 c2 T find slot _ _ w1 HA.out.C0 HA.out.l0 HA.out.C1 HA.out.l1 HA.out.C2 HA.out.l2 HMa.out
   go_wp2_with fail
   clear k0 k1 k2
   refine CC.mono ?_
   clear CC
   rintro e w2 ⟨rfl, hB⟩
   replace Hsl := Go.Lib.hid (And.intro Hsl.out.1 (Kd.C_below Hsl.out.2 hB))
   replace HA := Go.Lib.hid (HA.out.later hB)
   have k0 := HA.out.k0
   have k1 := HA.out.k1
   have k2 := HA.out.k2
   clear hB
   have CC := match_Through.calls A0 c0 F A1 c1 S A2 c2 T find slot _ _ _ w2 HA.out.C0 HA.out.l0 HA.out.C1 HA.out.l1 HA.out.C2 HA.out.l2 HTh.out
   go_wp2_with fail
   clear k0 k1 k2
   refine CC.mono ?_
   clear CC
   rintro e w3 ⟨v, rfl, hRv, hB⟩
   obtain ⟨At, ct, rfl, hl9, hC9⟩ := Kd.R_reads hRv
   have Ht := Go.Lib.hid (And.intro hl9 hC9)
   clear hRv hl9 hC9
   replace Hsl := Go.Lib.hid (And.intro Hsl.out.1 (Kd.C_below Hsl.out.2 hB))
   replace HA := Go.Lib.hid (HA.out.later hB)
   have k0 := HA.out.k0
   have k1 := HA.out.k1
   have k2 := HA.out.k2
   clear hB
   have CC := match_Refuse.calls A0 c0 F A1 c1 S A2 c2 T find slot _ _ _ w3 HA.out.C0 HA.out.l0 HA.out.C1 HA.out.l1 HA.out.C2 HA.out.l2 HRe.out
   go_wp2_with fail
   clear k0 k1 k2
   refine CC.mono ?_
   clear CC
   rintro e w4 ⟨v, rfl, hRv, hB⟩
   obtain ⟨Ar, cr, rfl, hl9, hC9⟩ := Kd.R_reads hRv
   have Hr := Go.Lib.hid (And.intro hl9 hC9)
   clear hRv hl9 hC9
   replace Hsl := Go.Lib.hid (And.intro Hsl.out.1 (Kd.C_below Hsl.out.2 hB))
   replace Ht := Go.Lib.hid (And.intro Ht.out.1 (Kd.C_below Ht.out.2 hB))
   replace HA := Go.Lib.hid (HA.out.later hB)
   have k0 := HA.out.k0
   have k1 := HA.out.k1
   have k2 := HA.out.k2
   clear hB
   have CC := within_calls A0 c0 F A1 c1 S A2 c2 T find A5 c5 sl w4 HA.out.C0 HA.out.l0 HA.out.C1 HA.out.l1 HA.out.C2 HA.out.l2 Hsl.out.2 Hsl.out.1
   rw [HWi.out] at CC
   go_wp2_with fail
   clear k0 k1 k2
   refine CC.mono ?_
   clear CC
   rintro e w5 ⟨rfl, hB⟩
   replace Hsl := Go.Lib.hid (And.intro Hsl.out.1 (Kd.C_below Hsl.out.2 hB))
   replace Ht := Go.Lib.hid (And.intro Ht.out.1 (Kd.C_below Ht.out.2 hB))
   replace Hr := Go.Lib.hid (And.intro Hr.out.1 (Kd.C_below Hr.out.2 hB))
   replace HA := Go.Lib.hid (HA.out.later hB)
   have k0 := HA.out.k0
   have k1 := HA.out.k1
   have k2 := HA.out.k2
   clear hB
   have CC := laganref04_CheckBoard.calls KB A0 c0 F A1 c1 S A2 c2 T _ w5 HA.out.C0 HA.out.l0 HA.out.C1 HA.out.l1 HA.out.C2 HA.out.l2 HCb.out
   go_wp2_with fail
   clear k0 k1 k2
   refine CC.mono ?_
   clear CC
   rintro e w6 ⟨rfl, hB⟩
   replace Hsl := Go.Lib.hid (And.intro Hsl.out.1 (Kd.C_below Hsl.out.2 hB))
   replace Ht := Go.Lib.hid (And.intro Ht.out.1 (Kd.C_below Ht.out.2 hB))
   replace Hr := Go.Lib.hid (And.intro Hr.out.1 (Kd.C_below Hr.out.2 hB))
   replace HA := Go.Lib.hid (HA.out.later hB)
   have k0 := HA.out.k0
   have k1 := HA.out.k1
   have k2 := HA.out.k2
   clear hB
   clear HMa HTh HRe HWi HCb
   have g5 : decide (q = 0) = false := decide_eq_false hc
   have CC := matched_walk w6
   go_wp2_with fail
   clear k0 k1 k2
   refine CC.mono ?_
   clear CC
   rintro e w7 ⟨rfl, hB⟩
   replace Hsl := Go.Lib.hid (And.intro Hsl.out.1 (Kd.C_below Hsl.out.2 hB))
   replace Ht := Go.Lib.hid (And.intro Ht.out.1 (Kd.C_below Ht.out.2 hB))
   replace Hr := Go.Lib.hid (And.intro Hr.out.1 (Kd.C_below Hr.out.2 hB))
   replace HA := Go.Lib.hid (HA.out.later hB)
   have k0 := HA.out.k0
   have k1 := HA.out.k1
   have k2 := HA.out.k2
   clear hB
   go_wp2_with fail
   go_ret
   exact ⟨rfl, HA.out.B⟩
  rw [hc] at HCb
  have hP := hP hc
  obtain ⟨hT6, hall, hlen, KA, hKA⟩ := all_ref hc (HFew.out rfl).1 (HFew.out rfl).2
  obtain ⟨may, no, t, r, ea, hMy⟩ := may_is hc find slot
  obtain ⟨inn, ew, hw0, hw1, hw2, hw3⟩ := within_is hc find sl
  have hne := allB_ne hc
  have hs200 := (bok_of_check hc).ns
  have hf60 := (bok_of_check hc).nf
  have hgood : isF F S T = true → (∃ KC, laganref04_Chances.f KC F S T (allB S T) = some (allChances F S T)) ∧ (allChances F S T).length = F.length := fun his => by
   obtain ⟨KC, hKC⟩ := refchances_is (F := F) (S := S) (T := T) (allB S T) (by omega) hs200 hf60 hlen
   have hch := hKC KC (Nat.le_refl _)
   rw [refall_chances hc his] at hch
   exact ⟨⟨KC, hch⟩, (chances_small hc).1⟩
  have hmem : isF F S T = true → 0 ≤ find ∧ find < (F.length : Int) → 0 ≤ slot → Shown F S T find.toNat slot t r may → decide (slot ∈ (allChances F S T).getD find.toNat []) = may := fun his hf h0 h => may_mem hc his (by omega) h0 h
  have hasg : ∀ x, AsgB S T x → (x.length : Int) = F.length := fun x hx => by rw [hx.len, (bok_of_check hc).nt]
  have hmeets : ∀ x, meetsB F S T x = true ↔ AsgB S T x := meets_iff hc
  have hask := ask_two hc find slot
  obtain ⟨his, ehis⟩ : ∃ his, isF F S T = his := ⟨_, rfl⟩
  rw [ehis] at hMy hw2 hw3 hne hgood hmem hP
  have HP := Go.Lib.hid hP
  obtain ⟨ch, ech⟩ : ∃ ch, allChances F S T = ch := ⟨_, rfl⟩
  rw [ech] at hw3 hgood hmem
  obtain ⟨al, eal⟩ : ∃ al, allB S T = al := ⟨_, rfl⟩
  rw [eal] at hne hgood
  rw [eal] at hKA
  have HAll := Go.Lib.hid hKA
  have HMa := Go.Lib.hid hMy.may_
  have HTh := Go.Lib.hid hMy.through
  have HRe := Go.Lib.hid hMy.refuse
  have HWi := Go.Lib.hid hw0
  have HMy := Go.Lib.hid (And.intro hMy.out (And.intro hMy.none hMy.some))
  have HW := Go.Lib.hid (And.intro hw1 (And.intro hw2 hw3))
  have HNe := Go.Lib.hid hne
  have HGood := Go.Lib.hid (And.intro hgood hmem)
  have HC := Go.Lib.hid (And.intro hc (And.intro hs200 (And.intro hf60 (And.intro hasg (And.intro hmeets hask)))))
  clear hP hT6 hall hlen hKA hMy hw0 hw1 hw2 hw3 hne hgood hmem hasg hmeets hask hs200 hf60 hc ehis ech eal HFew
  have CC := match_May.calls A0 c0 F A1 c1 S A2 c2 T find slot _ _ w1 HA.out.C0 HA.out.l0 HA.out.C1 HA.out.l1 HA.out.C2 HA.out.l2 HMa.out
  go_wp2_with fail
  clear k0 k1 k2
  refine CC.mono ?_
  clear CC
  rintro e w2 ⟨rfl, hB⟩
  replace Hsl := Go.Lib.hid (And.intro Hsl.out.1 (Kd.C_below Hsl.out.2 hB))
  replace HA := Go.Lib.hid (HA.out.later hB)
  have k0 := HA.out.k0
  have k1 := HA.out.k1
  have k2 := HA.out.k2
  clear hB
  have CC := match_Through.calls A0 c0 F A1 c1 S A2 c2 T find slot _ _ _ w2 HA.out.C0 HA.out.l0 HA.out.C1 HA.out.l1 HA.out.C2 HA.out.l2 HTh.out
  go_wp2_with fail
  clear k0 k1 k2
  refine CC.mono ?_
  clear CC
  rintro e w3 ⟨v, rfl, hRv, hB⟩
  obtain ⟨At, ct, rfl, hl9, hC9⟩ := Kd.R_reads hRv
  have Ht := Go.Lib.hid (And.intro hl9 hC9)
  clear hRv hl9 hC9
  replace Hsl := Go.Lib.hid (And.intro Hsl.out.1 (Kd.C_below Hsl.out.2 hB))
  replace HA := Go.Lib.hid (HA.out.later hB)
  have k0 := HA.out.k0
  have k1 := HA.out.k1
  have k2 := HA.out.k2
  clear hB
  have CC := match_Refuse.calls A0 c0 F A1 c1 S A2 c2 T find slot _ _ _ w3 HA.out.C0 HA.out.l0 HA.out.C1 HA.out.l1 HA.out.C2 HA.out.l2 HRe.out
  go_wp2_with fail
  clear k0 k1 k2
  refine CC.mono ?_
  clear CC
  rintro e w4 ⟨v, rfl, hRv, hB⟩
  obtain ⟨Ar, cr, rfl, hl9, hC9⟩ := Kd.R_reads hRv
  have Hr := Go.Lib.hid (And.intro hl9 hC9)
  clear hRv hl9 hC9
  replace Hsl := Go.Lib.hid (And.intro Hsl.out.1 (Kd.C_below Hsl.out.2 hB))
  replace Ht := Go.Lib.hid (And.intro Ht.out.1 (Kd.C_below Ht.out.2 hB))
  replace HA := Go.Lib.hid (HA.out.later hB)
  have k0 := HA.out.k0
  have k1 := HA.out.k1
  have k2 := HA.out.k2
  clear hB
  have CC := within_calls A0 c0 F A1 c1 S A2 c2 T find A5 c5 sl w4 HA.out.C0 HA.out.l0 HA.out.C1 HA.out.l1 HA.out.C2 HA.out.l2 Hsl.out.2 Hsl.out.1
  rw [HWi.out] at CC
  go_wp2_with fail
  clear k0 k1 k2
  refine CC.mono ?_
  clear CC
  rintro e w5 ⟨rfl, hB⟩
  replace Hsl := Go.Lib.hid (And.intro Hsl.out.1 (Kd.C_below Hsl.out.2 hB))
  replace Ht := Go.Lib.hid (And.intro Ht.out.1 (Kd.C_below Ht.out.2 hB))
  replace Hr := Go.Lib.hid (And.intro Hr.out.1 (Kd.C_below Hr.out.2 hB))
  replace HA := Go.Lib.hid (HA.out.later hB)
  have k0 := HA.out.k0
  have k1 := HA.out.k1
  have k2 := HA.out.k2
  clear hB
  have CC := laganref04_CheckBoard.calls KB A0 c0 F A1 c1 S A2 c2 T _ w5 HA.out.C0 HA.out.l0 HA.out.C1 HA.out.l1 HA.out.C2 HA.out.l2 HCb.out
  go_wp2_with fail
  clear k0 k1 k2
  refine CC.mono ?_
  clear CC
  rintro e w6 ⟨rfl, hB⟩
  replace Hsl := Go.Lib.hid (And.intro Hsl.out.1 (Kd.C_below Hsl.out.2 hB))
  replace Ht := Go.Lib.hid (And.intro Ht.out.1 (Kd.C_below Ht.out.2 hB))
  replace Hr := Go.Lib.hid (And.intro Hr.out.1 (Kd.C_below Hr.out.2 hB))
  replace HA := Go.Lib.hid (HA.out.later hB)
  have k0 := HA.out.k0
  have k1 := HA.out.k1
  have k2 := HA.out.k2
  clear hB
  clear HMa HTh HRe HWi HCb
  have CC := laganref04_All.calls KA A0 c0 F A1 c1 S A2 c2 T _ w6 HA.out.C0 HA.out.l0 HA.out.C1 HA.out.l1 HA.out.C2 HA.out.l2 HAll.out
  go_wp2_with fail
  clear k0 k1 k2
  refine CC.mono ?_
  clear CC
  rintro e w7 ⟨v, rfl, hRv, hB⟩
  obtain ⟨Al, cl, rfl, hl9, hC9⟩ := Kd.N_reads hRv
  have Hl := Go.Lib.hid (And.intro hl9 hC9)
  clear hRv hl9 hC9
  replace Hsl := Go.Lib.hid (And.intro Hsl.out.1 (Kd.C_below Hsl.out.2 hB))
  replace Ht := Go.Lib.hid (And.intro Ht.out.1 (Kd.C_below Ht.out.2 hB))
  replace Hr := Go.Lib.hid (And.intro Hr.out.1 (Kd.C_below Hr.out.2 hB))
  replace HA := Go.Lib.hid (HA.out.later hB)
  have k0 := HA.out.k0
  have k1 := HA.out.k1
  have k2 := HA.out.k2
  clear hB
  clear HAll
  have ehf := HP.out.1
  subst ehf
  have hal := HNe.out.2 (by simp)
  have g4 : 0 < al.length := List.length_pos_iff.2 hal
  have g4b : (al = []) = False := eq_false hal
  have g4c : decide ((al.length : Int) = 0) = false := decide_eq_false (by omega)
  have g4d : ((al.length : Int) == 0) = false := by rw [beq_eq_false_iff_ne]; omega
  clear hal
  go_wp2_with fail
  clear k0 k1 k2
  have h20 : sl.length ≤ 20 := by omega
  go_loopw [22, 23] (fun y i wr => ∃ k : Nat, k ≤ sl.length ∧ i = .int .i64 k ∧ (∃ yb, y = .bool yb ∧ Hid (risTo sl ((S.length : Int) - 1) k = yb)) ∧ Hid (MyI w A0 c0 F A1 c1 S A2 c2 T A5 c5 sl At ct t Ar cr r Al cl al wr)) (fun _ i _ => sl.length - (intOf i).toNat)
  case atStart => exact ⟨0, Nat.zero_le _, rfl, ⟨true, rfl, rfl⟩, HA.out, Hsl.out.2, Hsl.out.1, Ht.out.2, Ht.out.1, Hr.out.2, Hr.out.1, Hl.out.2, Hl.out.1⟩
  obtain ⟨k, hk, rfl, ⟨yb, rfl, HYb⟩, HI⟩ := hrel
  clear HA Hsl Ht Hr Hl
  have k0 := HI.out.a.k0
  have k1 := HI.out.a.k1
  have k2 := HI.out.a.k2
  by_cases hlt : k < sl.length
  ·
   have hst := risTo_step sl ((S.length : Int) - 1) k
   rw [HYb.out] at hst
   cases yb with
   | false =>
    rw [Bool.false_and] at hst
    have HSt := Go.Lib.hid hst
    clear hst
    go_wp2_with fail
    go_quiet (fail)
    go_wp2_with fail
    go_roundw
    case rel => exact ⟨k + 1, by omega, by first | (simp; done) | (simp; omega), ⟨false, by simp, HSt.out⟩, HI.out.later (by repeat (first | exact Below.refl _ _ | refine pw_below_drewN ?_ _))⟩
    case measure => simp [intOf]; omega
   | true =>
    rw [Bool.true_and] at hst
    obtain ⟨ax, eax, hx⟩ := Kd.at_int HI.out.hs (k : Int) (by omega) (by omega)
    rw [Int.toNat_natCast] at hx
    rw [rd_nat] at hx
    have hprev : 0 < k → ∃ p, sl.getD (k - 1) 0 = p ∧ wr.cell? (ax.add (k - 1)) = some (.int .i64 p) := fun h => by
     obtain ⟨ay, eay, hy⟩ := Kd.at_int HI.out.hs ((k - 1 : Nat) : Int) (by omega) (by omega)
     rw [Int.toNat_natCast, rd_nat] at hy
     rw [eax] at eay
     injection eay with eay
     subst eay
     exact ⟨_, rfl, hy⟩
    obtain ⟨x, ex⟩ : ∃ x, sl.getD k 0 = x := ⟨_, rfl⟩
    rw [ex] at hx
    have hra : risAt sl 0 ((S.length : Int) - 1) k = (decide (0 ≤ x) && decide (x < (S.length : Int)) && (decide (k = 0) || decide (sl.getD (k - 1) 0 < x))) := by
     unfold risAt inB
     rw [ex]
     congr 2
     exact decide_eq_decide.2 ⟨fun h => by omega, fun h => by omega⟩
    rw [hra] at hst
    cases eax
    clear hra ex
    by_cases c1' : x ≥ 0
    rotate_left
    ·
     have e1 : decide (x ≥ 0) = false := decide_eq_false c1'
     rw [decide_eq_false (show ¬ 0 ≤ x by omega)] at hst
     have HSt := Go.Lib.hid hst
     clear hst hprev
     go_wp2_with fail
     go_quiet (fail)
     go_wp2_with fail
     go_roundw
     case rel => exact ⟨k + 1, by omega, by first | (simp; done) | (simp; omega), ⟨false, by simp, by rw [HSt.out]; rfl⟩, HI.out.later (by repeat (first | exact Below.refl _ _ | refine pw_below_drewN ?_ _))⟩
     case measure => simp [intOf]; omega
    have e1 : decide (x ≥ 0) = true := decide_eq_true c1'
    rw [decide_eq_true (show 0 ≤ x by omega), Bool.true_and] at hst
    by_cases c2' : x < (S.length : Int)
    rotate_left
    ·
     have e2 : decide (x < (S.length : Int)) = false := decide_eq_false c2'
     rw [e2] at hst
     have HSt := Go.Lib.hid hst
     clear hst hprev
     go_wp2_with fail
     go_quiet (fail)
     go_wp2_with fail
     go_roundw
     case rel => exact ⟨k + 1, by omega, by first | (simp; done) | (simp; omega), ⟨false, by simp, by rw [HSt.out]; rfl⟩, HI.out.later (by repeat (first | exact Below.refl _ _ | refine pw_below_drewN ?_ _))⟩
     case measure => simp [intOf]; omega
    have e2 : decide (x < (S.length : Int)) = true := decide_eq_true c2'
    rw [e2, Bool.true_and] at hst
    by_cases c3' : k = 0
    ·
     have e3 : ((k : Int) == 0) = true := by rw [beq_iff_eq]; omega
     have e3b : decide ((k : Int) = 0) = true := decide_eq_true (by omega)
     rw [decide_eq_true c3', Bool.true_or] at hst
     have hx0 := hx
     rw [c3', Addr.add_zero'] at hx0
     have c30 : 0 < sl.length := by omega
     have HSt := Go.Lib.hid hst
     clear hst hprev
     go_wp2_with fail
     go_quiet (fail)
     go_wp2_with fail
     go_roundw
     case rel => exact ⟨k + 1, by omega, by first | (simp; done) | (simp; omega), ⟨true, by simp, HSt.out⟩, HI.out.later (by repeat (first | exact Below.refl _ _ | refine pw_below_drewN ?_ _))⟩
     case measure => simp [intOf]; omega
    have e3 : ((k : Int) == 0) = false := by rw [beq_eq_false_iff_ne]; omega
    have e3b : decide ((k : Int) = 0) = false := decide_eq_false (by omega)
    obtain ⟨p, ep, hp⟩ := hprev (by omega)
    rw [decide_eq_false c3', Bool.false_or, ep] at hst
    have s1' : IntKind.i64.wrap ((k : Int) - 1) = (k : Int) - 1 := (YtkmmihadcbfkoaaW.PrintLast.i64_w _).trans (wrap_pm (i := (k : Int)) (by omega) (by omega)).2
    have s2' : ((k : Int) - 1).toNat = k - 1 := by omega
    have s3' : (0 ≤ (k : Int) - 1) = True := eq_true (by omega)
    have s4' : ((k : Int) - 1 < (sl.length : Int)) = True := eq_true (by omega)
    have s5' : k - 1 < sl.length := by omega
    clear hprev ep
    by_cases c4' : x > p
    ·
     have e4 : decide (x > p) = true := decide_eq_true c4'
     rw [decide_eq_true (show p < x by omega)] at hst
     have HSt := Go.Lib.hid hst
     clear hst
     go_wp2_with fail
     go_quiet (fail)
     go_wp2_with fail
     go_roundw
     case rel => exact ⟨k + 1, by omega, by first | (simp; done) | (simp; omega), ⟨true, by simp, HSt.out⟩, HI.out.later (by repeat (first | exact Below.refl _ _ | refine pw_below_drewN ?_ _))⟩
     case measure => simp [intOf]; omega
    have e4 : decide (x > p) = false := decide_eq_false c4'
    rw [decide_eq_false (show ¬ p < x by omega)] at hst
    have HSt := Go.Lib.hid hst
    clear hst
    go_wp2_with fail
    go_quiet (fail)
    go_wp2_with fail
    go_roundw
    case rel => exact ⟨k + 1, by omega, by first | (simp; done) | (simp; omega), ⟨false, by simp, HSt.out⟩, HI.out.later (by repeat (first | exact Below.refl _ _ | refine pw_below_drewN ?_ _))⟩
    case measure => simp [intOf]; omega
  obtain rfl : k = sl.length := by omega
  have HR : Hid (risB sl 0 ((S.length : Int) - 1) = yb) := Go.Lib.hid HYb.out
  clear HYb hk hlt h20
  by_cases f1 : find < 0
  ·
   have d1 : decide (find < 0) = true := decide_eq_true f1
   obtain ⟨rfl, rfl, rfl, rfl, rfl⟩ := HMy.out.1 (by omega)
   obtain ⟨rfl, rfl⟩ := HW.out.1 (Or.inl (by omega))
   have CC := matched_walk wr
   go_wp2_with fail
   clear k0 k1 k2
   refine CC.mono ?_
   clear CC
   rintro e wz ⟨rfl, hB⟩
   replace HI := Go.Lib.hid (HI.out.later hB)
   have k0 := HI.out.a.k0
   have k1 := HI.out.a.k1
   have k2 := HI.out.a.k2
   clear hB
   go_wp2_with fail
   go_ret
   exact ⟨rfl, HI.out.a.B⟩
  have d1 : decide (find < 0) = false := decide_eq_false f1
  by_cases f2 : find ≥ (F.length : Int)
  ·
   have d2 : decide (find ≥ (F.length : Int)) = true := decide_eq_true f2
   obtain ⟨rfl, rfl, rfl, rfl, rfl⟩ := HMy.out.1 (by omega)
   obtain ⟨rfl, rfl⟩ := HW.out.1 (Or.inl (by omega))
   have CC := matched_walk wr
   go_wp2_with fail
   clear k0 k1 k2
   refine CC.mono ?_
   clear CC
   rintro e wz ⟨rfl, hB⟩
   replace HI := Go.Lib.hid (HI.out.later hB)
   have k0 := HI.out.a.k0
   have k1 := HI.out.a.k1
   have k2 := HI.out.a.k2
   clear hB
   go_wp2_with fail
   go_ret
   exact ⟨rfl, HI.out.a.B⟩
  have d2 : decide (find ≥ (F.length : Int)) = false := decide_eq_false f2
  have hfa : 0 ≤ find ∧ find < (F.length : Int) := by omega
  cases yb with
  | false =>
   by_cases s1 : slot < 0
   ·
    have d3 : decide (slot < 0) = true := decide_eq_true s1
    obtain ⟨rfl, rfl⟩ := HW.out.1 (Or.inr HR.out)
    obtain ⟨rfl, rfl, rfl, rfl, rfl⟩ := HMy.out.1 (by omega)
    have CC := matched_walk wr
    go_wp2_with fail
    clear k0 k1 k2
    refine CC.mono ?_
    clear CC
    rintro e wz ⟨rfl, hB⟩
    replace HI := Go.Lib.hid (HI.out.later hB)
    have k0 := HI.out.a.k0
    have k1 := HI.out.a.k1
    have k2 := HI.out.a.k2
    clear hB
    go_wp2_with fail
    go_ret
    exact ⟨rfl, HI.out.a.B⟩
   have d3 : decide (slot < 0) = false := decide_eq_false s1
   by_cases s2 : slot ≥ (S.length : Int)
   ·
    have d4 : decide (slot ≥ (S.length : Int)) = true := decide_eq_true s2
    obtain ⟨rfl, rfl⟩ := HW.out.1 (Or.inr HR.out)
    obtain ⟨rfl, rfl, rfl, rfl, rfl⟩ := HMy.out.1 (by omega)
    have CC := matched_walk wr
    go_wp2_with fail
    clear k0 k1 k2
    refine CC.mono ?_
    clear CC
    rintro e wz ⟨rfl, hB⟩
    replace HI := Go.Lib.hid (HI.out.later hB)
    have k0 := HI.out.a.k0
    have k1 := HI.out.a.k1
    have k2 := HI.out.a.k2
    clear hB
    go_wp2_with fail
    go_ret
    exact ⟨rfl, HI.out.a.B⟩
   have d4 : decide (slot ≥ (S.length : Int)) = false := decide_eq_false s2
   have hargs : 0 ≤ find ∧ find < (F.length : Int) ∧ 0 ≤ slot ∧ slot < (S.length : Int) := by omega
   obtain ⟨rfl, rfl⟩ := HW.out.1 (Or.inr HR.out)
   obtain ⟨rfl, rfl, hsh⟩ := HMy.out.2.2 hargs (by simp)
   obtain ⟨⟨KC, hKC⟩, hchl⟩ := HGood.out.1 (by simp)
   have HKC := Go.Lib.hid hKC
   have hsm := HGood.out.2 (by simp) hfa hargs.2.2.1 hsh
   have hak := HC.out.2.2.2.2.2.1.2 hargs
   obtain ⟨fn, rfl⟩ : ∃ fn : Nat, find = (fn : Int) := ⟨find.toNat, by omega⟩
   have hff := hfa.2
   have d2c : decide (F.length ≤ fn) = false := decide_eq_false (by omega)
   rw [Int.toNat_natCast] at hsm hsh
   obtain ⟨row, erow⟩ : ∃ row, ch.getD fn [] = row := ⟨_, rfl⟩
   rw [erow] at hsm
   have HRow := Go.Lib.hid erow
   have qa : (0 ≤ (fn : Int)) = True := eq_true (by omega)
   have qb : ((fn : Int) < (ch.length : Int)) = True := eq_true (by omega)
   have qc : fn < ch.length := by omega
   have HSome := Go.Lib.hid hsm
   have HSh := Go.Lib.hid hsh
   have HAsk := Go.Lib.hid hak
   clear erow hKC hsm hsh hak HW HMy HGood
   have CC := laganref04_Chances.calls KC A0 c0 F A1 c1 S A2 c2 T _ cl al _ wr HI.out.a.C0 HI.out.a.l0 HI.out.a.C1 HI.out.a.l1 HI.out.a.C2 HI.out.a.l2 HI.out.hl HI.out.ll HKC.out
   go_wp2_with fail
   clear k0 k1 k2
   refine CC.mono ?_
   clear CC
   rintro e u1 ⟨v, rfl, hRv, hB⟩
   obtain ⟨Ax, cx, rfl, hl9, hC9⟩ := Kd.R_reads (Kd.S_R hRv)
   obtain ⟨ad, Aw, cw, ead, hcell, hlw, hCw⟩ := rows_at hC9 (fn : Int) (by omega) (by omega)
   rw [Int.toNat_natCast] at hcell hlw hCw
   rw [HRow.out] at hcell hlw hCw
   have HRw := Go.Lib.hid (And.intro hlw hCw)
   clear hRv hl9 hC9 hlw hCw
   cases ead
   replace HI := Go.Lib.hid (HI.out.later hB)
   have k0 := HI.out.a.k0
   have k1 := HI.out.a.k1
   have k2 := HI.out.a.k2
   clear hB
   obtain ⟨KH, hKH⟩ := has_is row slot HRw.out.2.2.1
   have hh := hKH KH (Nat.le_refl _)
   rw [HSome.out] at hh
   have HHas := Go.Lib.hid hh
   clear hKH hh
   have CC := laganref04_Has.calls KH Aw cw row slot may u1 HRw.out.2 HRw.out.1 HHas.out
   go_wp2_with fail
   clear k0 k1 k2
   refine CC.mono ?_
   clear CC
   rintro e u2 ⟨rfl, hd⟩
   have hB := hd.below
   clear hd
   replace HI := Go.Lib.hid (HI.out.later hB)
   have k0 := HI.out.a.k0
   have k1 := HI.out.a.k1
   have k2 := HI.out.a.k2
   clear hB
   clear HHas hcell HRw
   obtain ⟨okb, hokb⟩ : ∃ okb, meetsB F S T t = okb := ⟨_, rfl⟩
   obtain ⟨KM, hKM⟩ := refmeets_is HS.out.1 HS.out.2.1 HS.out.2.2.1 HS.out.2.2.2 t
   have hm := hKM KM (Nat.le_refl _)
   rw [if_neg (show ¬ checkB F S T ≠ 0 from fun h => h HC.out.1), hokb] at hm
   have HM := Go.Lib.hid hm
   have HOk := Go.Lib.hid hokb
   clear hKM hm hokb
   have CC := laganref04_Meets.calls KM A0 c0 F A1 c1 S A2 c2 T At ct t _ _ u2 HI.out.a.C0 HI.out.a.l0 HI.out.a.C1 HI.out.a.l1 HI.out.a.C2 HI.out.a.l2 HI.out.ht HI.out.lt HM.out
   go_wp2_with fail
   clear k0 k1 k2
   refine CC.mono ?_
   clear CC
   rintro e u3 ⟨rfl, hB⟩
   replace HI := Go.Lib.hid (HI.out.later hB)
   have k0 := HI.out.a.k0
   have k1 := HI.out.a.k1
   have k2 := HI.out.a.k2
   clear hB
   obtain ⟨db, hdb⟩ : ∃ db, (refuseP F S T (fn : Int) slot r).1 = db := ⟨_, rfl⟩
   obtain ⟨KR, hKR⟩ := refrefuse_is HS.out.1 HS.out.2.1 HS.out.2.2.1 HS.out.2.2.2 (fn : Int) slot r (shown_len HAsk.out HSh.out)
   have hm := hKR KR (Nat.le_refl _)
   rw [refuseP_err HAsk.out, hdb] at hm
   have HM2 := Go.Lib.hid hm
   have HDb := Go.Lib.hid hdb
   clear hKR hm hdb
   have CC := laganref04_CheckRefuse.calls KR A0 c0 F A1 c1 S A2 c2 T (fn : Int) slot Ar cr r _ _ u3 HI.out.a.C0 HI.out.a.l0 HI.out.a.C1 HI.out.a.l1 HI.out.a.C2 HI.out.a.l2 HI.out.hr HI.out.lr HM2.out
   go_wp2_with fail
   clear k0 k1 k2
   refine CC.mono ?_
   clear CC
   rintro e u4 ⟨rfl, hB⟩
   replace HI := Go.Lib.hid (HI.out.later hB)
   have k0 := HI.out.a.k0
   have k1 := HI.out.a.k1
   have k2 := HI.out.a.k2
   clear hB
   clear HM HM2
   have CC := matched_walk u4
   go_wp2_with fail
   clear k0 k1 k2
   refine CC.mono ?_
   clear CC
   rintro e u5 ⟨rfl, hB⟩
   replace HI := Go.Lib.hid (HI.out.later hB)
   have k0 := HI.out.a.k0
   have k1 := HI.out.a.k1
   have k2 := HI.out.a.k2
   clear hB
   cases may with
   | true =>
    obtain ⟨ha, hts, hr0⟩ := HSh.out.yes rfl
    have hok := HOk.out
    rw [(HC.out.2.2.2.2.1 t).2 ha] at hok
    subst hok
    have htl := HC.out.2.2.2.1 t ha
    have hpt : (fn : Int) < (t.length : Int) := by rw [htl]; exact hff
    obtain ⟨at9, eat, hx⟩ := Kd.at_int HI.out.ht (fn : Int) (by omega) hpt
    rw [Int.toNat_natCast] at hx
    rw [rd_nat, hts] at hx
    cases eat
    subst hr0
    have q5 : fn < t.length := by omega
    clear ha hts htl HOk
    go_wp2_with fail
    go_ret
    exact ⟨rfl, HI.out.a.B⟩
   | false =>
    obtain ⟨ht0, hde⟩ := HSh.out.no rfl
    have hdb := HDb.out
    rw [hde] at hdb
    subst hdb
    subst ht0
    clear hde
    go_wp2_with fail
    go_ret
    exact ⟨rfl, HI.out.a.B⟩
  | true =>
   exact absurd ⟨hfa.1, hfa.2, HR.out⟩ HP.out.2
end Go.Proofs.Ytkmmihadcbfkoaa
end

section
namespace Go.Proofs.Ytkmmihadcbfkoaa
open Go.RowKit Go.Proofs.YtkmmihadcbfkoaaW.PrintWords PM
set_option linter.unusedVariables false
set_option linter.unusedSimpArgs false
set_option maxRecDepth 100000 in
set_option maxHeartbeats 8000000 in
theorem may_walk3 (A0 : Option Addr) (c0 : Nat) (F : List Int) (A1 : Option Addr) (c1 : Nat) (S : List S50) (A2 : Option Addr) (c2 : Nat) (T : List (List Int)) (find : Int) (slot : Int) (A5 : Option Addr) (c5 : Nat) (sl : List Int) (w : World)
  (hr0 : Kd.C (Kd.int .i64) w A0 F.length F) (hc0 : F.length ≤ c0) (hr1 : Kd.C k50 w A1 S.length S) (hc1 : S.length ≤ c1) (hr2 : Kd.C (Kd.slice 3 (Kd.int .i64)) w A2 T.length T) (hc2 : T.length ≤ c2) (hr5 : Kd.C (Kd.int .i64) w A5 sl.length sl) (hc5 : sl.length ≤ c5) (hP : checkB F S T = 0 → isF F S T = true ∧ 0 ≤ find ∧ find < (F.length : Int) ∧ risB sl 0 ((S.length : Int) - 1) = true ∧ ¬ (0 ≤ slot ∧ slot < (S.length : Int))) :
  Calls Try.prog 5 #[.agg #[.slice A0 F.length c0, .slice A1 S.length c1, .slice A2 T.length c2], .int .i64 find, .int .i64 slot, .slice A5 sl.length c5] w fun e w' => e = .returned (.bool true) ∧ Below w.heap.size w w' := by
 have HA := Go.Lib.hid (LAt.start hr0 hc0 hr1 hc1 hr2 hc2)
 have hB0 := (Below.refl w.heap.size w).alloc (Nat.le_refl _) (.cells #[.slice A0 F.length c0, .slice A1 S.length c1, .slice A2 T.length c2] 26)
 have Hsl := Go.Lib.hid (And.intro hc5 (Kd.C_below hr5 hB0))
 have l5 := hr5.2.1
 have HS := Go.Lib.hid (And.intro hr0.2.1 (And.intro hr1.2.1 (And.intro hr2.2.1 HA.out.rows)))
 clear hr0 hc0 hr1 hc1 hr2 hc2 hB0 hr5 hc5
 obtain ⟨b, hK, hb⟩ := few_is F S T HS.out.2.2.1
 obtain ⟨K, hK⟩ := hK
 have HK := Go.Lib.hid (hK K (Nat.le_refl _))
 have HFew := Go.Lib.hid hb
 clear hK hb
 go_enter Try.func5, Try.ntmps5
 have k0 := HA.out.k0
 have k1 := HA.out.k1
 have k2 := HA.out.k2
 have CC := laganlaw04_few.calls K A0 c0 F A1 c1 S A2 c2 T b _ HA.out.C0 HA.out.l0 HA.out.C1 HA.out.l1 HA.out.C2 HA.out.l2 HK.out
 go_wp2_with fail
 clear k0 k1 k2
 refine CC.mono ?_
 clear CC
 rintro e w1 ⟨rfl, hB⟩
 replace Hsl := Go.Lib.hid (And.intro Hsl.out.1 (Kd.C_below Hsl.out.2 hB))
 replace HA := Go.Lib.hid (HA.out.later hB)
 have k0 := HA.out.k0
 have k1 := HA.out.k1
 have k2 := HA.out.k2
 clear hB
 clear HK
 cases b with
 | false =>
  have CC := matched_walk w1
  go_wp2_with fail
  clear k0 k1 k2
  refine CC.mono ?_
  clear CC
  rintro e w2 ⟨rfl, hB⟩
  replace Hsl := Go.Lib.hid (And.intro Hsl.out.1 (Kd.C_below Hsl.out.2 hB))
  replace HA := Go.Lib.hid (HA.out.later hB)
  have k0 := HA.out.k0
  have k1 := HA.out.k1
  have k2 := HA.out.k2
  clear hB
  go_wp2_with fail
  go_ret
  exact ⟨rfl, HA.out.B⟩
 | true =>
  by_cases h3 : (sl.length : Int) > 20
  ·
   have g3 : decide ((sl.length : Int) > 20) = true := decide_eq_true h3
   have CC := matched_walk w1
   go_wp2_with fail
   clear k0 k1 k2
   refine CC.mono ?_
   clear CC
   rintro e w2 ⟨rfl, hB⟩
   replace Hsl := Go.Lib.hid (And.intro Hsl.out.1 (Kd.C_below Hsl.out.2 hB))
   replace HA := Go.Lib.hid (HA.out.later hB)
   have k0 := HA.out.k0
   have k1 := HA.out.k1
   have k2 := HA.out.k2
   clear hB
   go_wp2_with fail
   go_ret
   exact ⟨rfl, HA.out.B⟩
  have g3 : decide ((sl.length : Int) > 20) = false := decide_eq_false h3
  obtain ⟨KB, hKB⟩ := refcheck_is F S T HS.out.1 HS.out.2.1 HS.out.2.2.1 HS.out.2.2.2
  have HCb := Go.Lib.hid (hKB KB (Nat.le_refl _))
  clear hKB
  by_cases hc : checkB F S T = 0
  rotate_left
  ·
   obtain ⟨h1, h2, h3', h4⟩ := may_bad hc find slot sl
   obtain ⟨q, hq⟩ : ∃ q, checkB F S T = q := ⟨_, rfl⟩
   rw [hq] at hc h1 h2 h3' h4 HCb
   have HMa := Go.Lib.hid h1
   have HTh := Go.Lib.hid h2
   have HRe := Go.Lib.hid h3'
   have HWi := Go.Lib.hid h4
   clear h1 h2 h3' h4 hq
   have CC := match_May.calls A0 c0 F A1 c1 S A2 c2 T find slot _ _ w1 HA.out.C0 HA.out.l0 HA.out.C1 HA.out.l1 HA.out.C2 HA.out.l2 HMa.out
   go_wp2_with fail
   clear k0 k1 k2
   refine CC.mono ?_
   clear CC
   rintro e w2 ⟨rfl, hB⟩
   replace Hsl := Go.Lib.hid (And.intro Hsl.out.1 (Kd.C_below Hsl.out.2 hB))
   replace HA := Go.Lib.hid (HA.out.later hB)
   have k0 := HA.out.k0
   have k1 := HA.out.k1
   have k2 := HA.out.k2
   clear hB
   have CC := match_Through.calls A0 c0 F A1 c1 S A2 c2 T find slot _ _ _ w2 HA.out.C0 HA.out.l0 HA.out.C1 HA.out.l1 HA.out.C2 HA.out.l2 HTh.out
   go_wp2_with fail
   clear k0 k1 k2
   refine CC.mono ?_
   clear CC
   rintro e w3 ⟨v, rfl, hRv, hB⟩
   obtain ⟨At, ct, rfl, hl9, hC9⟩ := Kd.R_reads hRv
   have Ht := Go.Lib.hid (And.intro hl9 hC9)
   clear hRv hl9 hC9
   replace Hsl := Go.Lib.hid (And.intro Hsl.out.1 (Kd.C_below Hsl.out.2 hB))
   replace HA := Go.Lib.hid (HA.out.later hB)
   have k0 := HA.out.k0
   have k1 := HA.out.k1
   have k2 := HA.out.k2
   clear hB
   have CC := match_Refuse.calls A0 c0 F A1 c1 S A2 c2 T find slot _ _ _ w3 HA.out.C0 HA.out.l0 HA.out.C1 HA.out.l1 HA.out.C2 HA.out.l2 HRe.out
   go_wp2_with fail
   clear k0 k1 k2
   refine CC.mono ?_
   clear CC
   rintro e w4 ⟨v, rfl, hRv, hB⟩
   obtain ⟨Ar, cr, rfl, hl9, hC9⟩ := Kd.R_reads hRv
   have Hr := Go.Lib.hid (And.intro hl9 hC9)
   clear hRv hl9 hC9
   replace Hsl := Go.Lib.hid (And.intro Hsl.out.1 (Kd.C_below Hsl.out.2 hB))
   replace Ht := Go.Lib.hid (And.intro Ht.out.1 (Kd.C_below Ht.out.2 hB))
   replace HA := Go.Lib.hid (HA.out.later hB)
   have k0 := HA.out.k0
   have k1 := HA.out.k1
   have k2 := HA.out.k2
   clear hB
   have CC := within_calls A0 c0 F A1 c1 S A2 c2 T find A5 c5 sl w4 HA.out.C0 HA.out.l0 HA.out.C1 HA.out.l1 HA.out.C2 HA.out.l2 Hsl.out.2 Hsl.out.1
   rw [HWi.out] at CC
   go_wp2_with fail
   clear k0 k1 k2
   refine CC.mono ?_
   clear CC
   rintro e w5 ⟨rfl, hB⟩
   replace Hsl := Go.Lib.hid (And.intro Hsl.out.1 (Kd.C_below Hsl.out.2 hB))
   replace Ht := Go.Lib.hid (And.intro Ht.out.1 (Kd.C_below Ht.out.2 hB))
   replace Hr := Go.Lib.hid (And.intro Hr.out.1 (Kd.C_below Hr.out.2 hB))
   replace HA := Go.Lib.hid (HA.out.later hB)
   have k0 := HA.out.k0
   have k1 := HA.out.k1
   have k2 := HA.out.k2
   clear hB
   have CC := laganref04_CheckBoard.calls KB A0 c0 F A1 c1 S A2 c2 T _ w5 HA.out.C0 HA.out.l0 HA.out.C1 HA.out.l1 HA.out.C2 HA.out.l2 HCb.out
   go_wp2_with fail
   clear k0 k1 k2
   refine CC.mono ?_
   clear CC
   rintro e w6 ⟨rfl, hB⟩
   replace Hsl := Go.Lib.hid (And.intro Hsl.out.1 (Kd.C_below Hsl.out.2 hB))
   replace Ht := Go.Lib.hid (And.intro Ht.out.1 (Kd.C_below Ht.out.2 hB))
   replace Hr := Go.Lib.hid (And.intro Hr.out.1 (Kd.C_below Hr.out.2 hB))
   replace HA := Go.Lib.hid (HA.out.later hB)
   have k0 := HA.out.k0
   have k1 := HA.out.k1
   have k2 := HA.out.k2
   clear hB
   clear HMa HTh HRe HWi HCb
   have g5 : decide (q = 0) = false := decide_eq_false hc
   have CC := matched_walk w6
   go_wp2_with fail
   clear k0 k1 k2
   refine CC.mono ?_
   clear CC
   rintro e w7 ⟨rfl, hB⟩
   replace Hsl := Go.Lib.hid (And.intro Hsl.out.1 (Kd.C_below Hsl.out.2 hB))
   replace Ht := Go.Lib.hid (And.intro Ht.out.1 (Kd.C_below Ht.out.2 hB))
   replace Hr := Go.Lib.hid (And.intro Hr.out.1 (Kd.C_below Hr.out.2 hB))
   replace HA := Go.Lib.hid (HA.out.later hB)
   have k0 := HA.out.k0
   have k1 := HA.out.k1
   have k2 := HA.out.k2
   clear hB
   go_wp2_with fail
   go_ret
   exact ⟨rfl, HA.out.B⟩
  rw [hc] at HCb
  have hP := hP hc
  obtain ⟨hT6, hall, hlen, KA, hKA⟩ := all_ref hc (HFew.out rfl).1 (HFew.out rfl).2
  obtain ⟨may, no, t, r, ea, hMy⟩ := may_is hc find slot
  obtain ⟨inn, ew, hw0, hw1, hw2, hw3⟩ := within_is hc find sl
  have hne := allB_ne hc
  have hs200 := (bok_of_check hc).ns
  have hf60 := (bok_of_check hc).nf
  have hgood : isF F S T = true → (∃ KC, laganref04_Chances.f KC F S T (allB S T) = some (allChances F S T)) ∧ (allChances F S T).length = F.length := fun his => by
   obtain ⟨KC, hKC⟩ := refchances_is (F := F) (S := S) (T := T) (allB S T) (by omega) hs200 hf60 hlen
   have hch := hKC KC (Nat.le_refl _)
   rw [refall_chances hc his] at hch
   exact ⟨⟨KC, hch⟩, (chances_small hc).1⟩
  have hmem : isF F S T = true → 0 ≤ find ∧ find < (F.length : Int) → 0 ≤ slot → Shown F S T find.toNat slot t r may → decide (slot ∈ (allChances F S T).getD find.toNat []) = may := fun his hf h0 h => may_mem hc his (by omega) h0 h
  have hasg : ∀ x, AsgB S T x → (x.length : Int) = F.length := fun x hx => by rw [hx.len, (bok_of_check hc).nt]
  have hmeets : ∀ x, meetsB F S T x = true ↔ AsgB S T x := meets_iff hc
  have hask := ask_two hc find slot
  obtain ⟨his, ehis⟩ : ∃ his, isF F S T = his := ⟨_, rfl⟩
  rw [ehis] at hMy hw2 hw3 hne hgood hmem hP
  have HP := Go.Lib.hid hP
  obtain ⟨ch, ech⟩ : ∃ ch, allChances F S T = ch := ⟨_, rfl⟩
  rw [ech] at hw3 hgood hmem
  obtain ⟨al, eal⟩ : ∃ al, allB S T = al := ⟨_, rfl⟩
  rw [eal] at hne hgood
  rw [eal] at hKA
  have HAll := Go.Lib.hid hKA
  have HMa := Go.Lib.hid hMy.may_
  have HTh := Go.Lib.hid hMy.through
  have HRe := Go.Lib.hid hMy.refuse
  have HWi := Go.Lib.hid hw0
  have HMy := Go.Lib.hid (And.intro hMy.out (And.intro hMy.none hMy.some))
  have HW := Go.Lib.hid (And.intro hw1 (And.intro hw2 hw3))
  have HNe := Go.Lib.hid hne
  have HGood := Go.Lib.hid (And.intro hgood hmem)
  have HC := Go.Lib.hid (And.intro hc (And.intro hs200 (And.intro hf60 (And.intro hasg (And.intro hmeets hask)))))
  clear hP hT6 hall hlen hKA hMy hw0 hw1 hw2 hw3 hne hgood hmem hasg hmeets hask hs200 hf60 hc ehis ech eal HFew
  have CC := match_May.calls A0 c0 F A1 c1 S A2 c2 T find slot _ _ w1 HA.out.C0 HA.out.l0 HA.out.C1 HA.out.l1 HA.out.C2 HA.out.l2 HMa.out
  go_wp2_with fail
  clear k0 k1 k2
  refine CC.mono ?_
  clear CC
  rintro e w2 ⟨rfl, hB⟩
  replace Hsl := Go.Lib.hid (And.intro Hsl.out.1 (Kd.C_below Hsl.out.2 hB))
  replace HA := Go.Lib.hid (HA.out.later hB)
  have k0 := HA.out.k0
  have k1 := HA.out.k1
  have k2 := HA.out.k2
  clear hB
  have CC := match_Through.calls A0 c0 F A1 c1 S A2 c2 T find slot _ _ _ w2 HA.out.C0 HA.out.l0 HA.out.C1 HA.out.l1 HA.out.C2 HA.out.l2 HTh.out
  go_wp2_with fail
  clear k0 k1 k2
  refine CC.mono ?_
  clear CC
  rintro e w3 ⟨v, rfl, hRv, hB⟩
  obtain ⟨At, ct, rfl, hl9, hC9⟩ := Kd.R_reads hRv
  have Ht := Go.Lib.hid (And.intro hl9 hC9)
  clear hRv hl9 hC9
  replace Hsl := Go.Lib.hid (And.intro Hsl.out.1 (Kd.C_below Hsl.out.2 hB))
  replace HA := Go.Lib.hid (HA.out.later hB)
  have k0 := HA.out.k0
  have k1 := HA.out.k1
  have k2 := HA.out.k2
  clear hB
  have CC := match_Refuse.calls A0 c0 F A1 c1 S A2 c2 T find slot _ _ _ w3 HA.out.C0 HA.out.l0 HA.out.C1 HA.out.l1 HA.out.C2 HA.out.l2 HRe.out
  go_wp2_with fail
  clear k0 k1 k2
  refine CC.mono ?_
  clear CC
  rintro e w4 ⟨v, rfl, hRv, hB⟩
  obtain ⟨Ar, cr, rfl, hl9, hC9⟩ := Kd.R_reads hRv
  have Hr := Go.Lib.hid (And.intro hl9 hC9)
  clear hRv hl9 hC9
  replace Hsl := Go.Lib.hid (And.intro Hsl.out.1 (Kd.C_below Hsl.out.2 hB))
  replace Ht := Go.Lib.hid (And.intro Ht.out.1 (Kd.C_below Ht.out.2 hB))
  replace HA := Go.Lib.hid (HA.out.later hB)
  have k0 := HA.out.k0
  have k1 := HA.out.k1
  have k2 := HA.out.k2
  clear hB
  have CC := within_calls A0 c0 F A1 c1 S A2 c2 T find A5 c5 sl w4 HA.out.C0 HA.out.l0 HA.out.C1 HA.out.l1 HA.out.C2 HA.out.l2 Hsl.out.2 Hsl.out.1
  rw [HWi.out] at CC
  go_wp2_with fail
  clear k0 k1 k2
  refine CC.mono ?_
  clear CC
  rintro e w5 ⟨rfl, hB⟩
  replace Hsl := Go.Lib.hid (And.intro Hsl.out.1 (Kd.C_below Hsl.out.2 hB))
  replace Ht := Go.Lib.hid (And.intro Ht.out.1 (Kd.C_below Ht.out.2 hB))
  replace Hr := Go.Lib.hid (And.intro Hr.out.1 (Kd.C_below Hr.out.2 hB))
  replace HA := Go.Lib.hid (HA.out.later hB)
  have k0 := HA.out.k0
  have k1 := HA.out.k1
  have k2 := HA.out.k2
  clear hB
  have CC := laganref04_CheckBoard.calls KB A0 c0 F A1 c1 S A2 c2 T _ w5 HA.out.C0 HA.out.l0 HA.out.C1 HA.out.l1 HA.out.C2 HA.out.l2 HCb.out
  go_wp2_with fail
  clear k0 k1 k2
  refine CC.mono ?_
  clear CC
  rintro e w6 ⟨rfl, hB⟩
  replace Hsl := Go.Lib.hid (And.intro Hsl.out.1 (Kd.C_below Hsl.out.2 hB))
  replace Ht := Go.Lib.hid (And.intro Ht.out.1 (Kd.C_below Ht.out.2 hB))
  replace Hr := Go.Lib.hid (And.intro Hr.out.1 (Kd.C_below Hr.out.2 hB))
  replace HA := Go.Lib.hid (HA.out.later hB)
  have k0 := HA.out.k0
  have k1 := HA.out.k1
  have k2 := HA.out.k2
  clear hB
  clear HMa HTh HRe HWi HCb
  have CC := laganref04_All.calls KA A0 c0 F A1 c1 S A2 c2 T _ w6 HA.out.C0 HA.out.l0 HA.out.C1 HA.out.l1 HA.out.C2 HA.out.l2 HAll.out
  go_wp2_with fail
  clear k0 k1 k2
  refine CC.mono ?_
  clear CC
  rintro e w7 ⟨v, rfl, hRv, hB⟩
  obtain ⟨Al, cl, rfl, hl9, hC9⟩ := Kd.N_reads hRv
  have Hl := Go.Lib.hid (And.intro hl9 hC9)
  clear hRv hl9 hC9
  replace Hsl := Go.Lib.hid (And.intro Hsl.out.1 (Kd.C_below Hsl.out.2 hB))
  replace Ht := Go.Lib.hid (And.intro Ht.out.1 (Kd.C_below Ht.out.2 hB))
  replace Hr := Go.Lib.hid (And.intro Hr.out.1 (Kd.C_below Hr.out.2 hB))
  replace HA := Go.Lib.hid (HA.out.later hB)
  have k0 := HA.out.k0
  have k1 := HA.out.k1
  have k2 := HA.out.k2
  clear hB
  clear HAll
  have ehf := HP.out.1
  subst ehf
  have hal := HNe.out.2 (by simp)
  have g4 : 0 < al.length := List.length_pos_iff.2 hal
  have g4b : (al = []) = False := eq_false hal
  have g4c : decide ((al.length : Int) = 0) = false := decide_eq_false (by omega)
  have g4d : ((al.length : Int) == 0) = false := by rw [beq_eq_false_iff_ne]; omega
  clear hal
  go_wp2_with fail
  clear k0 k1 k2
  have h20 : sl.length ≤ 20 := by omega
  go_loopw [22, 23] (fun y i wr => ∃ k : Nat, k ≤ sl.length ∧ i = .int .i64 k ∧ (∃ yb, y = .bool yb ∧ Hid (risTo sl ((S.length : Int) - 1) k = yb)) ∧ Hid (MyI w A0 c0 F A1 c1 S A2 c2 T A5 c5 sl At ct t Ar cr r Al cl al wr)) (fun _ i _ => sl.length - (intOf i).toNat)
  case atStart => exact ⟨0, Nat.zero_le _, rfl, ⟨true, rfl, rfl⟩, HA.out, Hsl.out.2, Hsl.out.1, Ht.out.2, Ht.out.1, Hr.out.2, Hr.out.1, Hl.out.2, Hl.out.1⟩
  obtain ⟨k, hk, rfl, ⟨yb, rfl, HYb⟩, HI⟩ := hrel
  clear HA Hsl Ht Hr Hl
  have k0 := HI.out.a.k0
  have k1 := HI.out.a.k1
  have k2 := HI.out.a.k2
  by_cases hlt : k < sl.length
  ·
   have hst := risTo_step sl ((S.length : Int) - 1) k
   rw [HYb.out] at hst
   cases yb with
   | false =>
    rw [Bool.false_and] at hst
    have HSt := Go.Lib.hid hst
    clear hst
    go_wp2_with fail
    go_quiet (fail)
    go_wp2_with fail
    go_roundw
    case rel => exact ⟨k + 1, by omega, by first | (simp; done) | (simp; omega), ⟨false, by simp, HSt.out⟩, HI.out.later (by repeat (first | exact Below.refl _ _ | refine pw_below_drewN ?_ _))⟩
    case measure => simp [intOf]; omega
   | true =>
    rw [Bool.true_and] at hst
    obtain ⟨ax, eax, hx⟩ := Kd.at_int HI.out.hs (k : Int) (by omega) (by omega)
    rw [Int.toNat_natCast] at hx
    rw [rd_nat] at hx
    have hprev : 0 < k → ∃ p, sl.getD (k - 1) 0 = p ∧ wr.cell? (ax.add (k - 1)) = some (.int .i64 p) := fun h => by
     obtain ⟨ay, eay, hy⟩ := Kd.at_int HI.out.hs ((k - 1 : Nat) : Int) (by omega) (by omega)
     rw [Int.toNat_natCast, rd_nat] at hy
     rw [eax] at eay
     injection eay with eay
     subst eay
     exact ⟨_, rfl, hy⟩
    obtain ⟨x, ex⟩ : ∃ x, sl.getD k 0 = x := ⟨_, rfl⟩
    rw [ex] at hx
    have hra : risAt sl 0 ((S.length : Int) - 1) k = (decide (0 ≤ x) && decide (x < (S.length : Int)) && (decide (k = 0) || decide (sl.getD (k - 1) 0 < x))) := by
     unfold risAt inB
     rw [ex]
     congr 2
     exact decide_eq_decide.2 ⟨fun h => by omega, fun h => by omega⟩
    rw [hra] at hst
    cases eax
    clear hra ex
    by_cases c1' : x ≥ 0
    rotate_left
    ·
     have e1 : decide (x ≥ 0) = false := decide_eq_false c1'
     rw [decide_eq_false (show ¬ 0 ≤ x by omega)] at hst
     have HSt := Go.Lib.hid hst
     clear hst hprev
     go_wp2_with fail
     go_quiet (fail)
     go_wp2_with fail
     go_roundw
     case rel => exact ⟨k + 1, by omega, by first | (simp; done) | (simp; omega), ⟨false, by simp, by rw [HSt.out]; rfl⟩, HI.out.later (by repeat (first | exact Below.refl _ _ | refine pw_below_drewN ?_ _))⟩
     case measure => simp [intOf]; omega
    have e1 : decide (x ≥ 0) = true := decide_eq_true c1'
    rw [decide_eq_true (show 0 ≤ x by omega), Bool.true_and] at hst
    by_cases c2' : x < (S.length : Int)
    rotate_left
    ·
     have e2 : decide (x < (S.length : Int)) = false := decide_eq_false c2'
     rw [e2] at hst
     have HSt := Go.Lib.hid hst
     clear hst hprev
     go_wp2_with fail
     go_quiet (fail)
     go_wp2_with fail
     go_roundw
     case rel => exact ⟨k + 1, by omega, by first | (simp; done) | (simp; omega), ⟨false, by simp, by rw [HSt.out]; rfl⟩, HI.out.later (by repeat (first | exact Below.refl _ _ | refine pw_below_drewN ?_ _))⟩
     case measure => simp [intOf]; omega
    have e2 : decide (x < (S.length : Int)) = true := decide_eq_true c2'
    rw [e2, Bool.true_and] at hst
    by_cases c3' : k = 0
    ·
     have e3 : ((k : Int) == 0) = true := by rw [beq_iff_eq]; omega
     have e3b : decide ((k : Int) = 0) = true := decide_eq_true (by omega)
     rw [decide_eq_true c3', Bool.true_or] at hst
     have hx0 := hx
     rw [c3', Addr.add_zero'] at hx0
     have c30 : 0 < sl.length := by omega
     have HSt := Go.Lib.hid hst
     clear hst hprev
     go_wp2_with fail
     go_quiet (fail)
     go_wp2_with fail
     go_roundw
     case rel => exact ⟨k + 1, by omega, by first | (simp; done) | (simp; omega), ⟨true, by simp, HSt.out⟩, HI.out.later (by repeat (first | exact Below.refl _ _ | refine pw_below_drewN ?_ _))⟩
     case measure => simp [intOf]; omega
    have e3 : ((k : Int) == 0) = false := by rw [beq_eq_false_iff_ne]; omega
    have e3b : decide ((k : Int) = 0) = false := decide_eq_false (by omega)
    obtain ⟨p, ep, hp⟩ := hprev (by omega)
    rw [decide_eq_false c3', Bool.false_or, ep] at hst
    have s1' : IntKind.i64.wrap ((k : Int) - 1) = (k : Int) - 1 := (YtkmmihadcbfkoaaW.PrintLast.i64_w _).trans (wrap_pm (i := (k : Int)) (by omega) (by omega)).2
    have s2' : ((k : Int) - 1).toNat = k - 1 := by omega
    have s3' : (0 ≤ (k : Int) - 1) = True := eq_true (by omega)
    have s4' : ((k : Int) - 1 < (sl.length : Int)) = True := eq_true (by omega)
    have s5' : k - 1 < sl.length := by omega
    clear hprev ep
    by_cases c4' : x > p
    ·
     have e4 : decide (x > p) = true := decide_eq_true c4'
     rw [decide_eq_true (show p < x by omega)] at hst
     have HSt := Go.Lib.hid hst
     clear hst
     go_wp2_with fail
     go_quiet (fail)
     go_wp2_with fail
     go_roundw
     case rel => exact ⟨k + 1, by omega, by first | (simp; done) | (simp; omega), ⟨true, by simp, HSt.out⟩, HI.out.later (by repeat (first | exact Below.refl _ _ | refine pw_below_drewN ?_ _))⟩
     case measure => simp [intOf]; omega
    have e4 : decide (x > p) = false := decide_eq_false c4'
    rw [decide_eq_false (show ¬ p < x by omega)] at hst
    have HSt := Go.Lib.hid hst
    clear hst
    go_wp2_with fail
    go_quiet (fail)
    go_wp2_with fail
    go_roundw
    case rel => exact ⟨k + 1, by omega, by first | (simp; done) | (simp; omega), ⟨false, by simp, HSt.out⟩, HI.out.later (by repeat (first | exact Below.refl _ _ | refine pw_below_drewN ?_ _))⟩
    case measure => simp [intOf]; omega
  obtain rfl : k = sl.length := by omega
  have HR : Hid (risB sl 0 ((S.length : Int) - 1) = yb) := Go.Lib.hid HYb.out
  clear HYb hk hlt h20
  have hyt : yb = true := HR.out.symm.trans HP.out.2.2.2.1
  subst hyt
  by_cases f1 : find < 0
  ·
   exact absurd HP.out.2.1 (by omega)
  have d1 : decide (find < 0) = false := decide_eq_false f1
  by_cases f2 : find ≥ (F.length : Int)
  ·
   exact absurd HP.out.2.2.1 (by omega)
  have d2 : decide (find ≥ (F.length : Int)) = false := decide_eq_false f2
  have hfa : 0 ≤ find ∧ find < (F.length : Int) := by omega
  by_cases s1 : slot < 0
  ·
   have d3 : decide (slot < 0) = true := decide_eq_true s1
   obtain ⟨rfl, rfl, rfl, rfl, rfl⟩ := HMy.out.1 (by omega)
   obtain ⟨⟨KC, hKC⟩, hchl⟩ := HGood.out.1 (by simp)
   have HKC := Go.Lib.hid hKC
   obtain ⟨rfl, hin⟩ := HW.out.2.2 hfa HR.out (by simp)
   obtain ⟨fn, rfl⟩ : ∃ fn : Nat, find = (fn : Int) := ⟨find.toNat, by omega⟩
   have hff := hfa.2
   have d2c : decide (F.length ≤ fn) = false := decide_eq_false (by omega)
   rw [Int.toNat_natCast] at hin
   obtain ⟨row, erow⟩ : ∃ row, ch.getD fn [] = row := ⟨_, rfl⟩
   rw [erow] at hin
   have HRow := Go.Lib.hid erow
   have qa : (0 ≤ (fn : Int)) = True := eq_true (by omega)
   have qb : ((fn : Int) < (ch.length : Int)) = True := eq_true (by omega)
   have qc : fn < ch.length := by omega
   have HIn := Go.Lib.hid hin
   clear erow hKC hin HW HMy HGood
   have CC := laganref04_Chances.calls KC A0 c0 F A1 c1 S A2 c2 T _ cl al _ wr HI.out.a.C0 HI.out.a.l0 HI.out.a.C1 HI.out.a.l1 HI.out.a.C2 HI.out.a.l2 HI.out.hl HI.out.ll HKC.out
   go_wp2_with fail
   clear k0 k1 k2
   refine CC.mono ?_
   clear CC
   rintro e v1 ⟨v, rfl, hRv, hB⟩
   obtain ⟨Ax, cx, rfl, hl9, hC9⟩ := Kd.R_reads (Kd.S_R hRv)
   obtain ⟨ad, Aw, cw, ead, hcell, hlw, hCw⟩ := rows_at hC9 (fn : Int) (by omega) (by omega)
   rw [Int.toNat_natCast] at hcell hlw hCw
   rw [HRow.out] at hcell hlw hCw
   have HRw := Go.Lib.hid (And.intro hlw hCw)
   clear hRv hl9 hC9 hlw hCw
   cases ead
   replace HI := Go.Lib.hid (HI.out.later hB)
   have k0 := HI.out.a.k0
   have k1 := HI.out.a.k1
   have k2 := HI.out.a.k2
   clear hB
   have hin := HIn.out
   by_cases hrp : (row.length : Int) > 0
   rotate_left
   ·
    have g7 : row = [] := List.length_eq_zero_iff.1 (by omega)
    rw [decide_eq_false hrp, Bool.false_and] at hin
    subst hin
    have HRE := Go.Lib.hid g7
    have g10 : row.length = 0 := by rw [g7]; rfl
    rw [g10] at hcell
    clear hrp g7 g10 HRw
    go_wp2_with fail
    clear k0 k1 k2
    go_loopw [27, 28] (fun y i wr => i = .int .i64 0 ∧ y = .bool false ∧ Hid (MyI w A0 c0 F A1 c1 S A2 c2 T A5 c5 sl At ct ([] : List Int) Ar cr ([] : List Int) Al cl al wr)) (fun _ i _ => 0)
    case atStart => exact ⟨rfl, rfl, HI.out⟩
    clear HI hcell
    obtain ⟨rfl, rfl, HI⟩ := hrel
    have k0 := HI.out.a.k0
    have k1 := HI.out.a.k1
    have k2 := HI.out.a.k2
    have CC := matched_walk wr
    go_wp2_with fail
    clear k0 k1 k2
    refine CC.mono ?_
    clear CC
    rintro e wz ⟨rfl, hB⟩
    replace HI := Go.Lib.hid (HI.out.later hB)
    have k0 := HI.out.a.k0
    have k1 := HI.out.a.k1
    have k2 := HI.out.a.k2
    clear hB
    go_wp2_with fail
    go_ret
    exact ⟨rfl, HI.out.a.B⟩
   rw [decide_eq_true hrp, Bool.true_and] at hin
   have HIn2 := Go.Lib.hid hin
   clear hin
   have g7 : 0 < row.length := by omega
   have g8 : (row = []) = False := eq_false (fun e => by rw [e] at g7; exact absurd g7 (by simp))
   have g9 : decide ((row.length : Int) > 0) = true := decide_eq_true hrp
   have lrow := HRw.out.2.2.1
   clear hrp
   go_wp2_with fail
   clear k0 k1 k2
   go_loopw [27, 28] (fun y i wr => ∃ k : Nat, k ≤ row.length ∧ i = .int .i64 k ∧ (∃ yb, y = .bool yb ∧ Hid ((row.take k).all (fun s => decide (s ∈ sl)) = yb)) ∧ Hid (MyI w A0 c0 F A1 c1 S A2 c2 T A5 c5 sl At ct ([] : List Int) Ar cr ([] : List Int) Al cl al wr ∧ Kd.C (Kd.int .i64) wr Aw row.length row)) (fun _ i _ => row.length - (intOf i).toNat)
   case atStart => exact ⟨0, Nat.zero_le _, rfl, ⟨true, rfl, rfl⟩, HI.out, HRw.out.2⟩
   clear HI HRw hcell
   obtain ⟨k, hk, rfl, ⟨yb, rfl, HYb⟩, HI2⟩ := hrel
   by_cases hlt : k < row.length
   rotate_left
   ·
    obtain rfl : k = row.length := by omega
    have hyb := HYb.out
    rw [List.take_length] at hyb
    have hin := HIn2.out
    rw [hyb] at hin
    subst hin
    clear hyb HYb
    have HI := Go.Lib.hid HI2.out.1
    clear HI2 hk hlt
    have k0 := HI.out.a.k0
    have k1 := HI.out.a.k1
    have k2 := HI.out.a.k2
    cases inn with
    | true =>
     have CC := matched_walk wr
     go_wp2_with fail
     clear k0 k1 k2
     refine CC.mono ?_
     clear CC
     rintro e wz ⟨rfl, hB⟩
     replace HI := Go.Lib.hid (HI.out.later hB)
     have k0 := HI.out.a.k0
     have k1 := HI.out.a.k1
     have k2 := HI.out.a.k2
     clear hB
     go_wp2_with fail
     go_ret
     exact ⟨rfl, HI.out.a.B⟩
    | false =>
     have CC := matched_walk wr
     go_wp2_with fail
     clear k0 k1 k2
     refine CC.mono ?_
     clear CC
     rintro e wz ⟨rfl, hB⟩
     replace HI := Go.Lib.hid (HI.out.later hB)
     have k0 := HI.out.a.k0
     have k1 := HI.out.a.k1
     have k2 := HI.out.a.k2
     clear hB
     go_wp2_with fail
     go_ret
     exact ⟨rfl, HI.out.a.B⟩
   obtain ⟨ax, eax, hx⟩ := Kd.at_int HI2.out.2 (k : Int) (by omega) (by omega)
   rw [Int.toNat_natCast] at hx
   rw [rd_nat] at hx
   have hst := all_take_step row sl k hlt
   obtain ⟨x, ex⟩ : ∃ x, row.getD k 0 = x := ⟨_, rfl⟩
   rw [ex] at hx hst
   cases eax
   rw [HYb.out] at hst
   have HSt := Go.Lib.hid hst
   clear hst ex
   cases yb with
   | false =>
    go_wp2_with fail
    go_roundw
    case rel => exact ⟨k + 1, by omega, by simp, ⟨false, by simp, by rw [HSt.out]; rfl⟩, HI2.out⟩
    case measure => simp [intOf]; omega
   | true =>
    obtain ⟨hb, ehb⟩ : ∃ hb, decide (x ∈ sl) = hb := ⟨_, rfl⟩
    obtain ⟨K2, hK2⟩ := has_is sl x HI2.out.1.hs.2.1
    have hh := hK2 K2 (Nat.le_refl _)
    rw [ehb] at hh
    have CC := laganref04_Has.calls K2 A5 c5 sl x hb wr HI2.out.1.hs HI2.out.1.ls hh
    have hst := HSt.out
    rw [ehb, Bool.true_and] at hst
    replace HSt := Go.Lib.hid hst
    clear hst ehb hh hK2
    go_wp2_with fail
    refine CC.mono ?_
    clear CC
    rintro e w3 ⟨rfl, hd⟩
    have HI3 := Go.Lib.hid (And.intro (HI2.out.1.later hd.below) (Kd.C_below HI2.out.2 hd.below))
    clear hd HI2
    cases hb with
    | true =>
     go_wp2_with fail
     go_roundw
     case rel => exact ⟨k + 1, by omega, by simp, ⟨true, by simp, HSt.out⟩, HI3.out⟩
     case measure => simp [intOf]; omega
    | false =>
     go_wp2_with fail
     go_roundw
     case rel => exact ⟨k + 1, by omega, by simp, ⟨false, by simp, HSt.out⟩, HI3.out⟩
     case measure => simp [intOf]; omega
  have d3 : decide (slot < 0) = false := decide_eq_false s1
  by_cases s2 : slot ≥ (S.length : Int)
  rotate_left
  ·
   have d4 : decide (slot ≥ (S.length : Int)) = false := decide_eq_false s2
   exact absurd ⟨by omega, by omega⟩ HP.out.2.2.2.2
  have d4 : decide (slot ≥ (S.length : Int)) = true := decide_eq_true s2
  obtain ⟨rfl, rfl, rfl, rfl, rfl⟩ := HMy.out.1 (by omega)
  obtain ⟨⟨KC, hKC⟩, hchl⟩ := HGood.out.1 (by simp)
  have HKC := Go.Lib.hid hKC
  obtain ⟨rfl, hin⟩ := HW.out.2.2 hfa HR.out (by simp)
  obtain ⟨fn, rfl⟩ : ∃ fn : Nat, find = (fn : Int) := ⟨find.toNat, by omega⟩
  have hff := hfa.2
  have d2c : decide (F.length ≤ fn) = false := decide_eq_false (by omega)
  rw [Int.toNat_natCast] at hin
  obtain ⟨row, erow⟩ : ∃ row, ch.getD fn [] = row := ⟨_, rfl⟩
  rw [erow] at hin
  have HRow := Go.Lib.hid erow
  have qa : (0 ≤ (fn : Int)) = True := eq_true (by omega)
  have qb : ((fn : Int) < (ch.length : Int)) = True := eq_true (by omega)
  have qc : fn < ch.length := by omega
  have HIn := Go.Lib.hid hin
  clear erow hKC hin HW HMy HGood
  have CC := laganref04_Chances.calls KC A0 c0 F A1 c1 S A2 c2 T _ cl al _ wr HI.out.a.C0 HI.out.a.l0 HI.out.a.C1 HI.out.a.l1 HI.out.a.C2 HI.out.a.l2 HI.out.hl HI.out.ll HKC.out
  go_wp2_with fail
  clear k0 k1 k2
  refine CC.mono ?_
  clear CC
  rintro e v1 ⟨v, rfl, hRv, hB⟩
  obtain ⟨Ax, cx, rfl, hl9, hC9⟩ := Kd.R_reads (Kd.S_R hRv)
  obtain ⟨ad, Aw, cw, ead, hcell, hlw, hCw⟩ := rows_at hC9 (fn : Int) (by omega) (by omega)
  rw [Int.toNat_natCast] at hcell hlw hCw
  rw [HRow.out] at hcell hlw hCw
  have HRw := Go.Lib.hid (And.intro hlw hCw)
  clear hRv hl9 hC9 hlw hCw
  cases ead
  replace HI := Go.Lib.hid (HI.out.later hB)
  have k0 := HI.out.a.k0
  have k1 := HI.out.a.k1
  have k2 := HI.out.a.k2
  clear hB
  have hin := HIn.out
  by_cases hrp : (row.length : Int) > 0
  rotate_left
  ·
   have g7 : row = [] := List.length_eq_zero_iff.1 (by omega)
   rw [decide_eq_false hrp, Bool.false_and] at hin
   subst hin
   have HRE := Go.Lib.hid g7
   have g10 : row.length = 0 := by rw [g7]; rfl
   rw [g10] at hcell
   clear hrp g7 g10 HRw
   go_wp2_with fail
   clear k0 k1 k2
   go_loopw [27, 28] (fun y i wr => i = .int .i64 0 ∧ y = .bool false ∧ Hid (MyI w A0 c0 F A1 c1 S A2 c2 T A5 c5 sl At ct ([] : List Int) Ar cr ([] : List Int) Al cl al wr)) (fun _ i _ => 0)
   case atStart => exact ⟨rfl, rfl, HI.out⟩
   clear HI hcell
   obtain ⟨rfl, rfl, HI⟩ := hrel
   have k0 := HI.out.a.k0
   have k1 := HI.out.a.k1
   have k2 := HI.out.a.k2
   have CC := matched_walk wr
   go_wp2_with fail
   clear k0 k1 k2
   refine CC.mono ?_
   clear CC
   rintro e wz ⟨rfl, hB⟩
   replace HI := Go.Lib.hid (HI.out.later hB)
   have k0 := HI.out.a.k0
   have k1 := HI.out.a.k1
   have k2 := HI.out.a.k2
   clear hB
   go_wp2_with fail
   go_ret
   exact ⟨rfl, HI.out.a.B⟩
  rw [decide_eq_true hrp, Bool.true_and] at hin
  have HIn2 := Go.Lib.hid hin
  clear hin
  have g7 : 0 < row.length := by omega
  have g8 : (row = []) = False := eq_false (fun e => by rw [e] at g7; exact absurd g7 (by simp))
  have g9 : decide ((row.length : Int) > 0) = true := decide_eq_true hrp
  have lrow := HRw.out.2.2.1
  clear hrp
  go_wp2_with fail
  clear k0 k1 k2
  go_loopw [27, 28] (fun y i wr => ∃ k : Nat, k ≤ row.length ∧ i = .int .i64 k ∧ (∃ yb, y = .bool yb ∧ Hid ((row.take k).all (fun s => decide (s ∈ sl)) = yb)) ∧ Hid (MyI w A0 c0 F A1 c1 S A2 c2 T A5 c5 sl At ct ([] : List Int) Ar cr ([] : List Int) Al cl al wr ∧ Kd.C (Kd.int .i64) wr Aw row.length row)) (fun _ i _ => row.length - (intOf i).toNat)
  case atStart => exact ⟨0, Nat.zero_le _, rfl, ⟨true, rfl, rfl⟩, HI.out, HRw.out.2⟩
  clear HI HRw hcell
  obtain ⟨k, hk, rfl, ⟨yb, rfl, HYb⟩, HI2⟩ := hrel
  by_cases hlt : k < row.length
  rotate_left
  ·
   obtain rfl : k = row.length := by omega
   have hyb := HYb.out
   rw [List.take_length] at hyb
   have hin := HIn2.out
   rw [hyb] at hin
   subst hin
   clear hyb HYb
   have HI := Go.Lib.hid HI2.out.1
   clear HI2 hk hlt
   have k0 := HI.out.a.k0
   have k1 := HI.out.a.k1
   have k2 := HI.out.a.k2
   cases inn with
   | true =>
    have CC := matched_walk wr
    go_wp2_with fail
    clear k0 k1 k2
    refine CC.mono ?_
    clear CC
    rintro e wz ⟨rfl, hB⟩
    replace HI := Go.Lib.hid (HI.out.later hB)
    have k0 := HI.out.a.k0
    have k1 := HI.out.a.k1
    have k2 := HI.out.a.k2
    clear hB
    go_wp2_with fail
    go_ret
    exact ⟨rfl, HI.out.a.B⟩
   | false =>
    have CC := matched_walk wr
    go_wp2_with fail
    clear k0 k1 k2
    refine CC.mono ?_
    clear CC
    rintro e wz ⟨rfl, hB⟩
    replace HI := Go.Lib.hid (HI.out.later hB)
    have k0 := HI.out.a.k0
    have k1 := HI.out.a.k1
    have k2 := HI.out.a.k2
    clear hB
    go_wp2_with fail
    go_ret
    exact ⟨rfl, HI.out.a.B⟩
  obtain ⟨ax, eax, hx⟩ := Kd.at_int HI2.out.2 (k : Int) (by omega) (by omega)
  rw [Int.toNat_natCast] at hx
  rw [rd_nat] at hx
  have hst := all_take_step row sl k hlt
  obtain ⟨x, ex⟩ : ∃ x, row.getD k 0 = x := ⟨_, rfl⟩
  rw [ex] at hx hst
  cases eax
  rw [HYb.out] at hst
  have HSt := Go.Lib.hid hst
  clear hst ex
  cases yb with
  | false =>
   go_wp2_with fail
   go_roundw
   case rel => exact ⟨k + 1, by omega, by simp, ⟨false, by simp, by rw [HSt.out]; rfl⟩, HI2.out⟩
   case measure => simp [intOf]; omega
  | true =>
   obtain ⟨hb, ehb⟩ : ∃ hb, decide (x ∈ sl) = hb := ⟨_, rfl⟩
   obtain ⟨K2, hK2⟩ := has_is sl x HI2.out.1.hs.2.1
   have hh := hK2 K2 (Nat.le_refl _)
   rw [ehb] at hh
   have CC := laganref04_Has.calls K2 A5 c5 sl x hb wr HI2.out.1.hs HI2.out.1.ls hh
   have hst := HSt.out
   rw [ehb, Bool.true_and] at hst
   replace HSt := Go.Lib.hid hst
   clear hst ehb hh hK2
   go_wp2_with fail
   refine CC.mono ?_
   clear CC
   rintro e w3 ⟨rfl, hd⟩
   have HI3 := Go.Lib.hid (And.intro (HI2.out.1.later hd.below) (Kd.C_below HI2.out.2 hd.below))
   clear hd HI2
   cases hb with
   | true =>
    go_wp2_with fail
    go_roundw
    case rel => exact ⟨k + 1, by omega, by simp, ⟨true, by simp, HSt.out⟩, HI3.out⟩
    case measure => simp [intOf]; omega
   | false =>
    go_wp2_with fail
    go_roundw
    case rel => exact ⟨k + 1, by omega, by simp, ⟨false, by simp, HSt.out⟩, HI3.out⟩
    case measure => simp [intOf]; omega
end Go.Proofs.Ytkmmihadcbfkoaa
end

section
namespace Go.Proofs.Ytkmmihadcbfkoaa
open Go.RowKit Go.Proofs.YtkmmihadcbfkoaaW.PrintWords PM
set_option linter.unusedVariables false
set_option linter.unusedSimpArgs false
set_option maxRecDepth 100000 in
set_option maxHeartbeats 8000000 in
theorem may_walk4 (A0 : Option Addr) (c0 : Nat) (F : List Int) (A1 : Option Addr) (c1 : Nat) (S : List S50) (A2 : Option Addr) (c2 : Nat) (T : List (List Int)) (find : Int) (slot : Int) (A5 : Option Addr) (c5 : Nat) (sl : List Int) (w : World)
  (hr0 : Kd.C (Kd.int .i64) w A0 F.length F) (hc0 : F.length ≤ c0) (hr1 : Kd.C k50 w A1 S.length S) (hc1 : S.length ≤ c1) (hr2 : Kd.C (Kd.slice 3 (Kd.int .i64)) w A2 T.length T) (hc2 : T.length ≤ c2) (hr5 : Kd.C (Kd.int .i64) w A5 sl.length sl) (hc5 : sl.length ≤ c5) (hP : checkB F S T = 0 → isF F S T = true ∧ 0 ≤ find ∧ find < (F.length : Int) ∧ risB sl 0 ((S.length : Int) - 1) = true ∧ 0 ≤ slot ∧ slot < (S.length : Int)) :
  Calls Try.prog 5 #[.agg #[.slice A0 F.length c0, .slice A1 S.length c1, .slice A2 T.length c2], .int .i64 find, .int .i64 slot, .slice A5 sl.length c5] w fun e w' => e = .returned (.bool true) ∧ Below w.heap.size w w' := by
 have HA := Go.Lib.hid (LAt.start hr0 hc0 hr1 hc1 hr2 hc2)
 have hB0 := (Below.refl w.heap.size w).alloc (Nat.le_refl _) (.cells #[.slice A0 F.length c0, .slice A1 S.length c1, .slice A2 T.length c2] 26)
 have Hsl := Go.Lib.hid (And.intro hc5 (Kd.C_below hr5 hB0))
 have l5 := hr5.2.1
 have HS := Go.Lib.hid (And.intro hr0.2.1 (And.intro hr1.2.1 (And.intro hr2.2.1 HA.out.rows)))
 clear hr0 hc0 hr1 hc1 hr2 hc2 hB0 hr5 hc5
 obtain ⟨b, hK, hb⟩ := few_is F S T HS.out.2.2.1
 obtain ⟨K, hK⟩ := hK
 have HK := Go.Lib.hid (hK K (Nat.le_refl _))
 have HFew := Go.Lib.hid hb
 clear hK hb
 go_enter Try.func5, Try.ntmps5
 have k0 := HA.out.k0
 have k1 := HA.out.k1
 have k2 := HA.out.k2
 have CC := laganlaw04_few.calls K A0 c0 F A1 c1 S A2 c2 T b _ HA.out.C0 HA.out.l0 HA.out.C1 HA.out.l1 HA.out.C2 HA.out.l2 HK.out
 go_wp2_with fail
 clear k0 k1 k2
 refine CC.mono ?_
 clear CC
 rintro e w1 ⟨rfl, hB⟩
 replace Hsl := Go.Lib.hid (And.intro Hsl.out.1 (Kd.C_below Hsl.out.2 hB))
 replace HA := Go.Lib.hid (HA.out.later hB)
 have k0 := HA.out.k0
 have k1 := HA.out.k1
 have k2 := HA.out.k2
 clear hB
 clear HK
 cases b with
 | false =>
  have CC := matched_walk w1
  go_wp2_with fail
  clear k0 k1 k2
  refine CC.mono ?_
  clear CC
  rintro e w2 ⟨rfl, hB⟩
  replace Hsl := Go.Lib.hid (And.intro Hsl.out.1 (Kd.C_below Hsl.out.2 hB))
  replace HA := Go.Lib.hid (HA.out.later hB)
  have k0 := HA.out.k0
  have k1 := HA.out.k1
  have k2 := HA.out.k2
  clear hB
  go_wp2_with fail
  go_ret
  exact ⟨rfl, HA.out.B⟩
 | true =>
  by_cases h3 : (sl.length : Int) > 20
  ·
   have g3 : decide ((sl.length : Int) > 20) = true := decide_eq_true h3
   have CC := matched_walk w1
   go_wp2_with fail
   clear k0 k1 k2
   refine CC.mono ?_
   clear CC
   rintro e w2 ⟨rfl, hB⟩
   replace Hsl := Go.Lib.hid (And.intro Hsl.out.1 (Kd.C_below Hsl.out.2 hB))
   replace HA := Go.Lib.hid (HA.out.later hB)
   have k0 := HA.out.k0
   have k1 := HA.out.k1
   have k2 := HA.out.k2
   clear hB
   go_wp2_with fail
   go_ret
   exact ⟨rfl, HA.out.B⟩
  have g3 : decide ((sl.length : Int) > 20) = false := decide_eq_false h3
  obtain ⟨KB, hKB⟩ := refcheck_is F S T HS.out.1 HS.out.2.1 HS.out.2.2.1 HS.out.2.2.2
  have HCb := Go.Lib.hid (hKB KB (Nat.le_refl _))
  clear hKB
  by_cases hc : checkB F S T = 0
  rotate_left
  ·
   obtain ⟨h1, h2, h3', h4⟩ := may_bad hc find slot sl
   obtain ⟨q, hq⟩ : ∃ q, checkB F S T = q := ⟨_, rfl⟩
   rw [hq] at hc h1 h2 h3' h4 HCb
   have HMa := Go.Lib.hid h1
   have HTh := Go.Lib.hid h2
   have HRe := Go.Lib.hid h3'
   have HWi := Go.Lib.hid h4
   clear h1 h2 h3' h4 hq
   have CC := match_May.calls A0 c0 F A1 c1 S A2 c2 T find slot _ _ w1 HA.out.C0 HA.out.l0 HA.out.C1 HA.out.l1 HA.out.C2 HA.out.l2 HMa.out
   go_wp2_with fail
   clear k0 k1 k2
   refine CC.mono ?_
   clear CC
   rintro e w2 ⟨rfl, hB⟩
   replace Hsl := Go.Lib.hid (And.intro Hsl.out.1 (Kd.C_below Hsl.out.2 hB))
   replace HA := Go.Lib.hid (HA.out.later hB)
   have k0 := HA.out.k0
   have k1 := HA.out.k1
   have k2 := HA.out.k2
   clear hB
   have CC := match_Through.calls A0 c0 F A1 c1 S A2 c2 T find slot _ _ _ w2 HA.out.C0 HA.out.l0 HA.out.C1 HA.out.l1 HA.out.C2 HA.out.l2 HTh.out
   go_wp2_with fail
   clear k0 k1 k2
   refine CC.mono ?_
   clear CC
   rintro e w3 ⟨v, rfl, hRv, hB⟩
   obtain ⟨At, ct, rfl, hl9, hC9⟩ := Kd.R_reads hRv
   have Ht := Go.Lib.hid (And.intro hl9 hC9)
   clear hRv hl9 hC9
   replace Hsl := Go.Lib.hid (And.intro Hsl.out.1 (Kd.C_below Hsl.out.2 hB))
   replace HA := Go.Lib.hid (HA.out.later hB)
   have k0 := HA.out.k0
   have k1 := HA.out.k1
   have k2 := HA.out.k2
   clear hB
   have CC := match_Refuse.calls A0 c0 F A1 c1 S A2 c2 T find slot _ _ _ w3 HA.out.C0 HA.out.l0 HA.out.C1 HA.out.l1 HA.out.C2 HA.out.l2 HRe.out
   go_wp2_with fail
   clear k0 k1 k2
   refine CC.mono ?_
   clear CC
   rintro e w4 ⟨v, rfl, hRv, hB⟩
   obtain ⟨Ar, cr, rfl, hl9, hC9⟩ := Kd.R_reads hRv
   have Hr := Go.Lib.hid (And.intro hl9 hC9)
   clear hRv hl9 hC9
   replace Hsl := Go.Lib.hid (And.intro Hsl.out.1 (Kd.C_below Hsl.out.2 hB))
   replace Ht := Go.Lib.hid (And.intro Ht.out.1 (Kd.C_below Ht.out.2 hB))
   replace HA := Go.Lib.hid (HA.out.later hB)
   have k0 := HA.out.k0
   have k1 := HA.out.k1
   have k2 := HA.out.k2
   clear hB
   have CC := within_calls A0 c0 F A1 c1 S A2 c2 T find A5 c5 sl w4 HA.out.C0 HA.out.l0 HA.out.C1 HA.out.l1 HA.out.C2 HA.out.l2 Hsl.out.2 Hsl.out.1
   rw [HWi.out] at CC
   go_wp2_with fail
   clear k0 k1 k2
   refine CC.mono ?_
   clear CC
   rintro e w5 ⟨rfl, hB⟩
   replace Hsl := Go.Lib.hid (And.intro Hsl.out.1 (Kd.C_below Hsl.out.2 hB))
   replace Ht := Go.Lib.hid (And.intro Ht.out.1 (Kd.C_below Ht.out.2 hB))
   replace Hr := Go.Lib.hid (And.intro Hr.out.1 (Kd.C_below Hr.out.2 hB))
   replace HA := Go.Lib.hid (HA.out.later hB)
   have k0 := HA.out.k0
   have k1 := HA.out.k1
   have k2 := HA.out.k2
   clear hB
   have CC := laganref04_CheckBoard.calls KB A0 c0 F A1 c1 S A2 c2 T _ w5 HA.out.C0 HA.out.l0 HA.out.C1 HA.out.l1 HA.out.C2 HA.out.l2 HCb.out
   go_wp2_with fail
   clear k0 k1 k2
   refine CC.mono ?_
   clear CC
   rintro e w6 ⟨rfl, hB⟩
   replace Hsl := Go.Lib.hid (And.intro Hsl.out.1 (Kd.C_below Hsl.out.2 hB))
   replace Ht := Go.Lib.hid (And.intro Ht.out.1 (Kd.C_below Ht.out.2 hB))
   replace Hr := Go.Lib.hid (And.intro Hr.out.1 (Kd.C_below Hr.out.2 hB))
   replace HA := Go.Lib.hid (HA.out.later hB)
   have k0 := HA.out.k0
   have k1 := HA.out.k1
   have k2 := HA.out.k2
   clear hB
   clear HMa HTh HRe HWi HCb
   have g5 : decide (q = 0) = false := decide_eq_false hc
   have CC := matched_walk w6
   go_wp2_with fail
   clear k0 k1 k2
   refine CC.mono ?_
   clear CC
   rintro e w7 ⟨rfl, hB⟩
   replace Hsl := Go.Lib.hid (And.intro Hsl.out.1 (Kd.C_below Hsl.out.2 hB))
   replace Ht := Go.Lib.hid (And.intro Ht.out.1 (Kd.C_below Ht.out.2 hB))
   replace Hr := Go.Lib.hid (And.intro Hr.out.1 (Kd.C_below Hr.out.2 hB))
   replace HA := Go.Lib.hid (HA.out.later hB)
   have k0 := HA.out.k0
   have k1 := HA.out.k1
   have k2 := HA.out.k2
   clear hB
   go_wp2_with fail
   go_ret
   exact ⟨rfl, HA.out.B⟩
  rw [hc] at HCb
  have hP := hP hc
  obtain ⟨hT6, hall, hlen, KA, hKA⟩ := all_ref hc (HFew.out rfl).1 (HFew.out rfl).2
  obtain ⟨may, no, t, r, ea, hMy⟩ := may_is hc find slot
  obtain ⟨inn, ew, hw0, hw1, hw2, hw3⟩ := within_is hc find sl
  have hne := allB_ne hc
  have hs200 := (bok_of_check hc).ns
  have hf60 := (bok_of_check hc).nf
  have hgood : isF F S T = true → (∃ KC, laganref04_Chances.f KC F S T (allB S T) = some (allChances F S T)) ∧ (allChances F S T).length = F.length := fun his => by
   obtain ⟨KC, hKC⟩ := refchances_is (F := F) (S := S) (T := T) (allB S T) (by omega) hs200 hf60 hlen
   have hch := hKC KC (Nat.le_refl _)
   rw [refall_chances hc his] at hch
   exact ⟨⟨KC, hch⟩, (chances_small hc).1⟩
  have hmem : isF F S T = true → 0 ≤ find ∧ find < (F.length : Int) → 0 ≤ slot → Shown F S T find.toNat slot t r may → decide (slot ∈ (allChances F S T).getD find.toNat []) = may := fun his hf h0 h => may_mem hc his (by omega) h0 h
  have hasg : ∀ x, AsgB S T x → (x.length : Int) = F.length := fun x hx => by rw [hx.len, (bok_of_check hc).nt]
  have hmeets : ∀ x, meetsB F S T x = true ↔ AsgB S T x := meets_iff hc
  have hask := ask_two hc find slot
  obtain ⟨his, ehis⟩ : ∃ his, isF F S T = his := ⟨_, rfl⟩
  rw [ehis] at hMy hw2 hw3 hne hgood hmem hP
  have HP := Go.Lib.hid hP
  obtain ⟨ch, ech⟩ : ∃ ch, allChances F S T = ch := ⟨_, rfl⟩
  rw [ech] at hw3 hgood hmem
  obtain ⟨al, eal⟩ : ∃ al, allB S T = al := ⟨_, rfl⟩
  rw [eal] at hne hgood
  rw [eal] at hKA
  have HAll := Go.Lib.hid hKA
  have HMa := Go.Lib.hid hMy.may_
  have HTh := Go.Lib.hid hMy.through
  have HRe := Go.Lib.hid hMy.refuse
  have HWi := Go.Lib.hid hw0
  have HMy := Go.Lib.hid (And.intro hMy.out (And.intro hMy.none hMy.some))
  have HW := Go.Lib.hid (And.intro hw1 (And.intro hw2 hw3))
  have HNe := Go.Lib.hid hne
  have HGood := Go.Lib.hid (And.intro hgood hmem)
  have HC := Go.Lib.hid (And.intro hc (And.intro hs200 (And.intro hf60 (And.intro hasg (And.intro hmeets hask)))))
  clear hP hT6 hall hlen hKA hMy hw0 hw1 hw2 hw3 hne hgood hmem hasg hmeets hask hs200 hf60 hc ehis ech eal HFew
  have CC := match_May.calls A0 c0 F A1 c1 S A2 c2 T find slot _ _ w1 HA.out.C0 HA.out.l0 HA.out.C1 HA.out.l1 HA.out.C2 HA.out.l2 HMa.out
  go_wp2_with fail
  clear k0 k1 k2
  refine CC.mono ?_
  clear CC
  rintro e w2 ⟨rfl, hB⟩
  replace Hsl := Go.Lib.hid (And.intro Hsl.out.1 (Kd.C_below Hsl.out.2 hB))
  replace HA := Go.Lib.hid (HA.out.later hB)
  have k0 := HA.out.k0
  have k1 := HA.out.k1
  have k2 := HA.out.k2
  clear hB
  have CC := match_Through.calls A0 c0 F A1 c1 S A2 c2 T find slot _ _ _ w2 HA.out.C0 HA.out.l0 HA.out.C1 HA.out.l1 HA.out.C2 HA.out.l2 HTh.out
  go_wp2_with fail
  clear k0 k1 k2
  refine CC.mono ?_
  clear CC
  rintro e w3 ⟨v, rfl, hRv, hB⟩
  obtain ⟨At, ct, rfl, hl9, hC9⟩ := Kd.R_reads hRv
  have Ht := Go.Lib.hid (And.intro hl9 hC9)
  clear hRv hl9 hC9
  replace Hsl := Go.Lib.hid (And.intro Hsl.out.1 (Kd.C_below Hsl.out.2 hB))
  replace HA := Go.Lib.hid (HA.out.later hB)
  have k0 := HA.out.k0
  have k1 := HA.out.k1
  have k2 := HA.out.k2
  clear hB
  have CC := match_Refuse.calls A0 c0 F A1 c1 S A2 c2 T find slot _ _ _ w3 HA.out.C0 HA.out.l0 HA.out.C1 HA.out.l1 HA.out.C2 HA.out.l2 HRe.out
  go_wp2_with fail
  clear k0 k1 k2
  refine CC.mono ?_
  clear CC
  rintro e w4 ⟨v, rfl, hRv, hB⟩
  obtain ⟨Ar, cr, rfl, hl9, hC9⟩ := Kd.R_reads hRv
  have Hr := Go.Lib.hid (And.intro hl9 hC9)
  clear hRv hl9 hC9
  replace Hsl := Go.Lib.hid (And.intro Hsl.out.1 (Kd.C_below Hsl.out.2 hB))
  replace Ht := Go.Lib.hid (And.intro Ht.out.1 (Kd.C_below Ht.out.2 hB))
  replace HA := Go.Lib.hid (HA.out.later hB)
  have k0 := HA.out.k0
  have k1 := HA.out.k1
  have k2 := HA.out.k2
  clear hB
  have CC := within_calls A0 c0 F A1 c1 S A2 c2 T find A5 c5 sl w4 HA.out.C0 HA.out.l0 HA.out.C1 HA.out.l1 HA.out.C2 HA.out.l2 Hsl.out.2 Hsl.out.1
  rw [HWi.out] at CC
  go_wp2_with fail
  clear k0 k1 k2
  refine CC.mono ?_
  clear CC
  rintro e w5 ⟨rfl, hB⟩
  replace Hsl := Go.Lib.hid (And.intro Hsl.out.1 (Kd.C_below Hsl.out.2 hB))
  replace Ht := Go.Lib.hid (And.intro Ht.out.1 (Kd.C_below Ht.out.2 hB))
  replace Hr := Go.Lib.hid (And.intro Hr.out.1 (Kd.C_below Hr.out.2 hB))
  replace HA := Go.Lib.hid (HA.out.later hB)
  have k0 := HA.out.k0
  have k1 := HA.out.k1
  have k2 := HA.out.k2
  clear hB
  have CC := laganref04_CheckBoard.calls KB A0 c0 F A1 c1 S A2 c2 T _ w5 HA.out.C0 HA.out.l0 HA.out.C1 HA.out.l1 HA.out.C2 HA.out.l2 HCb.out
  go_wp2_with fail
  clear k0 k1 k2
  refine CC.mono ?_
  clear CC
  rintro e w6 ⟨rfl, hB⟩
  replace Hsl := Go.Lib.hid (And.intro Hsl.out.1 (Kd.C_below Hsl.out.2 hB))
  replace Ht := Go.Lib.hid (And.intro Ht.out.1 (Kd.C_below Ht.out.2 hB))
  replace Hr := Go.Lib.hid (And.intro Hr.out.1 (Kd.C_below Hr.out.2 hB))
  replace HA := Go.Lib.hid (HA.out.later hB)
  have k0 := HA.out.k0
  have k1 := HA.out.k1
  have k2 := HA.out.k2
  clear hB
  clear HMa HTh HRe HWi HCb
  have CC := laganref04_All.calls KA A0 c0 F A1 c1 S A2 c2 T _ w6 HA.out.C0 HA.out.l0 HA.out.C1 HA.out.l1 HA.out.C2 HA.out.l2 HAll.out
  go_wp2_with fail
  clear k0 k1 k2
  refine CC.mono ?_
  clear CC
  rintro e w7 ⟨v, rfl, hRv, hB⟩
  obtain ⟨Al, cl, rfl, hl9, hC9⟩ := Kd.N_reads hRv
  have Hl := Go.Lib.hid (And.intro hl9 hC9)
  clear hRv hl9 hC9
  replace Hsl := Go.Lib.hid (And.intro Hsl.out.1 (Kd.C_below Hsl.out.2 hB))
  replace Ht := Go.Lib.hid (And.intro Ht.out.1 (Kd.C_below Ht.out.2 hB))
  replace Hr := Go.Lib.hid (And.intro Hr.out.1 (Kd.C_below Hr.out.2 hB))
  replace HA := Go.Lib.hid (HA.out.later hB)
  have k0 := HA.out.k0
  have k1 := HA.out.k1
  have k2 := HA.out.k2
  clear hB
  clear HAll
  have ehf := HP.out.1
  subst ehf
  have hal := HNe.out.2 (by simp)
  have g4 : 0 < al.length := List.length_pos_iff.2 hal
  have g4b : (al = []) = False := eq_false hal
  have g4c : decide ((al.length : Int) = 0) = false := decide_eq_false (by omega)
  have g4d : ((al.length : Int) == 0) = false := by rw [beq_eq_false_iff_ne]; omega
  clear hal
  go_wp2_with fail
  clear k0 k1 k2
  have h20 : sl.length ≤ 20 := by omega
  go_loopw [22, 23] (fun y i wr => ∃ k : Nat, k ≤ sl.length ∧ i = .int .i64 k ∧ (∃ yb, y = .bool yb ∧ Hid (risTo sl ((S.length : Int) - 1) k = yb)) ∧ Hid (MyI w A0 c0 F A1 c1 S A2 c2 T A5 c5 sl At ct t Ar cr r Al cl al wr)) (fun _ i _ => sl.length - (intOf i).toNat)
  case atStart => exact ⟨0, Nat.zero_le _, rfl, ⟨true, rfl, rfl⟩, HA.out, Hsl.out.2, Hsl.out.1, Ht.out.2, Ht.out.1, Hr.out.2, Hr.out.1, Hl.out.2, Hl.out.1⟩
  obtain ⟨k, hk, rfl, ⟨yb, rfl, HYb⟩, HI⟩ := hrel
  clear HA Hsl Ht Hr Hl
  have k0 := HI.out.a.k0
  have k1 := HI.out.a.k1
  have k2 := HI.out.a.k2
  by_cases hlt : k < sl.length
  ·
   have hst := risTo_step sl ((S.length : Int) - 1) k
   rw [HYb.out] at hst
   cases yb with
   | false =>
    rw [Bool.false_and] at hst
    have HSt := Go.Lib.hid hst
    clear hst
    go_wp2_with fail
    go_quiet (fail)
    go_wp2_with fail
    go_roundw
    case rel => exact ⟨k + 1, by omega, by first | (simp; done) | (simp; omega), ⟨false, by simp, HSt.out⟩, HI.out.later (by repeat (first | exact Below.refl _ _ | refine pw_below_drewN ?_ _))⟩
    case measure => simp [intOf]; omega
   | true =>
    rw [Bool.true_and] at hst
    obtain ⟨ax, eax, hx⟩ := Kd.at_int HI.out.hs (k : Int) (by omega) (by omega)
    rw [Int.toNat_natCast] at hx
    rw [rd_nat] at hx
    have hprev : 0 < k → ∃ p, sl.getD (k - 1) 0 = p ∧ wr.cell? (ax.add (k - 1)) = some (.int .i64 p) := fun h => by
     obtain ⟨ay, eay, hy⟩ := Kd.at_int HI.out.hs ((k - 1 : Nat) : Int) (by omega) (by omega)
     rw [Int.toNat_natCast, rd_nat] at hy
     rw [eax] at eay
     injection eay with eay
     subst eay
     exact ⟨_, rfl, hy⟩
    obtain ⟨x, ex⟩ : ∃ x, sl.getD k 0 = x := ⟨_, rfl⟩
    rw [ex] at hx
    have hra : risAt sl 0 ((S.length : Int) - 1) k = (decide (0 ≤ x) && decide (x < (S.length : Int)) && (decide (k = 0) || decide (sl.getD (k - 1) 0 < x))) := by
     unfold risAt inB
     rw [ex]
     congr 2
     exact decide_eq_decide.2 ⟨fun h => by omega, fun h => by omega⟩
    rw [hra] at hst
    cases eax
    clear hra ex
    by_cases c1' : x ≥ 0
    rotate_left
    ·
     have e1 : decide (x ≥ 0) = false := decide_eq_false c1'
     rw [decide_eq_false (show ¬ 0 ≤ x by omega)] at hst
     have HSt := Go.Lib.hid hst
     clear hst hprev
     go_wp2_with fail
     go_quiet (fail)
     go_wp2_with fail
     go_roundw
     case rel => exact ⟨k + 1, by omega, by first | (simp; done) | (simp; omega), ⟨false, by simp, by rw [HSt.out]; rfl⟩, HI.out.later (by repeat (first | exact Below.refl _ _ | refine pw_below_drewN ?_ _))⟩
     case measure => simp [intOf]; omega
    have e1 : decide (x ≥ 0) = true := decide_eq_true c1'
    rw [decide_eq_true (show 0 ≤ x by omega), Bool.true_and] at hst
    by_cases c2' : x < (S.length : Int)
    rotate_left
    ·
     have e2 : decide (x < (S.length : Int)) = false := decide_eq_false c2'
     rw [e2] at hst
     have HSt := Go.Lib.hid hst
     clear hst hprev
     go_wp2_with fail
     go_quiet (fail)
     go_wp2_with fail
     go_roundw
     case rel => exact ⟨k + 1, by omega, by first | (simp; done) | (simp; omega), ⟨false, by simp, by rw [HSt.out]; rfl⟩, HI.out.later (by repeat (first | exact Below.refl _ _ | refine pw_below_drewN ?_ _))⟩
     case measure => simp [intOf]; omega
    have e2 : decide (x < (S.length : Int)) = true := decide_eq_true c2'
    rw [e2, Bool.true_and] at hst
    by_cases c3' : k = 0
    ·
     have e3 : ((k : Int) == 0) = true := by rw [beq_iff_eq]; omega
     have e3b : decide ((k : Int) = 0) = true := decide_eq_true (by omega)
     rw [decide_eq_true c3', Bool.true_or] at hst
     have hx0 := hx
     rw [c3', Addr.add_zero'] at hx0
     have c30 : 0 < sl.length := by omega
     have HSt := Go.Lib.hid hst
     clear hst hprev
     go_wp2_with fail
     go_quiet (fail)
     go_wp2_with fail
     go_roundw
     case rel => exact ⟨k + 1, by omega, by first | (simp; done) | (simp; omega), ⟨true, by simp, HSt.out⟩, HI.out.later (by repeat (first | exact Below.refl _ _ | refine pw_below_drewN ?_ _))⟩
     case measure => simp [intOf]; omega
    have e3 : ((k : Int) == 0) = false := by rw [beq_eq_false_iff_ne]; omega
    have e3b : decide ((k : Int) = 0) = false := decide_eq_false (by omega)
    obtain ⟨p, ep, hp⟩ := hprev (by omega)
    rw [decide_eq_false c3', Bool.false_or, ep] at hst
    have s1' : IntKind.i64.wrap ((k : Int) - 1) = (k : Int) - 1 := (YtkmmihadcbfkoaaW.PrintLast.i64_w _).trans (wrap_pm (i := (k : Int)) (by omega) (by omega)).2
    have s2' : ((k : Int) - 1).toNat = k - 1 := by omega
    have s3' : (0 ≤ (k : Int) - 1) = True := eq_true (by omega)
    have s4' : ((k : Int) - 1 < (sl.length : Int)) = True := eq_true (by omega)
    have s5' : k - 1 < sl.length := by omega
    clear hprev ep
    by_cases c4' : x > p
    ·
     have e4 : decide (x > p) = true := decide_eq_true c4'
     rw [decide_eq_true (show p < x by omega)] at hst
     have HSt := Go.Lib.hid hst
     clear hst
     go_wp2_with fail
     go_quiet (fail)
     go_wp2_with fail
     go_roundw
     case rel => exact ⟨k + 1, by omega, by first | (simp; done) | (simp; omega), ⟨true, by simp, HSt.out⟩, HI.out.later (by repeat (first | exact Below.refl _ _ | refine pw_below_drewN ?_ _))⟩
     case measure => simp [intOf]; omega
    have e4 : decide (x > p) = false := decide_eq_false c4'
    rw [decide_eq_false (show ¬ p < x by omega)] at hst
    have HSt := Go.Lib.hid hst
    clear hst
    go_wp2_with fail
    go_quiet (fail)
    go_wp2_with fail
    go_roundw
    case rel => exact ⟨k + 1, by omega, by first | (simp; done) | (simp; omega), ⟨false, by simp, HSt.out⟩, HI.out.later (by repeat (first | exact Below.refl _ _ | refine pw_below_drewN ?_ _))⟩
    case measure => simp [intOf]; omega
  obtain rfl : k = sl.length := by omega
  have HR : Hid (risB sl 0 ((S.length : Int) - 1) = yb) := Go.Lib.hid HYb.out
  clear HYb hk hlt h20
  have hyt : yb = true := HR.out.symm.trans HP.out.2.2.2.1
  subst hyt
  by_cases f1 : find < 0
  ·
   exact absurd HP.out.2.1 (by omega)
  have d1 : decide (find < 0) = false := decide_eq_false f1
  by_cases f2 : find ≥ (F.length : Int)
  ·
   exact absurd HP.out.2.2.1 (by omega)
  have d2 : decide (find ≥ (F.length : Int)) = false := decide_eq_false f2
  have hfa : 0 ≤ find ∧ find < (F.length : Int) := by omega
  by_cases s1 : slot < 0
  ·
   have d3 : decide (slot < 0) = true := decide_eq_true s1
   exact absurd HP.out.2.2.2.2 (by omega)
  have d3 : decide (slot < 0) = false := decide_eq_false s1
  by_cases s2 : slot ≥ (S.length : Int)
  ·
   have d4 : decide (slot ≥ (S.length : Int)) = true := decide_eq_true s2
   exact absurd HP.out.2.2.2.2 (by omega)
  have d4 : decide (slot ≥ (S.length : Int)) = false := decide_eq_false s2
  have hargs : 0 ≤ find ∧ find < (F.length : Int) ∧ 0 ≤ slot ∧ slot < (S.length : Int) := by omega
  obtain ⟨rfl, rfl, hsh⟩ := HMy.out.2.2 hargs (by simp)
  obtain ⟨⟨KC, hKC⟩, hchl⟩ := HGood.out.1 (by simp)
  have HKC := Go.Lib.hid hKC
  obtain ⟨rfl, hin⟩ := HW.out.2.2 hfa HR.out (by simp)
  have hsm := HGood.out.2 (by simp) hfa hargs.2.2.1 hsh
  have hak := HC.out.2.2.2.2.2.1.2 hargs
  obtain ⟨fn, rfl⟩ : ∃ fn : Nat, find = (fn : Int) := ⟨find.toNat, by omega⟩
  have hff := hfa.2
  have d2c : decide (F.length ≤ fn) = false := decide_eq_false (by omega)
  rw [Int.toNat_natCast] at hin hsm hsh
  obtain ⟨row, erow⟩ : ∃ row, ch.getD fn [] = row := ⟨_, rfl⟩
  rw [erow] at hin hsm
  have HRow := Go.Lib.hid erow
  have qa : (0 ≤ (fn : Int)) = True := eq_true (by omega)
  have qb : ((fn : Int) < (ch.length : Int)) = True := eq_true (by omega)
  have qc : fn < ch.length := by omega
  have HIn := Go.Lib.hid hin
  have HSome := Go.Lib.hid hsm
  have HSh := Go.Lib.hid hsh
  have HAsk := Go.Lib.hid hak
  clear erow hKC hin hsm hsh hak HW HMy HGood
  have CC := laganref04_Chances.calls KC A0 c0 F A1 c1 S A2 c2 T _ cl al _ wr HI.out.a.C0 HI.out.a.l0 HI.out.a.C1 HI.out.a.l1 HI.out.a.C2 HI.out.a.l2 HI.out.hl HI.out.ll HKC.out
  go_wp2_with fail
  clear k0 k1 k2
  refine CC.mono ?_
  clear CC
  rintro e v1 ⟨v, rfl, hRv, hB⟩
  obtain ⟨Ax, cx, rfl, hl9, hC9⟩ := Kd.R_reads (Kd.S_R hRv)
  obtain ⟨ad, Aw, cw, ead, hcell, hlw, hCw⟩ := rows_at hC9 (fn : Int) (by omega) (by omega)
  rw [Int.toNat_natCast] at hcell hlw hCw
  rw [HRow.out] at hcell hlw hCw
  have HRw := Go.Lib.hid (And.intro hlw hCw)
  clear hRv hl9 hC9 hlw hCw
  cases ead
  replace HI := Go.Lib.hid (HI.out.later hB)
  have k0 := HI.out.a.k0
  have k1 := HI.out.a.k1
  have k2 := HI.out.a.k2
  clear hB
  have hin := HIn.out
  by_cases hrp : (row.length : Int) > 0
  rotate_left
  ·
   have g7 : row = [] := List.length_eq_zero_iff.1 (by omega)
   rw [decide_eq_false hrp, Bool.false_and] at hin
   subst hin
   have HRE := Go.Lib.hid g7
   have g10 : row.length = 0 := by rw [g7]; rfl
   rw [g10] at hcell
   clear hrp g7 g10 HRw
   go_wp2_with fail
   clear k0 k1 k2
   go_loopw [27, 28] (fun y i wr => i = .int .i64 0 ∧ y = .bool false ∧ Hid (MyI w A0 c0 F A1 c1 S A2 c2 T A5 c5 sl At ct t Ar cr r Al cl al wr)) (fun _ i _ => 0)
   case atStart => exact ⟨rfl, rfl, HI.out⟩
   clear HI hcell
   obtain ⟨rfl, rfl, HI⟩ := hrel
   have k0 := HI.out.a.k0
   have k1 := HI.out.a.k1
   have k2 := HI.out.a.k2
   have CC := laganref04_Chances.calls KC A0 c0 F A1 c1 S A2 c2 T _ cl al _ wr HI.out.a.C0 HI.out.a.l0 HI.out.a.C1 HI.out.a.l1 HI.out.a.C2 HI.out.a.l2 HI.out.hl HI.out.ll HKC.out
   go_wp2_with fail
   clear k0 k1 k2
   refine CC.mono ?_
   clear CC
   rintro e u1 ⟨v, rfl, hRv, hB⟩
   obtain ⟨Ax, cx, rfl, hl9, hC9⟩ := Kd.R_reads (Kd.S_R hRv)
   obtain ⟨ad, Aw, cw, ead, hcell, hlw, hCw⟩ := rows_at hC9 (fn : Int) (by omega) (by omega)
   rw [Int.toNat_natCast] at hcell hlw hCw
   rw [HRow.out] at hcell hlw hCw
   have HRw := Go.Lib.hid (And.intro hlw hCw)
   clear hRv hl9 hC9 hlw hCw
   cases ead
   replace HI := Go.Lib.hid (HI.out.later hB)
   have k0 := HI.out.a.k0
   have k1 := HI.out.a.k1
   have k2 := HI.out.a.k2
   clear hB
   obtain ⟨KH, hKH⟩ := has_is row slot HRw.out.2.2.1
   have hh := hKH KH (Nat.le_refl _)
   rw [HSome.out] at hh
   have HHas := Go.Lib.hid hh
   clear hKH hh
   have CC := laganref04_Has.calls KH Aw cw row slot may u1 HRw.out.2 HRw.out.1 HHas.out
   go_wp2_with fail
   clear k0 k1 k2
   refine CC.mono ?_
   clear CC
   rintro e u2 ⟨rfl, hd⟩
   have hB := hd.below
   clear hd
   replace HI := Go.Lib.hid (HI.out.later hB)
   have k0 := HI.out.a.k0
   have k1 := HI.out.a.k1
   have k2 := HI.out.a.k2
   clear hB
   clear HHas hcell HRw
   obtain ⟨okb, hokb⟩ : ∃ okb, meetsB F S T t = okb := ⟨_, rfl⟩
   obtain ⟨KM, hKM⟩ := refmeets_is HS.out.1 HS.out.2.1 HS.out.2.2.1 HS.out.2.2.2 t
   have hm := hKM KM (Nat.le_refl _)
   rw [if_neg (show ¬ checkB F S T ≠ 0 from fun h => h HC.out.1), hokb] at hm
   have HM := Go.Lib.hid hm
   have HOk := Go.Lib.hid hokb
   clear hKM hm hokb
   have CC := laganref04_Meets.calls KM A0 c0 F A1 c1 S A2 c2 T At ct t _ _ u2 HI.out.a.C0 HI.out.a.l0 HI.out.a.C1 HI.out.a.l1 HI.out.a.C2 HI.out.a.l2 HI.out.ht HI.out.lt HM.out
   go_wp2_with fail
   clear k0 k1 k2
   refine CC.mono ?_
   clear CC
   rintro e u3 ⟨rfl, hB⟩
   replace HI := Go.Lib.hid (HI.out.later hB)
   have k0 := HI.out.a.k0
   have k1 := HI.out.a.k1
   have k2 := HI.out.a.k2
   clear hB
   obtain ⟨db, hdb⟩ : ∃ db, (refuseP F S T (fn : Int) slot r).1 = db := ⟨_, rfl⟩
   obtain ⟨KR, hKR⟩ := refrefuse_is HS.out.1 HS.out.2.1 HS.out.2.2.1 HS.out.2.2.2 (fn : Int) slot r (shown_len HAsk.out HSh.out)
   have hm := hKR KR (Nat.le_refl _)
   rw [refuseP_err HAsk.out, hdb] at hm
   have HM2 := Go.Lib.hid hm
   have HDb := Go.Lib.hid hdb
   clear hKR hm hdb
   have CC := laganref04_CheckRefuse.calls KR A0 c0 F A1 c1 S A2 c2 T (fn : Int) slot Ar cr r _ _ u3 HI.out.a.C0 HI.out.a.l0 HI.out.a.C1 HI.out.a.l1 HI.out.a.C2 HI.out.a.l2 HI.out.hr HI.out.lr HM2.out
   go_wp2_with fail
   clear k0 k1 k2
   refine CC.mono ?_
   clear CC
   rintro e u4 ⟨rfl, hB⟩
   replace HI := Go.Lib.hid (HI.out.later hB)
   have k0 := HI.out.a.k0
   have k1 := HI.out.a.k1
   have k2 := HI.out.a.k2
   clear hB
   clear HM HM2
   have CC := matched_walk u4
   go_wp2_with fail
   clear k0 k1 k2
   refine CC.mono ?_
   clear CC
   rintro e u5 ⟨rfl, hB⟩
   replace HI := Go.Lib.hid (HI.out.later hB)
   have k0 := HI.out.a.k0
   have k1 := HI.out.a.k1
   have k2 := HI.out.a.k2
   clear hB
   cases may with
   | true =>
    obtain ⟨ha, hts, hr0⟩ := HSh.out.yes rfl
    have hok := HOk.out
    rw [(HC.out.2.2.2.2.1 t).2 ha] at hok
    subst hok
    have htl := HC.out.2.2.2.1 t ha
    have hpt : (fn : Int) < (t.length : Int) := by rw [htl]; exact hff
    obtain ⟨at9, eat, hx⟩ := Kd.at_int HI.out.ht (fn : Int) (by omega) hpt
    rw [Int.toNat_natCast] at hx
    rw [rd_nat, hts] at hx
    cases eat
    subst hr0
    have q5 : fn < t.length := by omega
    clear ha hts htl HOk
    go_wp2_with fail
    go_ret
    exact ⟨rfl, HI.out.a.B⟩
   | false =>
    obtain ⟨ht0, hde⟩ := HSh.out.no rfl
    have hdb := HDb.out
    rw [hde] at hdb
    subst hdb
    subst ht0
    clear hde
    go_wp2_with fail
    go_ret
    exact ⟨rfl, HI.out.a.B⟩
  rw [decide_eq_true hrp, Bool.true_and] at hin
  have HIn2 := Go.Lib.hid hin
  clear hin
  have g7 : 0 < row.length := by omega
  have g8 : (row = []) = False := eq_false (fun e => by rw [e] at g7; exact absurd g7 (by simp))
  have g9 : decide ((row.length : Int) > 0) = true := decide_eq_true hrp
  have lrow := HRw.out.2.2.1
  clear hrp
  go_wp2_with fail
  clear k0 k1 k2
  go_loopw [27, 28] (fun y i wr => ∃ k : Nat, k ≤ row.length ∧ i = .int .i64 k ∧ (∃ yb, y = .bool yb ∧ Hid ((row.take k).all (fun s => decide (s ∈ sl)) = yb)) ∧ Hid (MyI w A0 c0 F A1 c1 S A2 c2 T A5 c5 sl At ct t Ar cr r Al cl al wr ∧ Kd.C (Kd.int .i64) wr Aw row.length row)) (fun _ i _ => row.length - (intOf i).toNat)
  case atStart => exact ⟨0, Nat.zero_le _, rfl, ⟨true, rfl, rfl⟩, HI.out, HRw.out.2⟩
  clear HI HRw hcell
  obtain ⟨k, hk, rfl, ⟨yb, rfl, HYb⟩, HI2⟩ := hrel
  by_cases hlt : k < row.length
  ·
   obtain ⟨ax, eax, hx⟩ := Kd.at_int HI2.out.2 (k : Int) (by omega) (by omega)
   rw [Int.toNat_natCast] at hx
   rw [rd_nat] at hx
   have hst := all_take_step row sl k hlt
   obtain ⟨x, ex⟩ : ∃ x, row.getD k 0 = x := ⟨_, rfl⟩
   rw [ex] at hx hst
   cases eax
   rw [HYb.out] at hst
   have HSt := Go.Lib.hid hst
   clear hst ex
   cases yb with
   | false =>
    go_wp2_with fail
    go_roundw
    case rel => exact ⟨k + 1, by omega, by simp, ⟨false, by simp, by rw [HSt.out]; rfl⟩, HI2.out⟩
    case measure => simp [intOf]; omega
   | true =>
    obtain ⟨hb, ehb⟩ : ∃ hb, decide (x ∈ sl) = hb := ⟨_, rfl⟩
    obtain ⟨K2, hK2⟩ := has_is sl x HI2.out.1.hs.2.1
    have hh := hK2 K2 (Nat.le_refl _)
    rw [ehb] at hh
    have CC := laganref04_Has.calls K2 A5 c5 sl x hb wr HI2.out.1.hs HI2.out.1.ls hh
    have hst := HSt.out
    rw [ehb, Bool.true_and] at hst
    replace HSt := Go.Lib.hid hst
    clear hst ehb hh hK2
    go_wp2_with fail
    refine CC.mono ?_
    clear CC
    rintro e w3 ⟨rfl, hd⟩
    have HI3 := Go.Lib.hid (And.intro (HI2.out.1.later hd.below) (Kd.C_below HI2.out.2 hd.below))
    clear hd HI2
    cases hb with
    | true =>
     go_wp2_with fail
     go_roundw
     case rel => exact ⟨k + 1, by omega, by simp, ⟨true, by simp, HSt.out⟩, HI3.out⟩
     case measure => simp [intOf]; omega
    | false =>
     go_wp2_with fail
     go_roundw
     case rel => exact ⟨k + 1, by omega, by simp, ⟨false, by simp, HSt.out⟩, HI3.out⟩
     case measure => simp [intOf]; omega
  obtain rfl : k = row.length := by omega
  have hyb := HYb.out
  rw [List.take_length] at hyb
  have hin := HIn2.out
  rw [hyb] at hin
  subst hin
  clear hyb HYb
  have HI := Go.Lib.hid HI2.out.1
  clear HI2 hk hlt
  have k0 := HI.out.a.k0
  have k1 := HI.out.a.k1
  have k2 := HI.out.a.k2
  cases inn with
  | true =>
   have CC := laganref04_Chances.calls KC A0 c0 F A1 c1 S A2 c2 T _ cl al _ wr HI.out.a.C0 HI.out.a.l0 HI.out.a.C1 HI.out.a.l1 HI.out.a.C2 HI.out.a.l2 HI.out.hl HI.out.ll HKC.out
   go_wp2_with fail
   clear k0 k1 k2
   refine CC.mono ?_
   clear CC
   rintro e u1 ⟨v, rfl, hRv, hB⟩
   obtain ⟨Ax, cx, rfl, hl9, hC9⟩ := Kd.R_reads (Kd.S_R hRv)
   obtain ⟨ad, Aw, cw, ead, hcell, hlw, hCw⟩ := rows_at hC9 (fn : Int) (by omega) (by omega)
   rw [Int.toNat_natCast] at hcell hlw hCw
   rw [HRow.out] at hcell hlw hCw
   have HRw := Go.Lib.hid (And.intro hlw hCw)
   clear hRv hl9 hC9 hlw hCw
   cases ead
   replace HI := Go.Lib.hid (HI.out.later hB)
   have k0 := HI.out.a.k0
   have k1 := HI.out.a.k1
   have k2 := HI.out.a.k2
   clear hB
   obtain ⟨KH, hKH⟩ := has_is row slot HRw.out.2.2.1
   have hh := hKH KH (Nat.le_refl _)
   rw [HSome.out] at hh
   have HHas := Go.Lib.hid hh
   clear hKH hh
   have CC := laganref04_Has.calls KH Aw cw row slot may u1 HRw.out.2 HRw.out.1 HHas.out
   go_wp2_with fail
   clear k0 k1 k2
   refine CC.mono ?_
   clear CC
   rintro e u2 ⟨rfl, hd⟩
   have hB := hd.below
   clear hd
   replace HI := Go.Lib.hid (HI.out.later hB)
   have k0 := HI.out.a.k0
   have k1 := HI.out.a.k1
   have k2 := HI.out.a.k2
   clear hB
   clear HHas hcell HRw
   obtain ⟨okb, hokb⟩ : ∃ okb, meetsB F S T t = okb := ⟨_, rfl⟩
   obtain ⟨KM, hKM⟩ := refmeets_is HS.out.1 HS.out.2.1 HS.out.2.2.1 HS.out.2.2.2 t
   have hm := hKM KM (Nat.le_refl _)
   rw [if_neg (show ¬ checkB F S T ≠ 0 from fun h => h HC.out.1), hokb] at hm
   have HM := Go.Lib.hid hm
   have HOk := Go.Lib.hid hokb
   clear hKM hm hokb
   have CC := laganref04_Meets.calls KM A0 c0 F A1 c1 S A2 c2 T At ct t _ _ u2 HI.out.a.C0 HI.out.a.l0 HI.out.a.C1 HI.out.a.l1 HI.out.a.C2 HI.out.a.l2 HI.out.ht HI.out.lt HM.out
   go_wp2_with fail
   clear k0 k1 k2
   refine CC.mono ?_
   clear CC
   rintro e u3 ⟨rfl, hB⟩
   replace HI := Go.Lib.hid (HI.out.later hB)
   have k0 := HI.out.a.k0
   have k1 := HI.out.a.k1
   have k2 := HI.out.a.k2
   clear hB
   obtain ⟨db, hdb⟩ : ∃ db, (refuseP F S T (fn : Int) slot r).1 = db := ⟨_, rfl⟩
   obtain ⟨KR, hKR⟩ := refrefuse_is HS.out.1 HS.out.2.1 HS.out.2.2.1 HS.out.2.2.2 (fn : Int) slot r (shown_len HAsk.out HSh.out)
   have hm := hKR KR (Nat.le_refl _)
   rw [refuseP_err HAsk.out, hdb] at hm
   have HM2 := Go.Lib.hid hm
   have HDb := Go.Lib.hid hdb
   clear hKR hm hdb
   have CC := laganref04_CheckRefuse.calls KR A0 c0 F A1 c1 S A2 c2 T (fn : Int) slot Ar cr r _ _ u3 HI.out.a.C0 HI.out.a.l0 HI.out.a.C1 HI.out.a.l1 HI.out.a.C2 HI.out.a.l2 HI.out.hr HI.out.lr HM2.out
   go_wp2_with fail
   clear k0 k1 k2
   refine CC.mono ?_
   clear CC
   rintro e u4 ⟨rfl, hB⟩
   replace HI := Go.Lib.hid (HI.out.later hB)
   have k0 := HI.out.a.k0
   have k1 := HI.out.a.k1
   have k2 := HI.out.a.k2
   clear hB
   clear HM HM2
   have CC := matched_walk u4
   go_wp2_with fail
   clear k0 k1 k2
   refine CC.mono ?_
   clear CC
   rintro e u5 ⟨rfl, hB⟩
   replace HI := Go.Lib.hid (HI.out.later hB)
   have k0 := HI.out.a.k0
   have k1 := HI.out.a.k1
   have k2 := HI.out.a.k2
   clear hB
   cases may with
   | true =>
    obtain ⟨ha, hts, hr0⟩ := HSh.out.yes rfl
    have hok := HOk.out
    rw [(HC.out.2.2.2.2.1 t).2 ha] at hok
    subst hok
    have htl := HC.out.2.2.2.1 t ha
    have hpt : (fn : Int) < (t.length : Int) := by rw [htl]; exact hff
    obtain ⟨at9, eat, hx⟩ := Kd.at_int HI.out.ht (fn : Int) (by omega) hpt
    rw [Int.toNat_natCast] at hx
    rw [rd_nat, hts] at hx
    cases eat
    subst hr0
    have q5 : fn < t.length := by omega
    clear ha hts htl HOk
    go_wp2_with fail
    go_ret
    exact ⟨rfl, HI.out.a.B⟩
   | false =>
    obtain ⟨ht0, hde⟩ := HSh.out.no rfl
    have hdb := HDb.out
    rw [hde] at hdb
    subst hdb
    subst ht0
    clear hde
    go_wp2_with fail
    go_ret
    exact ⟨rfl, HI.out.a.B⟩
  | false =>
   have CC := laganref04_Chances.calls KC A0 c0 F A1 c1 S A2 c2 T _ cl al _ wr HI.out.a.C0 HI.out.a.l0 HI.out.a.C1 HI.out.a.l1 HI.out.a.C2 HI.out.a.l2 HI.out.hl HI.out.ll HKC.out
   go_wp2_with fail
   clear k0 k1 k2
   refine CC.mono ?_
   clear CC
   rintro e u1 ⟨v, rfl, hRv, hB⟩
   obtain ⟨Ax, cx, rfl, hl9, hC9⟩ := Kd.R_reads (Kd.S_R hRv)
   obtain ⟨ad, Aw, cw, ead, hcell, hlw, hCw⟩ := rows_at hC9 (fn : Int) (by omega) (by omega)
   rw [Int.toNat_natCast] at hcell hlw hCw
   rw [HRow.out] at hcell hlw hCw
   have HRw := Go.Lib.hid (And.intro hlw hCw)
   clear hRv hl9 hC9 hlw hCw
   cases ead
   replace HI := Go.Lib.hid (HI.out.later hB)
   have k0 := HI.out.a.k0
   have k1 := HI.out.a.k1
   have k2 := HI.out.a.k2
   clear hB
   obtain ⟨KH, hKH⟩ := has_is row slot HRw.out.2.2.1
   have hh := hKH KH (Nat.le_refl _)
   rw [HSome.out] at hh
   have HHas := Go.Lib.hid hh
   clear hKH hh
   have CC := laganref04_Has.calls KH Aw cw row slot may u1 HRw.out.2 HRw.out.1 HHas.out
   go_wp2_with fail
   clear k0 k1 k2
   refine CC.mono ?_
   clear CC
   rintro e u2 ⟨rfl, hd⟩
   have hB := hd.below
   clear hd
   replace HI := Go.Lib.hid (HI.out.later hB)
   have k0 := HI.out.a.k0
   have k1 := HI.out.a.k1
   have k2 := HI.out.a.k2
   clear hB
   clear HHas hcell HRw
   obtain ⟨okb, hokb⟩ : ∃ okb, meetsB F S T t = okb := ⟨_, rfl⟩
   obtain ⟨KM, hKM⟩ := refmeets_is HS.out.1 HS.out.2.1 HS.out.2.2.1 HS.out.2.2.2 t
   have hm := hKM KM (Nat.le_refl _)
   rw [if_neg (show ¬ checkB F S T ≠ 0 from fun h => h HC.out.1), hokb] at hm
   have HM := Go.Lib.hid hm
   have HOk := Go.Lib.hid hokb
   clear hKM hm hokb
   have CC := laganref04_Meets.calls KM A0 c0 F A1 c1 S A2 c2 T At ct t _ _ u2 HI.out.a.C0 HI.out.a.l0 HI.out.a.C1 HI.out.a.l1 HI.out.a.C2 HI.out.a.l2 HI.out.ht HI.out.lt HM.out
   go_wp2_with fail
   clear k0 k1 k2
   refine CC.mono ?_
   clear CC
   rintro e u3 ⟨rfl, hB⟩
   replace HI := Go.Lib.hid (HI.out.later hB)
   have k0 := HI.out.a.k0
   have k1 := HI.out.a.k1
   have k2 := HI.out.a.k2
   clear hB
   obtain ⟨db, hdb⟩ : ∃ db, (refuseP F S T (fn : Int) slot r).1 = db := ⟨_, rfl⟩
   obtain ⟨KR, hKR⟩ := refrefuse_is HS.out.1 HS.out.2.1 HS.out.2.2.1 HS.out.2.2.2 (fn : Int) slot r (shown_len HAsk.out HSh.out)
   have hm := hKR KR (Nat.le_refl _)
   rw [refuseP_err HAsk.out, hdb] at hm
   have HM2 := Go.Lib.hid hm
   have HDb := Go.Lib.hid hdb
   clear hKR hm hdb
   have CC := laganref04_CheckRefuse.calls KR A0 c0 F A1 c1 S A2 c2 T (fn : Int) slot Ar cr r _ _ u3 HI.out.a.C0 HI.out.a.l0 HI.out.a.C1 HI.out.a.l1 HI.out.a.C2 HI.out.a.l2 HI.out.hr HI.out.lr HM2.out
   go_wp2_with fail
   clear k0 k1 k2
   refine CC.mono ?_
   clear CC
   rintro e u4 ⟨rfl, hB⟩
   replace HI := Go.Lib.hid (HI.out.later hB)
   have k0 := HI.out.a.k0
   have k1 := HI.out.a.k1
   have k2 := HI.out.a.k2
   clear hB
   clear HM HM2
   have CC := matched_walk u4
   go_wp2_with fail
   clear k0 k1 k2
   refine CC.mono ?_
   clear CC
   rintro e u5 ⟨rfl, hB⟩
   replace HI := Go.Lib.hid (HI.out.later hB)
   have k0 := HI.out.a.k0
   have k1 := HI.out.a.k1
   have k2 := HI.out.a.k2
   clear hB
   cases may with
   | true =>
    obtain ⟨ha, hts, hr0⟩ := HSh.out.yes rfl
    have hok := HOk.out
    rw [(HC.out.2.2.2.2.1 t).2 ha] at hok
    subst hok
    have htl := HC.out.2.2.2.1 t ha
    have hpt : (fn : Int) < (t.length : Int) := by rw [htl]; exact hff
    obtain ⟨at9, eat, hx⟩ := Kd.at_int HI.out.ht (fn : Int) (by omega) hpt
    rw [Int.toNat_natCast] at hx
    rw [rd_nat, hts] at hx
    cases eat
    subst hr0
    have q5 : fn < t.length := by omega
    clear ha hts htl HOk
    go_wp2_with fail
    go_ret
    exact ⟨rfl, HI.out.a.B⟩
   | false =>
    obtain ⟨ht0, hde⟩ := HSh.out.no rfl
    have hdb := HDb.out
    rw [hde] at hdb
    subst hdb
    subst ht0
    clear hde
    go_wp2_with fail
    go_ret
    exact ⟨rfl, HI.out.a.B⟩
end Go.Proofs.Ytkmmihadcbfkoaa
end

section
namespace Go.Proofs.Ytkmmihadcbfkoaa
open Go.RowKit Go.Lib Go.Proofs.YtkmmihadcbfkoaaW.PrintWords PM
theorem may_walk (A0 : Option Addr) (c0 : Nat) (F : List Int) (A1 : Option Addr) (c1 : Nat) (S : List S50) (A2 : Option Addr) (c2 : Nat) (T : List (List Int)) (find : Int) (slot : Int) (A5 : Option Addr) (c5 : Nat) (sl : List Int) (w : World)
  (hr0 : Kd.C (Kd.int .i64) w A0 F.length F) (hc0 : F.length ≤ c0) (hr1 : Kd.C k50 w A1 S.length S) (hc1 : S.length ≤ c1) (hr2 : Kd.C (Kd.slice 3 (Kd.int .i64)) w A2 T.length T) (hc2 : T.length ≤ c2) (hr5 : Kd.C (Kd.int .i64) w A5 sl.length sl) (hc5 : sl.length ≤ c5) :
  Calls Try.prog 5 #[.agg #[.slice A0 F.length c0, .slice A1 S.length c1, .slice A2 T.length c2], .int .i64 find, .int .i64 slot, .slice A5 sl.length c5] w fun e w' => e = .returned (.bool true) ∧ Below w.heap.size w w' := by
 cases hF : isF F S T with
 | false => exact may_walk1 A0 c0 F A1 c1 S A2 c2 T find slot A5 c5 sl w hr0 hc0 hr1 hc1 hr2 hc2 hr5 hc5 (fun _ => hF)
 | true =>
  by_cases h : 0 ≤ find ∧ find < (F.length : Int) ∧ risB sl 0 ((S.length : Int) - 1) = true
  rotate_left
  ·
   exact may_walk2 A0 c0 F A1 c1 S A2 c2 T find slot A5 c5 sl w hr0 hc0 hr1 hc1 hr2 hc2 hr5 hc5 (fun _ => ⟨hF, h⟩)
  by_cases g : 0 ≤ slot ∧ slot < (S.length : Int)
  rotate_left
  ·
   exact may_walk3 A0 c0 F A1 c1 S A2 c2 T find slot A5 c5 sl w hr0 hc0 hr1 hc1 hr2 hc2 hr5 hc5 (fun _ => ⟨hF, h.1, h.2.1, h.2.2, g⟩)
  exact may_walk4 A0 c0 F A1 c1 S A2 c2 T find slot A5 c5 sl w hr0 hc0 hr1 hc1 hr2 hc2 hr5 hc5 (fun _ => ⟨hF, h.1, h.2.1, h.2.2, g.1, g.2⟩)
end Go.Proofs.Ytkmmihadcbfkoaa
end

section
namespace Go.Proofs.Ytkmmihadcbfkoaa
open Go.ChangeShapes Go.WideShapes Go.RowKit Go.Deep Go.Joins Go.Proofs.YtkmmihadcbfkoaaW.PrintWords PM
set_option linter.unusedVariables false
set_option linter.unusedSimpArgs false
section
variable {H : Type} {enc : TypeId × Value → H} {W : World} {base : Nat} {held : Bool}
theorem C_of_cells {A : Option Addr} {L C : Nat} {Z : List Int} (hl : L ≤ C) (hm : C ≤ maxLen) (hz : Z.length = C) (hn : A = none → C = 0) (hc : ∀ a, A = some a → ∀ c, c < C → W.cell? (a.add c) = some (.int .i64 (Z.getD c 0))) :
  (Z.take L).length = L ∧ Kd.C (Kd.int .i64) W A L (Z.take L) := by
 have hlen : (Z.take L).length = L := by rw [List.length_take]; omega
 have hmx : maxLen = 9223372036854775807 := rfl
 refine ⟨hlen, ?_⟩
 cases A with
 | none =>
  have h0 : L = 0 := by have := hn rfl; omega
  subst h0
  exact Kd.C_nil _ _
 | some a =>
  refine Kd.C_of_reads (enc := Value.int .i64) (d := (0 : Int)) (h1 := fun _ => rfl) ⟨hlen, by omega, fun _ => ⟨a, rfl, fun j hj => ?_⟩⟩
  rw [hc a rfl j (by omega)]
  simp [List.getD_eq_getElem?_getD, List.getElem?_take, hj]
theorem open_intsC {fuel : Nat} {cs : List Value} {x : DataW H × List MemPlace} (h : DataW.trod enc Try.prog W base (fun _ => true) held fuel 22 cs = some x) :
  ∃ A c F, cs = [.slice A F.length c] ∧ F.length ≤ c ∧ Kd.C (Kd.int .i64) W A F.length F := by
 rcases open_ints Try.underlying22 Try.underlying3 (by kernel_rfl) h with ⟨rfl, _⟩ | ⟨a, len, cap, zs, rfl, _, hl, hm, hz, _, hcell, _⟩
 ·
  exact ⟨none, 0, [], rfl, Nat.zero_le _, Kd.C_nil _ _⟩
 simp only [if_true] at hz
 obtain ⟨e, hC⟩ := C_of_cells (W := W) (A := some a) (L := len) (C := cap) (Z := zs) hl hm hz (fun k => by cases k) (fun a' k c hc => by cases k; exact hcell c (by omega))
 exact ⟨some a, cap, zs.take len, by rw [e], by rw [e]; exact hl, by rw [e]; exact hC⟩
theorem open_rowsC {fuel : Nat} {cs : List Value} {x : DataW H × List MemPlace} (h : DataW.trod enc Try.prog W base (fun _ => true) held fuel 24 cs = some x) :
  ∃ A c T, cs = [.slice A T.length c] ∧ T.length ≤ c ∧ Kd.C (Kd.slice 3 (Kd.int .i64)) W A T.length T := by
 rcases open_int_rows Try.underlying24 Try.underlying22 Try.underlying3 (by kernel_rfl) (by kernel_rfl) h with ⟨rfl, _⟩ | ⟨a, len, cap, A, L, C, Z, rfl, _, hl, hm, _, hr⟩
 ·
  exact ⟨none, 0, [], rfl, Nat.zero_le _, Kd.C_nil _ _⟩
 have hmx : maxLen = 9223372036854775807 := rfl
 have hlen : ((List.range len).map fun r => (Z r).take (L r)).length = len := by simp
 refine ⟨some a, cap, (List.range len).map fun r => (Z r).take (L r), by rw [hlen], by rw [hlen]; exact hl, ?_⟩
 rw [hlen]
 refine ⟨hlen, by omega, fun _ => ⟨a, rfl, fun j p hj => ?_⟩⟩
 obtain ⟨hjl, hp⟩ := List.getElem?_eq_some_iff.1 hj
 rw [hlen] at hjl
 rw [List.getElem_map, List.getElem_range] at hp
 obtain ⟨h1, h2, h3, h4, _, h6, h7⟩ := hr j (by omega)
 obtain ⟨e, hC⟩ := C_of_cells (W := W) (A := A j) h2 h3 h4 h6 (fun a' k => (h7 a' k).2)
 rw [hp] at e hC
 refine ⟨[.slice (A j) (L j) (C j)], rfl, ⟨A j, C j, by rw [e], by rw [e]; exact h2, by rw [e]; exact hC⟩, fun i u hu => ?_⟩
 cases i with
 | zero =>
  simp only [List.getElem?_cons_zero, Option.some.injEq] at hu
  subst hu
  show W.cell? (a.add (j * 1 + 0)) = _
  rw [Nat.mul_one, Nat.add_zero]
  exact h1
 | succ i => simp at hu
set_option maxRecDepth 100000 in
theorem open_slotsC {fuel : Nat} {cs : List Value} {x : DataW H × List MemPlace} (h : DataW.trod enc Try.prog W base (fun _ => true) held fuel 23 cs = some x) :
  ∃ A c S, cs = [.slice A S.length c] ∧ S.length ≤ c ∧ Kd.C k50 W A S.length S := by
 rcases open_slice Try.underlying23 h with ⟨rfl, _⟩ | ⟨a, len, cap, m, n, D, Pl, rfl, _, hl, hm, hmm, _, hx⟩
 ·
  exact ⟨none, 0, [], rfl, Nat.zero_le _, Kd.C_nil _ _⟩
 simp only [if_true] at hmm
 have hmx : maxLen = 9223372036854775807 := rfl
 have hsz : Try.prog.cellsOf 50 = 3 := by kernel_rfl
 have c3 : Try.prog.cellsOf 3 = 1 := by kernel_rfl
 rw [hsz] at hx
 have each : ∀ i, i < len → ∃ s : Int × Int × Int, W.cell? (a.add (i * 3 + 0)) = some (.int .i64 s.1) ∧ W.cell? (a.add (i * 3 + 1)) = some (.int .i64 s.2.1) ∧ W.cell? (a.add (i * 3 + 2)) = some (.int .i64 s.2.2) := fun i hi => by
  obtain ⟨cs', hcs, ht⟩ := hx i (by omega)
  obtain ⟨_, hlen, hcell⟩ := World.cells?_some hcs
  obtain ⟨y0, y1, y2, n', _, _, g0, g1, g2⟩ := trod_struct3 Try.underlying50 ht
  obtain ⟨u0, u1, u2, rfl⟩ : ∃ u0 u1 u2, cs' = [u0, u1, u2] := by
   match cs', hlen with
   | [u0, u1, u2], _ => exact ⟨u0, u1, u2, rfl⟩
  obtain ⟨n0, e0, _⟩ := DataW.trod_int Try.underlying3 g0
  obtain ⟨n1, e1, _⟩ := DataW.trod_int Try.underlying3 g1
  obtain ⟨n2, e2, _⟩ := DataW.trod_int Try.underlying3 g2
  rw [c3] at e0 e1 e2
  simp only [List.drop_zero, List.drop_succ_cons, List.take_succ_cons, List.take_zero, List.cons.injEq, and_true] at e0 e1 e2
  subst e0 e1 e2
  have k0 := hcell 0 (by omega)
  have k1 := hcell 1 (by omega)
  have k2 := hcell 2 (by omega)
  rw [Deep.add_add] at k0 k1 k2
  exact ⟨(n0, n1, n2), k0, k1, k2⟩
 obtain ⟨f, hf⟩ := choose_lt (α := Int × Int × Int) each
 have hlen : ((List.range len).map fun r => (⟨(f r).1, (f r).2.1, (f r).2.2⟩ : S50)).length = len := by simp
 refine ⟨some a, cap, (List.range len).map fun r => (⟨(f r).1, (f r).2.1, (f r).2.2⟩ : S50), by rw [hlen], by rw [hlen]; exact hl, ?_⟩
 rw [hlen]
 refine ⟨hlen, by omega, fun _ => ⟨a, rfl, fun j p hj => ?_⟩⟩
 obtain ⟨hjl, hp⟩ := List.getElem?_eq_some_iff.1 hj
 rw [hlen] at hjl
 rw [List.getElem_map, List.getElem_range] at hp
 obtain ⟨h0, h1, h2⟩ := hf j hjl
 refine ⟨[.int .i64 p.f0, .int .i64 p.f1, .int .i64 p.f2], rfl, k50_mk W p, fun i u hu => ?_⟩
 subst hp
 match i, hu with
 | 0, hu => simp only [List.getElem?_cons_zero, Option.some.injEq] at hu; subst hu; exact h0
 | 1, hu => simp only [List.getElem?_cons_succ, List.getElem?_cons_zero, Option.some.injEq] at hu; subst hu; exact h1
 | 2, hu => simp only [List.getElem?_cons_succ, List.getElem?_cons_zero, Option.some.injEq] at hu; subst hu; exact h2
 | i + 3, hu => simp at hu
set_option maxRecDepth 100000 in
theorem open_listV {r : Reach} {b0 : Nat} {v : Value} {d : DataW H} {p : List MemPlace} (hv : Value.okWide Try.prog W r b0 22 v) (h : DataW.Trod enc Try.prog W base (fun _ => true) held 22 v d p) :
  ∃ A c F, v = .slice A F.length c ∧ F.length ≤ c ∧ Kd.C (Kd.int .i64) W A F.length F := by
 obtain ⟨A, n, c, rfl⟩ := okWide_slice Try.underlying22 hv
 obtain ⟨fuel, hf⟩ := h
 obtain ⟨A', c', F, e, hl, hC⟩ := open_intsC hf
 simp only [Value.cells, List.cons.injEq, Value.slice.injEq, and_true] at e
 obtain ⟨rfl, rfl, rfl⟩ := e
 exact ⟨A, c, F, rfl, hl, hC⟩
set_option maxRecDepth 100000 in
theorem open_boardV {r : Reach} {b0 : Nat} {v : Value} {d : DataW H} {p : List MemPlace} (hv : Value.okWide Try.prog W r b0 26 v) (h : DataW.Trod enc Try.prog W base (fun _ => true) held 26 v d p) :
  ∃ A0 c0 F A1 c1 S A2 c2 T, v = .agg #[.slice A0 F.length c0, .slice A1 S.length c1, .slice A2 T.length c2] ∧ Kd.C (Kd.int .i64) W A0 F.length F ∧ F.length ≤ c0 ∧ Kd.C k50 W A1 S.length S ∧ S.length ≤ c1 ∧ Kd.C (Kd.slice 3 (Kd.int .i64)) W A2 T.length T ∧ T.length ≤ c2 := by
 obtain ⟨v0, v1, v2, y0, y1, y2, n, rfl, _, _, h0, h1, h2⟩ := open_agg3 Try.underlying26 (by kernel_rfl) (by kernel_rfl) hv h
 obtain ⟨A0, c0, F, e0, l0, C0⟩ := open_intsC h0
 obtain ⟨A1, c1, S, e1, l1, C1⟩ := open_slotsC h1
 obtain ⟨A2, c2, T, e2, l2, C2⟩ := open_rowsC h2
 simp only [List.cons.injEq, and_true] at e0 e1 e2
 subst e0 e1 e2
 exact ⟨A0, c0, F, A1, c1, S, A2, c2, T, rfl, C0, l0, C1, l1, C2, l2⟩
end
end Go.Proofs.Ytkmmihadcbfkoaa
end

section
namespace Go.Proofs.Ytkmmihadcbfkoaa
open Go.ChangeShapes Go.WideShapes Go.ChangeAt Go.RowKit Go.Proofs.YtkmmihadcbfkoaaW.PrintWords PM
set_option linter.unusedVariables false
set_option linter.unusedSimpArgs false
theorem matchMay_own : ownKnob Try.prog.godebug = none := by kernel_rfl
theorem matchMay_laid : laidOutB Try.prog = true := by kernel_rfl
set_option maxRecDepth 100000 in
theorem matchMay_lifted (os : Os) (started : os.Started) (H : Type) (enc : TypeId × Value → H) :
  ReturnsInHanded {} Try.checked os 5 .any (Rows.matchMaySpec.pre6 enc Try.prog Try.f5 Rows.matchMayRow.domain false) (Rows.matchMaySpec.post enc Try.prog Try.f5 false true false false) := by
 refine returnsInHanded_of_change (C := Try.checked) matchMay_own started (by kernel_rfl) Try.func5
  (ChangeSpec.witness6 (enc := enc) (C := Try.checked) false ⟨#[], #[.agg #[.slice none 0 0, .slice none 0 0, .slice none 0 0], .int .i64 0, .int .i64 0, .slice none 0 0], []⟩ 8 (by kernel_rfl) (by kernel_rfl) (by kernel_rfl) (by kernel_rfl)) ?_
 intro W base args ds gs before hval0 hW hcnd _
 have hval : ∀ (j : Nat) t v, Try.f5.params[j]? = some t → args[j]? = some v → Value.okWide Try.prog W .any base t v := hval0
 have hW' := hW
 obtain ⟨p, q, hA0, hV, rfl, hfz, hnd⟩ := hW
 have hA : DataW.TrodAll enc Try.prog W 0 (fun _ => true) true Try.f5.params.toList args.toList ds p := hA0
 rw [Try.params5] at hA hval
 obtain ⟨v0, vs0, d0, ds0, p0, q0, hargs, rfl, rfl, h0, r0⟩ := trodAll_cons hA
 obtain ⟨v1, vs1, d1, ds1, p1, q1, rfl, rfl, rfl, h1, r1⟩ := trodAll_cons r0
 obtain ⟨v2, vs2, d2, ds2, p2, q2, rfl, rfl, rfl, h2, r2⟩ := trodAll_cons r1
 obtain ⟨v3, vs3, d3, ds3, p3, q3, rfl, rfl, rfl, h3, r3⟩ := trodAll_cons r2
 obtain ⟨rfl, rfl, rfl⟩ := trodAll_nil r3
 obtain rfl : args = #[v0, v1, v2, v3] := by cases args; simp_all
 obtain ⟨rfl, rfl⟩ := trodVars_none hV
 have k0 := h0
 have lt0 : ∀ x ∈ p0, x.block < W.heap.size := by obtain ⟨m, hm⟩ := k0; exact DataW.trod_lt m _ _ _ hm
 obtain ⟨A0a, c0a, F, A0b, c0b, S, A0c, c0c, T, rfl, Ca, la, Cb, lb, Cc, lc⟩ := open_boardV (hval 0 26 v0 rfl rfl) h0
 obtain ⟨x1, rfl, rfl, rfl, w1⟩ := open_int Try.underlying3 (hval 1 3 v1 rfl rfl) h1
 obtain ⟨x2, rfl, rfl, rfl, w2⟩ := open_int Try.underlying3 (hval 2 3 v2 rfl rfl) h2
 have k3 := h3
 have lt3 : ∀ x ∈ p3, x.block < W.heap.size := by obtain ⟨m, hm⟩ := k3; exact DataW.trod_lt m _ _ _ hm
 obtain ⟨A3, c3, x3, rfl, l3, C3⟩ := open_listV (hval 3 22 v3 rfl rfl) h3
 clear hA0 hval0
 refine (may_walk A0a c0a F A0b c0b S A0c c0c T x1 x2 A3 c3 x3 W Ca la Cb lb Cc lc C3 l3).mono fun e W' ⟨he, bel⟩ => ?_
 subst he
 exact ⟨_, rfl, _, _, _, [], _, [], hW', trodAll_mk1 (shut_bool Try.underlying4 _), (trodAll_cons_mk (Below.trod matchMay_laid (by kernel_rfl) (of_decide_eq_true (by kernel_rfl)) k0 bel lt0) (trodAll_cons_mk (shut_int Try.underlying3 w1) (trodAll_cons_mk (shut_int Try.underlying3 w2) (trodAll_cons_mk (Below.trod matchMay_laid (by kernel_rfl) (of_decide_eq_true (by kernel_rfl)) k3 bel lt3) trodAll_mk0)))), rfl, bel.frame _, fun h => by cases h⟩
theorem matchMay_holds : Rows.MatchMaySaid :=
 OpenClaim.holds_of_wide 5 Try.f5 rfl rfl rfl rfl rfl rfl rfl ⟨rfl, rfl, rfl, rfl, rfl⟩ rfl rfl rfl rfl rfl (by kernel_rfl) Try.func5 (by kernel_rfl)
  (of_decide_eq_true (by kernel_rfl)) (by unfold Func.isWrapper; first | (rw [if_pos (by decide +kernel)]; kernel_rfl) | (rw [if_neg (by decide +kernel)]; exact ⟨rfl, rfl⟩))
  (fun os started H enc _ => matchMay_lifted os started H enc)
#print axioms matchMay_holds
end Go.Proofs.Ytkmmihadcbfkoaa
end
