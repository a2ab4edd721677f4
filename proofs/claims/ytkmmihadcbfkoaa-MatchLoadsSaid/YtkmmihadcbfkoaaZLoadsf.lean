/-
  MatchLoads holds: for every board, list and slot, the law returns true and what it is given reads as it did. (part 6 of 6 of the texts that it stands on)
-/
import Derived.Laws.EntriesVeiled
import Derived.Lib.SmallJoins
import Derived.Deep.Matrix
import Derived.Deep.Slices
import Derived.Deep.Strs
import Derived.ChangeSlices
import Derived.ProofKit
import Derived.OpenShut
import Derived.ChangeOld
import Derived.Below
import Derived.WalkKit
import Derived.Test.YtkmmihadcbfkoaaRows
import Derived.Test.YtkmmihadcbfkoaaZLoadse
section
namespace Go.Proofs.Ytkmmihadcbfkoaa
open Go.RowKit Go.Proofs.YtkmmihadcbfkoaaW.PrintWords PM
set_option linter.unusedVariables false
set_option linter.unusedSimpArgs false
def bdF : List Int := [10, 20, 30]
def bdS (p : Int) : List S50 := [⟨1, 1, p⟩, ⟨1, 2, 1⟩, ⟨1, 3, 1⟩]
def bdT : List (List Int) := [[0], [0, 1], [0, 1, 2]]
theorem rowC {W : World} {b t : Nat} {cs : Array Value} {fr : Nat × Nat} {l : List Int} (h : W.heap[b]? = some (.cells cs t fr)) (hl : l.length ≤ 9223372036854775807) (hc : ∀ (j : Nat) (v : Int), l[j]? = some v → cs[j]? = some (Value.int .i64 v)) : Kd.C (Kd.int .i64) W (some ⟨b, 0, none⟩) l.length l :=
  Kd.C_of_reads (enc := Value.int .i64) (d := (0 : Int)) (h1 := fun _ => rfl) ⟨rfl, hl, fun _ => ⟨⟨b, 0, none⟩, rfl, fun j hj => by
    rw [add_plain]
    have := hc j l[j] (List.getElem?_eq_getElem hj)
    simp [World.cell?, h, this, List.getD_eq_getElem?_getD, List.getElem?_eq_getElem hj]⟩⟩
theorem rowsC {W : World} {b t : Nat} {cs : Array Value} {fr : Nat × Nat} {T : List (List Int)} (h : W.heap[b]? = some (.cells cs t fr)) (hl : T.length ≤ 9223372036854775807)
    (hc : ∀ (j : Nat) (l : List Int), T[j]? = some l → ∃ A c, cs[j]? = some (Value.slice A l.length c) ∧ l.length ≤ c ∧ Kd.C (Kd.int .i64) W A l.length l) : Kd.C (Kd.slice 3 (Kd.int .i64)) W (some ⟨b, 0, none⟩) T.length T :=
  ⟨rfl, hl, fun _ => ⟨⟨b, 0, none⟩, rfl, fun j l hj => by
    obtain ⟨A, c, h1, h2, h3⟩ := hc j l hj
    refine ⟨[.slice A l.length c], rfl, ⟨A, c, rfl, h2, h3⟩, fun i u hu => ?_⟩
    have hi : i = 0 := by
      have := (List.getElem?_eq_some_iff.1 hu).1
      simpa using this
    subst hi
    have hu : Value.slice A l.length c = u := by simpa using hu
    subst hu
    show W.cell? ((⟨b, 0, none⟩ : Addr).add (j * 1 + 0)) = _
    rw [add_plain]
    simp [World.cell?, h, h1]⟩⟩
theorem slotsC {W : World} {b t : Nat} {cs : Array Value} {fr : Nat × Nat} {S : List S50} (h : W.heap[b]? = some (.cells cs t fr)) (hl : S.length ≤ 9223372036854775807)
    (hc : ∀ (j : Nat) (s : S50), S[j]? = some s → cs[j * 3]? = some (Value.int .i64 s.f0) ∧ cs[j * 3 + 1]? = some (Value.int .i64 s.f1) ∧ cs[j * 3 + 2]? = some (Value.int .i64 s.f2)) : Kd.C k50 W (some ⟨b, 0, none⟩) S.length S :=
  ⟨rfl, hl, fun _ => ⟨⟨b, 0, none⟩, rfl, fun j s hj => by
    obtain ⟨h0, h1, h2⟩ := hc j s hj
    refine ⟨[.int .i64 s.f0, .int .i64 s.f1, .int .i64 s.f2], rfl, k50_mk W s, fun i u hu => ?_⟩
    show W.cell? ((⟨b, 0, none⟩ : Addr).add (j * 3 + i)) = _
    rw [add_plain]
    have hi := (List.getElem?_eq_some_iff.1 hu).1
    match i, hi, hu with
    | 0, _, hu =>
      have hu : Value.int .i64 s.f0 = u := by simpa using hu
      subst hu
      simp [World.cell?, h, h0]
    | 1, _, hu =>
      have hu : Value.int .i64 s.f1 = u := by simpa using hu
      subst hu
      simp [World.cell?, h, h1]
    | 2, _, hu =>
      have hu : Value.int .i64 s.f2 = u := by simpa using hu
      subst hu
      simp [World.cell?, h, h2]⟩⟩
def BoardPost (F : List Int) (S : List S50) (T : List (List Int)) (w : World) (e : Ending) (w' : World) : Prop :=
  ∃ A0 c0 A1 c1 A2 c2, e = .returned (.agg #[.slice A0 F.length c0, .slice A1 S.length c1, .slice A2 T.length c2]) ∧ F.length ≤ c0 ∧ S.length ≤ c1 ∧ T.length ≤ c2 ∧ Kd.C (Kd.int .i64) w' A0 F.length F ∧ Kd.C k50 w' A1 S.length S ∧ Kd.C (Kd.slice 3 (Kd.int .i64)) w' A2 T.length T ∧ Below w.heap.size w w'
set_option maxRecDepth 100000 in
set_option maxHeartbeats 8000000 in
theorem board_calls (p : Int) (w : World) : Calls Try.prog 51 #[.int .i64 p] w (BoardPost bdF (bdS p) bdT w) := by
  go_enter Try.func51, Try.ntmps51
  go_wp2_with fail
  have hB : Below w.heap.size w (((((((w.alloc (.cells #[.slice (some ⟨w.heap.size + 1, 0, none⟩) 3 3, .slice (some ⟨w.heap.size + 1 + 1, 0, none⟩) 3 3, .slice (some ⟨w.heap.size + 1 + 1 + 1 + 1 + 1 + 1, 0, none⟩) 3 3] 26)).alloc (.cells #[.int .i64 10, .int .i64 20, .int .i64 30] 3)).alloc
      (.cells #[.int .i64 1, .int .i64 1, .int .i64 p, .int .i64 1, .int .i64 2, .int .i64 1, .int .i64 1, .int .i64 3, .int .i64 1] 50)).alloc (.cells #[.int .i64 0] 3)).alloc (.cells #[.int .i64 0, .int .i64 1] 3)).alloc (.cells #[.int .i64 0, .int .i64 1, .int .i64 2] 3)).alloc
      (.cells #[.slice (some ⟨w.heap.size + 1 + 1 + 1, 0, none⟩) 1 1, .slice (some ⟨w.heap.size + 1 + 1 + 1 + 1, 0, none⟩) 2 2, .slice (some ⟨w.heap.size + 1 + 1 + 1 + 1 + 1, 0, none⟩) 3 3] 22)) := by
    repeat (first | exact Below.refl _ _ | refine below_alloc ?_ _)
  obtain ⟨W, hW⟩ : ∃ W, (((((((w.alloc (.cells #[.slice (some ⟨w.heap.size + 1, 0, none⟩) 3 3, .slice (some ⟨w.heap.size + 1 + 1, 0, none⟩) 3 3, .slice (some ⟨w.heap.size + 1 + 1 + 1 + 1 + 1 + 1, 0, none⟩) 3 3] 26)).alloc (.cells #[.int .i64 10, .int .i64 20, .int .i64 30] 3)).alloc
      (.cells #[.int .i64 1, .int .i64 1, .int .i64 p, .int .i64 1, .int .i64 2, .int .i64 1, .int .i64 1, .int .i64 3, .int .i64 1] 50)).alloc (.cells #[.int .i64 0] 3)).alloc (.cells #[.int .i64 0, .int .i64 1] 3)).alloc (.cells #[.int .i64 0, .int .i64 1, .int .i64 2] 3)).alloc
      (.cells #[.slice (some ⟨w.heap.size + 1 + 1 + 1, 0, none⟩) 1 1, .slice (some ⟨w.heap.size + 1 + 1 + 1 + 1, 0, none⟩) 2 2, .slice (some ⟨w.heap.size + 1 + 1 + 1 + 1 + 1, 0, none⟩) 3 3] 22)) = W := ⟨_, rfl⟩
  have e0 : W.heap[w.heap.size]? = some (.cells #[.slice (some ⟨w.heap.size + 1, 0, none⟩) 3 3, .slice (some ⟨w.heap.size + 1 + 1, 0, none⟩) 3 3, .slice (some ⟨w.heap.size + 1 + 1 + 1 + 1 + 1 + 1, 0, none⟩) 3 3] 26 (0, 0)) := by
    rw [← hW]
    repeat (first | exact blk_new _ _ | (refine (congrArg _ ?_).trans (blk_new _ _); simp only [World.size_alloc]; done) | refine blk_alloc ?_ _)
  have e1 : W.heap[w.heap.size + 1]? = some (.cells #[.int .i64 10, .int .i64 20, .int .i64 30] 3 (0, 0)) := by
    rw [← hW]
    repeat (first | exact blk_new _ _ | (refine (congrArg _ ?_).trans (blk_new _ _); simp only [World.size_alloc]; done) | refine blk_alloc ?_ _)
  have e2 : W.heap[w.heap.size + 1 + 1]? = some (.cells #[.int .i64 1, .int .i64 1, .int .i64 p, .int .i64 1, .int .i64 2, .int .i64 1, .int .i64 1, .int .i64 3, .int .i64 1] 50 (0, 0)) := by
    rw [← hW]
    repeat (first | exact blk_new _ _ | (refine (congrArg _ ?_).trans (blk_new _ _); simp only [World.size_alloc]; done) | refine blk_alloc ?_ _)
  have e3 : W.heap[w.heap.size + 1 + 1 + 1]? = some (.cells #[.int .i64 0] 3 (0, 0)) := by
    rw [← hW]
    repeat (first | exact blk_new _ _ | (refine (congrArg _ ?_).trans (blk_new _ _); simp only [World.size_alloc]; done) | refine blk_alloc ?_ _)
  have e4 : W.heap[w.heap.size + 1 + 1 + 1 + 1]? = some (.cells #[.int .i64 0, .int .i64 1] 3 (0, 0)) := by
    rw [← hW]
    repeat (first | exact blk_new _ _ | (refine (congrArg _ ?_).trans (blk_new _ _); simp only [World.size_alloc]; done) | refine blk_alloc ?_ _)
  have e5 : W.heap[w.heap.size + 1 + 1 + 1 + 1 + 1]? = some (.cells #[.int .i64 0, .int .i64 1, .int .i64 2] 3 (0, 0)) := by
    rw [← hW]
    repeat (first | exact blk_new _ _ | (refine (congrArg _ ?_).trans (blk_new _ _); simp only [World.size_alloc]; done) | refine blk_alloc ?_ _)
  have e6 : W.heap[w.heap.size + 1 + 1 + 1 + 1 + 1 + 1]? = some (.cells #[.slice (some ⟨w.heap.size + 1 + 1 + 1, 0, none⟩) 1 1, .slice (some ⟨w.heap.size + 1 + 1 + 1 + 1, 0, none⟩) 2 2, .slice (some ⟨w.heap.size + 1 + 1 + 1 + 1 + 1, 0, none⟩) 3 3] 22 (0, 0)) := by
    rw [← hW]
    repeat (first | exact blk_new _ _ | (refine (congrArg _ ?_).trans (blk_new _ _); simp only [World.size_alloc]; done) | refine blk_alloc ?_ _)
  rw [hW] at hB ⊢
  refine bodyPost_ret (results_cell_row rfl _ _ w.heap.size 26 _ (0, 0) _ rfl e0 Try.underlying26 rfl (by kernel_rfl)) rfl ?_
  have r0 := rowC (l := [0]) e3 (by decide) (fun j v hv => by
    match j, hv with
    | 0, hv => have : (0 : Int) = v := by simpa using hv
               subst this; rfl)
  have r1 := rowC (l := [0, 1]) e4 (by decide) (fun j v hv => by
    match j, hv with
    | 0, hv => have : (0 : Int) = v := by simpa using hv
               subst this; rfl
    | 1, hv => have : (1 : Int) = v := by simpa using hv
               subst this; rfl)
  have r2 := rowC (l := [0, 1, 2]) e5 (by decide) (fun j v hv => by
    match j, hv with
    | 0, hv => have : (0 : Int) = v := by simpa using hv
               subst this; rfl
    | 1, hv => have : (1 : Int) = v := by simpa using hv
               subst this; rfl
    | 2, hv => have : (2 : Int) = v := by simpa using hv
               subst this; rfl)
  refine ⟨_, _, _, _, _, _, rfl, by decide, by simp [bdS], by decide, rowC (l := bdF) e1 (by decide) (fun j v hv => ?_), slotsC e2 (by simp [bdS]) (fun j v hv => ?_), rowsC e6 (by decide) (fun j v hv => ?_), hB⟩
  · match j, hv with
    | 0, hv => have : (10 : Int) = v := by simpa [bdF] using hv
               subst this; rfl
    | 1, hv => have : (20 : Int) = v := by simpa [bdF] using hv
               subst this; rfl
    | 2, hv => have : (30 : Int) = v := by simpa [bdF] using hv
               subst this; rfl
    | n + 3, hv => simp [bdF] at hv
  · match j, hv with
    | 0, hv => have : (⟨1, 1, p⟩ : S50) = v := by simpa [bdS] using hv
               subst this; exact ⟨rfl, rfl, rfl⟩
    | 1, hv => have : (⟨1, 2, 1⟩ : S50) = v := by simpa [bdS] using hv
               subst this; exact ⟨rfl, rfl, rfl⟩
    | 2, hv => have : (⟨1, 3, 1⟩ : S50) = v := by simpa [bdS] using hv
               subst this; exact ⟨rfl, rfl, rfl⟩
    | n + 3, hv => simp [bdS] at hv
  · match j, hv with
    | 0, hv => have : ([0] : List Int) = v := by simpa [bdT] using hv
               subst this; exact ⟨_, _, rfl, by decide, r0⟩
    | 1, hv => have : ([0, 1] : List Int) = v := by simpa [bdT] using hv
               subst this; exact ⟨_, _, rfl, by decide, r1⟩
    | 2, hv => have : ([0, 1, 2] : List Int) = v := by simpa [bdT] using hv
               subst this; exact ⟨_, _, rfl, by decide, r2⟩
    | n + 3, hv => simp [bdT] at hv
end Go.Proofs.Ytkmmihadcbfkoaa
end

section
namespace Go.Proofs.Ytkmmihadcbfkoaa
open Go.RowKit Go.Proofs.YtkmmihadcbfkoaaW.PrintWords PM
set_option linter.unusedVariables false
set_option linter.unusedSimpArgs false
def chancesF (fits : List (List Int)) (room : List Int) (ns : Nat) (has : List Int) (find : Nat) : List Int := (fits.getD find []).filter fun s => (withF fits room ns has find s).ok
theorem TGood.later {t : TL} {fits : List (List Int)} {room has : List Int} {w w' : World} (h : TGood t fits room has w) (hb : Below w.heap.size w w') : TGood t fits room has w' :=
  ⟨h.fit, h.st.later (Agree.of_below hb), h.row.below hb, h.len, h.capr, h.caph, h.rooms, h.s0, h.caps⟩
def OneList (l : List Int) (w : World) (e : Ending) (w' : World) : Prop := ∃ v, e = .returned v ∧ Kd.R (Kd.int .i64) 3 w' w.heap.size (fun _ => True) v l ∧ Below w.heap.size w w'
set_option maxRecDepth 100000 in
set_option maxHeartbeats 8000000 in
theorem chances_calls (t : TL) (fits : List (List Int)) (room has : List Int) (find : Nat) (w : World) (hfd : find < t.nh) (hG : TGood t fits room has w) :
    Calls Try.prog 57 #[.pointer (some ⟨t.g, 0, none⟩), .int .i64 find] w (OneList (chancesF fits room t.n1 has find) w) := by
  have hst := hG.st.still
  have f2 := hst.f2
  have hft : find < fits.length := by rw [hG.fit.finds]; exact hfd
  obtain ⟨a2, e2, hx, hC⟩ := hst.fits find hft
  have hcap := hG.caps find hft
  have hrl := hG.fit.row find hft
  have WC : ∀ (s : Int) (W : World), Below w.heap.size w W → Calls Try.prog 67 #[.pointer (some ⟨t.g, 0, none⟩), .int .i64 find, .int .i64 s] W (WithPost (withF fits room t.n1 has find s) W) := fun s W hb => with_calls t fits room has find s W hfd (hG.later hb)
  unfold chancesF
  obtain ⟨row, hrw⟩ : ∃ row, fits.getD find [] = row := ⟨_, rfl⟩
  rw [hrw] at hx hC hcap hrl ⊢
  obtain ⟨p, hp⟩ : ∃ p : Int → WR, (fun s => withF fits room t.n1 has find s) = p := ⟨_, rfl⟩
  have WC : ∀ (s : Int) (W : World), Below w.heap.size w W → Calls Try.prog 67 #[.pointer (some ⟨t.g, 0, none⟩), .int .i64 find, .int .i64 s] W (WithPost (p s) W) := by rw [← hp]; exact WC
  rw [show (fun s => (withF fits room t.n1 has find s).ok) = fun s => (p s).ok from by rw [← hp]]
  rw [e2] at f2
  have lFi : fits.length ≤ 1000 := by rw [hG.fit.finds]; exact hG.fit.nh
  have hlf : (find : Int) < (fits.length : Int) := by omega
  have HC := Go.Lib.hid hC
  clear hG hst hrw hC hp e2
  go_enter Try.func57, Try.ntmps57
  go_wp2_with fail
  go_loopw [5, 22] (fun o i wr => ∃ k : Nat, k ≤ row.length ∧ i = .int .i64 k ∧ Hid (Kd.R (Kd.int .i64) 3 wr w.heap.size (fun _ => True) o ((row.take k).filter fun s => (p s).ok) ∧ Below w.heap.size w wr)) (fun _ i _ => row.length - (intOf i).toNat)
  case atStart => exact ⟨0, Nat.zero_le _, rfl, Kd.R_nil _ _ _ _ _, Below.refl _ _⟩
  case round =>
    obtain ⟨k, hk, rfl, HID⟩ := hrel
    obtain ⟨hR, hbl⟩ := HID.out
    by_cases hlt : k < row.length
    · obtain ⟨a9, e9, x9⟩ := Kd.at_int (Kd.C_below HC.out hbl) (k : Int) (by omega) (by omega)
      rw [Int.toNat_natCast, show rd row (k : Int) = row.getD k 0 from by simp [rd]] at x9
      have htk : row.take (k + 1) = row.take k ++ [row.getD k 0] := by
        rw [List.take_succ_eq_append_getElem hlt]
        simp [List.getD_eq_getElem?_getD, List.getElem?_eq_getElem hlt]
      obtain ⟨s9, hs9⟩ : ∃ s9, row.getD k 0 = s9 := ⟨_, rfl⟩
      rw [hs9] at x9 htk
      have WC9 := WC s9 wr hbl
      unfold WithPost at WC9
      obtain ⟨ok, hok⟩ : ∃ ok, (p s9).ok = ok := ⟨_, rfl⟩
      rw [hok] at WC9
      have hfl : ((row.take k).filter fun s => (p s).ok).length ≤ k := Nat.le_trans (List.length_filter_le _ _) (by simp; omega)
      have HTK := Go.Lib.hid htk
      have HOK := Go.Lib.hid hok
      have HR := Go.Lib.hid hR
      have HBL := Go.Lib.hid hbl
      have e9' := e9
      clear htk hok hR hbl hs9 HID
      rw [e9'] at *
      go_wp2_with fail
      refine WC9.mono ?_
      clear WC9
      rintro e w1 ⟨v1, rfl, _, hb1⟩
      have hB1 := HBL.out.trans (hb1.mono HBL.out.size)
      have hR1 : Kd.R (Kd.int .i64) 3 w1 w.heap.size (fun _ => True) u5 ((row.take k).filter fun s => (p s).ok) := Kd.R_of_own (enc := Value.int .i64) (h1 := fun _ => rfl) (ok := fun _ => True) (pw_own_below (Kd.own_of_R HR.out) hb1) (fun _ _ => trivial)
      have HR1 := Go.Lib.hid hR1
      have HB1 := Go.Lib.hid hB1
      clear hb1 hB1 hR1
      cases ok with
      | true =>
        go_wp2_with (first | (at_builtin; refine Kd.R_append (Kd.int .i64) (w0 := w) w.heap.size rfl (.tmp 34) (.tmp 36) 22 3 (.int .i64 0) 8 rfl Try.underlying22 info3 rfl (by decide) (by omega) u5 ((row.take k).filter fun s => (p s).ok) s9 [.int .i64 s9] (fun _ => True) (fun _ => False) rfl rfl rfl (fun _ hk => hk.elim) (fun _ _ => trivial) HR1.out HB1.out HB1.out.size (by omega) ?_; intro v5 w5 hR5 hB5 _ _; have HR5 := Go.Lib.hid hR5; have HB5 := Go.Lib.hid hB5; clear hR5 hB5))
        go_roundw
        case rel => exact ⟨k + 1, by omega, by simp, by rw [HTK.out, List.filter_append]; simpa [HOK.out] using HR5.out, HB5.out⟩
        case measure => simp [intOf]; omega
      | false =>
        go_wp2_with fail
        go_roundw
        case rel => exact ⟨k + 1, by omega, by simp, by rw [HTK.out, List.filter_append]; simpa [HOK.out] using HR1.out, HB1.out⟩
        case measure => simp [intOf]; omega
    · obtain rfl : k = row.length := by omega
      rw [List.take_length] at hR
      have HR := Go.Lib.hid (And.intro hR hbl)
      clear hR hbl HID
      go_wp2_with fail
      go_ret
      exact ⟨_, rfl, HR.out.1, HR.out.2⟩
end Go.Proofs.Ytkmmihadcbfkoaa
end

section
namespace Go.Proofs.Ytkmmihadcbfkoaa
open Go.RowKit Go.Proofs.YtkmmihadcbfkoaaW.PrintWords PM
set_option linter.unusedVariables false
set_option linter.unusedSimpArgs false
def allChances (F : List Int) (S : List S50) (T : List (List Int)) : List (List Int) := (List.range F.length).map fun f => chancesF T (rooms S) S.length (hasF F S T) f
def PM.match_Chances.f (F : List Int) (S : List S50) (T : List (List Int)) : Option (List (List Int) × Int) :=
  if checkB F S T ≠ 0 then some ([], checkB F S T) else if isF F S T = false then some ([], 40) else some (allChances F S T, 0)
theorem good_of_in {F : List Int} {S : List S50} {T : List (List Int)} {b0 : Nat} {t : TL} {has : List Int} {w : World} {A : Option Addr} {n c : Nat} (hcb : checkB F S T = 0) (h : TIn b0 t T (rooms S) has w) (h1 : t.n1 = S.length) (h0 : t.s0 = .slice A n c) : TGood t T (rooms S) has w :=
  ⟨h.fit, h.st, h.row, h.len, h.capr, h.caph, fun i hi => room_bound hcb i (by omega), ⟨A, n, c, h0⟩, h.caps⟩
set_option maxRecDepth 100000 in
set_option maxHeartbeats 8000000 in
theorem PM.match_Chances.calls (A0 : Option Addr) (c0 : Nat) (F : List Int) (A1 : Option Addr) (c1 : Nat) (S : List S50) (A2 : Option Addr) (c2 : Nat) (T : List (List Int)) (r1 : List (List Int)) (r2 : Int) (w : World)
    (hr0 : Kd.C (Kd.int .i64) w A0 F.length F) (hc0 : F.length ≤ c0) (hr1 : Kd.C k50 w A1 S.length S) (hc1 : S.length ≤ c1) (hr2 : Kd.C (Kd.slice 3 (Kd.int .i64)) w A2 T.length T) (hc2 : T.length ≤ c2) (h : match_Chances.f F S T = some (r1, r2)) :
    Calls Try.prog 16 #[.agg #[.slice A0 F.length c0, .slice A1 S.length c1, .slice A2 T.length c2]] w fun e w' => ∃ v0_ : Value, e = .returned (.tuple #[v0_, .int .i64 r2]) ∧ Kd.S (Kd.slice 3 (Kd.int .i64)) 22 w' w.heap.size (fun _ => True) v0_ r1 ∧ Below w.heap.size w w' := by
  have hB0 := (Below.refl w.heap.size w).alloc (Nat.le_refl _) (.cells #[.slice A0 F.length c0, .slice A1 S.length c1, .slice A2 T.length c2] 26)
  have CB := checkboard_calls A0 c0 F A1 c1 S A2 c2 T _ (Kd.C_below hr0 hB0) hc0 (Kd.C_below hr1 hB0) (Kd.C_below hr2 hB0)
  unfold match_Chances.f at h
  obtain ⟨q, hq⟩ : ∃ q, checkB F S T = q := ⟨_, rfl⟩
  rw [hq] at h CB
  have HB0 := Go.Lib.hid hB0
  have HR := Go.Lib.hid (And.intro hr1 hr2)
  have HQ := Go.Lib.hid hq
  have HH := Go.Lib.hid h
  clear hr0 hr1 hr2 hB0 hq h
  go_enter Try.func16, Try.ntmps16
  go_wp2_with fail
  refine CB.mono ?_
  clear CB
  rintro e w1 ⟨rfl, hB1⟩
  have b1 : w1.heap[w.heap.size]? = some (.cells #[.slice A0 F.length c0, .slice A1 S.length c1, .slice A2 T.length c2] 26 (0, 0)) := by
    rw [hB1.block w.heap.size (by simp)]
    exact World.alloc_heap_new w _
  have hW1 : Below w.heap.size w w1 := HB0.out.trans (hB1.mono HB0.out.size)
  have k0 := cell_of_heap b1 (j := 0) rfl
  have k1 := cell_of_heap b1 (j := 1) rfl
  have k2 := cell_of_heap b1 (j := 2) rfl
  have HW1 := Go.Lib.hid hW1
  have BX1 := Go.Lib.hid b1
  clear hB1 b1 hW1
  by_cases hq0 : q = 0
  · subst hq0
    have hcb := HQ.out
    have hk := bok_of_check hcb
    have hf := HH.out
    rw [if_neg (by simp)] at hf
    have HK := Go.Lib.hid hk
    have HCB := Go.Lib.hid hcb
    have lF : F.length ≤ 60 := hk.nf
    clear HH HQ hk hcb
    cases hok : isF F S T with
    | false =>
      have MC := matched_no A0 c0 F A1 c1 S A2 c2 T w1 HK.out (Kd.C_below HR.out.1 HW1.out) (Kd.C_below HR.out.2 HW1.out) hok
      rw [if_pos hok] at hf
      injection hf with hf
      injection hf with hf1 hf2
      subst hf1 hf2
      clear hok
      go_wp2_with fail
      refine MC.mono ?_
      clear MC
      rintro e w2 ⟨rfl, hB2⟩
      have HB2 := Go.Lib.hid (HW1.out.trans (hB2.mono HW1.out.size))
      clear hB2
      go_wp2_with fail
      go_ret2
      exact ⟨_, rfl, Kd.S_nil _ _ _ _ _, HB2.out⟩
    | true =>
      have MC := matched_yes A0 c0 F A1 c1 S A2 c2 T w1 HK.out (Kd.C_below HR.out.1 HW1.out) (Kd.C_below HR.out.2 HW1.out) hok
      rw [if_neg (by rw [hok]; simp)] at hf
      injection hf with hf
      injection hf with hf1 hf2
      subst hf2
      have HF1 := Go.Lib.hid hf1
      clear hok hf1
      go_wp2_with fail
      refine MC.mono ?_
      clear MC
      rintro e w2 ⟨t, rfl, en1, enh, es0, hT, hB2⟩
      have hW2 := HW1.out.trans (hB2.mono HW1.out.size)
      have b2 := (hB2.block w.heap.size (Array.getElem?_eq_some_iff.1 BX1.out).1).trans BX1.out
      have k0 := cell_of_heap b2 (j := 0) rfl
      have hG := good_of_in HCB.out hT en1 es0
      have CH : ∀ (f : Nat) (W : World), f < F.length → Below w2.heap.size w2 W → Calls Try.prog 57 #[.pointer (some ⟨t.g, 0, none⟩), .int .i64 f] W (OneList (chancesF T (rooms S) S.length (hasF F S T) f) W) := fun f W hf hb => by
        have := chances_calls t T (rooms S) (hasF F S T) f W (by omega) (hG.later hb)
        rwa [en1] at this
      have HW2 := Go.Lib.hid hW2
      clear hB2 hW2 b2 hG hT en1 enh es0
      go_wp2_with fail
      go_loopw [7, 25] (fun o i wr => ∃ k : Nat, k ≤ F.length ∧ i = .int .i64 k ∧ Hid (Kd.S (Kd.slice 3 (Kd.int .i64)) 22 wr w2.heap.size (fun _ => True) o ((List.range k).map fun f => chancesF T (rooms S) S.length (hasF F S T) f) ∧ Below w2.heap.size w2 wr)) (fun _ i _ => F.length - (intOf i).toNat)
      case atStart => exact ⟨0, Nat.zero_le _, rfl, Kd.S_nil _ _ _ _ _, Below.refl _ _⟩
      case round =>
        obtain ⟨k, hk, rfl, HID⟩ := hrel
        obtain ⟨hS, hbl⟩ := HID.out
        by_cases hlt : k < F.length
        · have C9 := CH k wr hlt hbl
          have HS := Go.Lib.hid hS
          have HBL := Go.Lib.hid hbl
          have hll : ((List.range k).map fun f => chancesF T (rooms S) S.length (hasF F S T) f).length = k := by simp
          have HLL := Go.Lib.hid hll
          clear hS hbl HID hll
          go_wp2_with fail
          refine C9.mono ?_
          clear C9
          rintro e w3 ⟨v3, rfl, hR3, hb3⟩
          obtain ⟨A3, c3, rfl, _, _⟩ := Kd.R_reads hR3
          have hB3 := HBL.out.trans (hb3.mono HBL.out.size)
          have hBw := hB3
          have hS3 := Kd.S_old HS.out hb3
          have hne : ∀ q, some q = (Value.slice A3 (chancesF T (rooms S) S.length (hasF F S T) k).length c3).ownBlock → wr.heap.size ≤ q := fun q hq => own_base (Kd.own_of_R hR3) q hq.symm
          have hult := Kd.S_lt HS.out
          have hM : (Kd.slice 3 (Kd.int .i64)).M w3 w2.heap.size (fun q => some q = (Value.slice A3 (chancesF T (rooms S) S.length (hasF F S T) k).length c3).ownBlock) (chancesF T (rooms S) S.length (hasF F S T) k) [.slice A3 (chancesF T (rooms S) S.length (hasF F S T) k).length c3] :=
            Kd.M_row (Kd.R_lower (Kd.R_tight rfl hR3) HBL.out.size)
          have hS4 := Kd.S_mono (ok' := fun q => True ∧ ¬ some q = (Value.slice A3 (chancesF T (rooms S) S.length (hasF F S T) k).length c3).ownBlock) hS3 (fun q hq => ⟨trivial, fun e => by have := hne q e; omega⟩)
          have hokp : ∀ q, some q = (Value.slice A3 (chancesF T (rooms S) S.length (hasF F S T) k).length c3).ownBlock → True ∧ some q ≠ u7.ownBlock := fun q hq => ⟨trivial, fun e => by have := hne q hq; have := hult q e.symm; omega⟩
          have HP := Go.Lib.hid (And.intro hM (And.intro hS4 (And.intro hokp (And.intro hB3 hBw))))
          clear hM hS4 hokp hB3 hBw hne hult hS3 hb3 hR3
          go_wp2_with (first | (at_builtin; refine Kd.S_append (Kd.slice 3 (Kd.int .i64)) (w0 := w2) w2.heap.size rfl (.tmp 28) (.tmp 32) 24 22 (.slice none 0 0) 24 rfl Try.underlying24 info22 rfl (by decide) (by omega) u7 ((List.range k).map fun f => chancesF T (rooms S) S.length (hasF F S T) f) (chancesF T (rooms S) S.length (hasF F S T) k) [.slice A3 (chancesF T (rooms S) S.length (hasF F S T) k).length c3] (fun _ => True) (fun q => some q = (Value.slice A3 (chancesF T (rooms S) S.length (hasF F S T) k).length c3).ownBlock) rfl rfl HP.out.1 HP.out.2.2.1 (fun _ _ => trivial) HP.out.2.1 HP.out.2.2.2.2 HP.out.2.2.2.2.size (by rw [HLL.out]; omega) ?_; intro v5 w5 hR5 hB5 hg5 hat5; have HR5 := Go.Lib.hid hR5; have HB5 := Go.Lib.hid hB5; have HG5 := Go.Lib.hid (And.intro hg5 hat5); clear hR5 hB5 hg5 hat5))
          go_roundw
          case rel => exact ⟨k + 1, by omega, by simp, by rw [List.range_succ, List.map_append]; exact HR5.out, HB5.out⟩
          case measure => simp [intOf]; omega
        · obtain rfl : k = F.length := by omega
          have HS := Go.Lib.hid hS
          have HBL := Go.Lib.hid hbl
          clear hS hbl HID
          go_wp2_with fail
          go_ret2
          exact ⟨_, rfl, by rw [← HF1.out]; exact Kd.S_lower HS.out HW2.out.size, HW2.out.trans (HBL.out.mono HW2.out.size)⟩
  · have g9 : decide (q = 0) = false := by simpa using hq0
    have hf := HH.out
    rw [if_pos hq0] at hf
    injection hf with hf
    injection hf with hf1 hf2
    subst hf1 hf2
    go_wp2_with fail
    go_ret2
    exact ⟨_, rfl, Kd.S_nil _ _ _ _ _, HW1.out⟩
end Go.Proofs.Ytkmmihadcbfkoaa
end

section
namespace Go.Proofs.Ytkmmihadcbfkoaa.PM
open Go.RowKit Go.Proofs.YtkmmihadcbfkoaaW.PrintWords Go.Proofs.YtkmmihadcbfkoaaW.PrintLast Go.Proofs.YtkmmihadcbfkoaaW.PrintMore
set_option linter.unusedVariables false
set_option linter.unusedSimpArgs false
def match_Must.l0 : Nat → List Int → List (List Int) → Int → Int → Option (List Int × Int)
 | 0, _, _, _, _ => none
 | k + 1, x6, x18, x19, x20 => if x20 < x19 then (if 0 ≤ x20 then (if x20 < (x18.length : Int) then (if ((rd_L1 x18 x20).length : Int) = 1 then (if 0 < ((rd_L1 x18 x20).length : Int) then (if x6.length < 17592186044416 then (match_Must.l0 k (x6 ++ [rd (rd_L1 x18 x20) 0]) x18 x19 (wrap64 (x20 + 1))) else (none)) else (none)) else (if x6.length < 17592186044416 then (match_Must.l0 k (x6 ++ [(-1)]) x18 x19 (wrap64 (x20 + 1))) else (none))) else (none)) else (none)) else (some (x6, 0))
def match_Must.f (k : Nat) (l0_0 : List Int) (l0_1 : List (S50)) (l0_2 : List (List Int)) : Option (List Int × Int) := (match_Chances.f l0_0 l0_1 l0_2).bind fun bt115 => (if bt115.2 = 0 then (match_Must.l0 k ([] : List Int) bt115.1 (bt115.1.length : Int) 0) else (some (([] : List Int), bt115.2)))
theorem match_Must.mono_l : ∀ k, (∀ y0 y1 y2 y3, LeO (match_Must.l0 k y0 y1 y2 y3) (match_Must.l0 (k + 1) y0 y1 y2 y3))
 | 0 => fun _ _ _ _ r h => by simp [match_Must.l0] at h
 | k + 1 => by
  have ih0 := match_Must.mono_l k
  ·
   intro y0 y1 y2 y3
   unfold match_Must.l0
   repeat' first
   | (with_reducible exact ih0 _ _ _ _)
   | (with_reducible exact LeO.refl _)
   | (with_reducible exact LeO.none _)
   | (with_reducible refine LeO.ite ?_ ?_)
   | (with_reducible refine LeO.bind ?_ (fun _ => ?_))
   | exact ih0 _ _ _ _
   | exact LeO.none _
   | refine LeO.ite ?_ ?_
   | refine LeO.bind ?_ (fun _ => ?_)
theorem match_Must.mono : ∀ a0 a1 a2 k, LeO (match_Must.f k a0 a1 a2) (match_Must.f (k + 1) a0 a1 a2) := by
 intro a0 a1 a2 k
 have ih0 := match_Must.mono_l k
 unfold match_Must.f
 repeat' first
   | (with_reducible exact ih0 _ _ _ _)
   | (with_reducible exact LeO.refl _)
   | (with_reducible exact LeO.none _)
   | (with_reducible refine LeO.ite ?_ ?_)
   | (with_reducible refine LeO.bind ?_ (fun _ => ?_))
   | exact ih0 _ _ _ _
   | exact LeO.none _
   | refine LeO.ite ?_ ?_
   | refine LeO.bind ?_ (fun _ => ?_)
set_option maxHeartbeats 8000000 in
set_option maxRecDepth 100000 in
theorem match_Must.calls (k : Nat) (A0_0 : Option Addr) (c0_0 : Nat) (l0_0 : List Int) (A0_1 : Option Addr) (c0_1 : Nat) (l0_1 : List (S50)) (A0_2 : Option Addr) (c0_2 : Nat) (l0_2 : List (List Int)) (r1 : List Int) (r2 : Int) (w : World) (hr0_0 : Kd.C (Kd.int .i64) w A0_0 l0_0.length l0_0) (hc0_0 : l0_0.length ≤ c0_0) (hr0_1 : Kd.C k50 w A0_1 l0_1.length l0_1) (hc0_1 : l0_1.length ≤ c0_1) (hr0_2 : Kd.C (Kd.slice 3 (Kd.int .i64)) w A0_2 l0_2.length l0_2) (hc0_2 : l0_2.length ≤ c0_2) (h : match_Must.f k l0_0 l0_1 l0_2 = some (r1, r2)) :
  Calls Try.prog 17 #[.agg #[.slice A0_0 l0_0.length c0_0, .slice A0_1 l0_1.length c0_1, .slice A0_2 l0_2.length c0_2]] w fun e w' => ∃ v0_ : Value, e = .returned (.tuple #[v0_, .int .i64 r2]) ∧ Kd.R (Kd.int .i64) 3 w' w.heap.size (fun _ => True) v0_ r1 ∧ Below w.heap.size w w' := by
 have hu26 := Try.underlying26
 have HR0_0 := Aside0.mk hr0_0
 have HC0_0 := Aside0.mk hc0_0
 clear hr0_0 hc0_0
 have HR0_1 := Aside0.mk hr0_1
 have HC0_1 := Aside0.mk hc0_1
 clear hr0_1 hc0_1
 have HR0_2 := Aside0.mk hr0_2
 have HC0_2 := Aside0.mk hc0_2
 clear hr0_2 hc0_2
 have HB := Aside0.mk (Below.refl w.heap.size w)
 have H : ((match_Chances.f l0_0 l0_1 l0_2).bind fun bt115 => (if bt115.2 = 0 then (match_Must.l0 k ([] : List Int) bt115.1 (bt115.1.length : Int) 0) else (some (([] : List Int), bt115.2)))) = some (r1, r2) := h
 clear h
 replace H := Option.bind_eq_some_iff.mp H
 obtain ⟨⟨t115, t118⟩, A20, H⟩ := H
 replace H : (if t118 = 0 then (match_Must.l0 k ([] : List Int) t115 (t115.length : Int) 0) else (some (([] : List Int), t118))) = some (r1, r2) := H
 have A2 := Aside0.mk A20
 clear A20
 by_cases c3 : t118 = 0
 ·
  rw [if_pos c3] at H
  have c3b0 : (t118 == 0) = true := beq_iff_eq.mpr c3
  have c3b1 : (t118 != 0) = false := bne_eq_false_iff_eq.mpr c3
  clear c3
  have H' := Aside0.mk H
  clear H
  go_enter Try.func17, Try.ntmps17
  go_wp2_with (first | ((with_reducible refine gate_dst (N := 1) rfl ?_); refine box_event ?hg (N := 1) ?hd (cs := #[.slice A0_0 l0_0.length c0_0, .slice A0_1 l0_1.length c0_1, .slice A0_2 l0_2.length c0_2]) (t := 26) ?hr ?_; (case hd => rfl); (case hg => rfl); (case hr => first | (go_simp; done) | (go_simp; rfl)); intro gb114 hg w4 hbox hb; have n0_ := Aside0.mk (below_step (by repeat (first | (with_reducible first | exact HB.out | apply below_alloc | apply pw_below_drewN | apply below_drew1) | exact HB.out)) hb); have n1_ := Aside0.mk (hbox); have n2_ := Aside0.mk ((by rw [hg]; exact (below_size (by repeat (first | (with_reducible first | exact HB.out | apply below_alloc | apply pw_below_drewN | apply below_drew1) | exact HB.out))) : w.heap.size ≤ gb114)); have n3_ := Aside0.mk ((by rw [hg]; exact (below_size (by repeat (first | (with_reducible first | exact HB.out | apply below_alloc | apply pw_below_drewN | apply below_drew1) | exact HB.out))) : w.heap.size ≤ gb114)); clear HB; have HB := n0_; have BK114 := n1_; have GW114 := n2_; have GE114 := n3_; clear n0_ n1_ n2_ n3_; clear hb hbox hg; have hcz5_0 : w4.cell? ⟨gb114, 0, none⟩ = some (.slice A0_0 l0_0.length c0_0) := (blk_cell BK114.out 0).trans rfl; have hcz5_1 : w4.cell? ⟨gb114, 1, none⟩ = some (.slice A0_1 l0_1.length c0_1) := (blk_cell BK114.out 1).trans rfl; have hcz5_2 : w4.cell? ⟨gb114, 2, none⟩ = some (.slice A0_2 l0_2.length c0_2) := (blk_cell BK114.out 2).trans rfl; have hfz5_0 := blk_frozen BK114.out 0; have hfz5_1 := blk_frozen BK114.out 1; have hfz5_2 := blk_frozen BK114.out 2) | ((with_reducible refine gate_callee (f := 16) rfl ?_); refine goesL_ (some 12) rfl rfl Try.func16 (by kernel_rfl) rfl #[.agg #[.slice A0_0 l0_0.length c0_0, .slice A0_1 l0_1.length c0_1, .slice A0_2 l0_2.length c0_2]] rfl (by (try simp only [List.map_toArray, List.map_cons, List.map_nil]); first | done | rfl | (simp only [List.length_drop, List.length_take]; rfl)) ?_; (with_reducible refine (match_Chances.calls _ _ l0_0 _ _ l0_1 _ _ l0_2 t115 t118 _ ?side1 ?side2 ?side3 ?side4 ?side5 ?side6 A2.out).mono ?_); (case side1 => repeat (first | exact (Kd.C_below HR0_0.out HB.out) | (with_reducible refine Kd.C_alloc ?_ _) | (with_reducible refine Kd.C_drewN ?_ _) | (with_reducible refine Kd.C_drew ?_))); (case side2 => exact HC0_0.out); (case side3 => repeat (first | exact (Kd.C_below HR0_1.out HB.out) | (with_reducible refine Kd.C_alloc ?_ _) | (with_reducible refine Kd.C_drewN ?_ _) | (with_reducible refine Kd.C_drew ?_))); (case side4 => exact HC0_1.out); (case side5 => repeat (first | exact (Kd.C_below HR0_2.out HB.out) | (with_reducible refine Kd.C_alloc ?_ _) | (with_reducible refine Kd.C_drewN ?_ _) | (with_reducible refine Kd.C_drew ?_))); (case side6 => exact HC0_2.out); rintro e w6 ⟨v116, rfl, ho0, hb⟩; refine ⟨_, rfl, ?_⟩; have n0_ := Aside0.mk (Kd.S_lower ho0 (below_size (by repeat (first | (with_reducible first | exact HB.out | apply below_alloc | apply pw_below_drewN | apply below_drew1 | refine below_set ?_ GE114.out) | exact HB.out)))); have n1_ := Aside0.mk (blk_below (g := gb114) (o := .cells #[.slice A0_0 l0_0.length c0_0, .slice A0_1 l0_1.length c0_1, .slice A0_2 l0_2.length c0_2] 26 (0, 0)) (by (with_reducible repeat (first | refine blk_drewN ?_ _ | refine blk_drew ?_ | refine blk_alloc ?_ _)); exact BK114.out) hb); have n2_ := Aside0.mk (below_step (by repeat (first | (with_reducible first | exact HB.out | apply below_alloc | apply pw_below_drewN | apply below_drew1 | refine below_set ?_ GE114.out) | exact HB.out)) hb); clear BK114; clear HB; have HO117 := n0_; have BK114 := n1_; have HB := n2_; clear n0_ n1_ n2_; (try clear hb); (try clear hb2); (try clear hk); (try clear hi); (try clear ho0); obtain ⟨Ao7, co7, eo7⟩ := Kd.S_slice HO117.out; subst eo7))
  go_loopg [6, 20] k (fun kq v6 v20 w' => ∃ (x6_1 : List Int) (x20_1 : Int), v20 = .int .i64 x20_1 ∧ Aside0 (match_Must.l0 kq x6_1 t115 (t115.length : Int) x20_1 = some (r1, r2)) ∧ Aside0 (kq ≤ k) ∧ Aside0 (Kd.R (Kd.int .i64) 3 w' w.heap.size (fun _ => True) v6 x6_1) ∧ Aside0 (Kd.S (Kd.slice 3 (Kd.int .i64)) 22 w' w.heap.size (fun k_ => some k_ ≠ (v6 : Value).ownBlock) (.slice Ao7 t115.length co7) t115) ∧ Aside0 (w'.heap[gb114]? = some (.cells #[(.slice A0_0 l0_0.length c0_0), (.slice A0_1 l0_1.length c0_1), (.slice A0_2 l0_2.length c0_2)] 26 (0, 0))) ∧ Aside0 (Below w.heap.size w w'))
  case atStart => exact ⟨(([] : List Int)), (0), (by first | rfl | (simp; done) | (simp [*]; done)), H', ⟨Nat.le_refl _⟩, ⟨by first | exact Kd.R_nil _ _ _ _ _ | exact Kd.N_nil _ _ _ _ _ | exact Kd.V_nil _ _ _ _ _ | exact Kd.Q_nil _ _ _ _ _ | exact Kd.S_nil _ _ _ _ _⟩, ⟨by (with_reducible repeat (first | apply Kd.S_alloc | apply Kd.S_drewN | apply Kd.S_drew)); exact Kd.S_mono HO117.out (fun _ hk => (by simp [Value.ownBlock]))⟩, ⟨by (with_reducible repeat (first | refine blk_drewN ?_ _ | refine blk_drew ?_ | refine blk_alloc ?_ _)); exact BK114.out⟩, ⟨by repeat (first | (with_reducible first | exact HB.out | apply below_alloc | apply pw_below_drewN | apply below_drew1 | refine below_set ?_ GE114.out) | exact HB.out)⟩⟩
  case round =>
   clear H'
   try clear c1
   try clear p2
   try clear c3
   try clear c3b0
   try clear c3b1
   try clear hcz5_0
   try clear hcz5_1
   try clear hcz5_2
   try clear hfz5_0
   try clear hfz5_1
   try clear hfz5_2
   obtain ⟨x6_1, x20_1, rfl, HA, HK1, HO_6, HO_18, BK114, HB⟩ := hrel
   cases gk with
   | zero => exact absurd HA.out (by simp [match_Must.l0])
   | succ k1 =>
    have H := HA.out
    clear HA
    simp only [match_Must.l0] at H
    by_cases c8 : x20_1 < (t115.length : Int)
    ·
     rw [if_pos c8] at H
     have c8b0 : decide (x20_1 < (t115.length : Int)) = true := decide_eq_true c8
     clear c8
     by_cases c9 : 0 ≤ x20_1
     ·
      rw [if_pos c9] at H
      have c9b0 : decide (0 ≤ x20_1) = true := decide_eq_true c9
      clear c9
      by_cases c10 : x20_1 < (t115.length : Int)
      ·
       rw [if_pos c10] at H
       have c10b0 : decide (x20_1 < (t115.length : Int)) = true := decide_eq_true c10
       clear c10
       by_cases c11 : ((rd_L1 t115 x20_1).length : Int) = 1
       ·
        rw [if_pos c11] at H
        have c11b0 : (((rd_L1 t115 x20_1).length : Int) == 1) = true := beq_iff_eq.mpr c11
        have c11b1 : (((rd_L1 t115 x20_1).length : Int) != 1) = false := bne_eq_false_iff_eq.mpr c11
        clear c11
        by_cases c12 : 0 < ((rd_L1 t115 x20_1).length : Int)
        ·
         rw [if_pos c12] at H
         have c12b0 : decide (0 < ((rd_L1 t115 x20_1).length : Int)) = true := decide_eq_true c12
         have c12b1 : decide (0 < (rd_L1 t115 x20_1).length) = true := decide_eq_true (by omega)
         clear c12
         by_cases c13 : x6_1.length < 17592186044416
         ·
          rw [if_pos c13] at H
          have LMc13 := Aside0.mk c13
          clear c13
          obtain ⟨y121, hy121⟩ : ∃ y_ : List Int, y_ = (x6_1 ++ [rd (rd_L1 t115 x20_1) 0]) := ⟨_, rfl⟩
          replace H : (match_Must.l0 k1 y121 t115 (t115.length : Int) (wrap64 (x20_1 + 1))) = some (r1, r2) := by first | (rw [hy121]; with_reducible exact H) | (have H2_ := (Option.bind_some _ _).symm.trans H; rw [hy121]; with_reducible exact H2_) | (have H2_ := (Option.bind_some _ _).symm.trans H; with_reducible exact H2_) | with_reducible exact H | (rw [hy121]; exact H) | exact H
          have Ny121 := Aside0.mk hy121
          clear hy121
          have H' := Aside0.mk H
          clear H
          have p119 : 0 ≤ (x20_1 : Int) := of_decide_eq_true (by first | (with_reducible assumption) | assumption)
          have q119 : x20_1 < (t115.length : Int) := of_decide_eq_true (by first | (with_reducible assumption) | assumption)
          obtain ⟨ad119, A119_0, c119_0, e119, hx119_0, hl119_0, hi119_0⟩ := at_L1 (Kd.S_reads' HO_18.out).2.2 x20_1 p119 q119
          cases e119
          obtain ⟨ce119, hce119, hMe119, hcc119⟩ := Kd.S_get HO_18.out [] x20_1 p119 (by first | exact q119 | exact of_decide_eq_true (by first | (with_reducible assumption) | assumption) | (have e_ := (Kd.S_reads' HO_18.out).1; omega))
          obtain ⟨ve119_0, rfl, ge119_0⟩ := hMe119
          have hv119_0 := hcc119 0 _ rfl
          rw [Nat.add_zero, show ((Kd.slice 3 (Kd.int .i64))).sz = 1 from rfl, Nat.mul_one] at hv119_0
          replace hv119_0 := Option.some.inj (hv119_0.symm.trans hx119_0)
          rw [hv119_0] at ge119_0
          have HL119_0 := Aside0.mk (show Kd.R (Kd.int .i64) 3 _ _ _ _ (rd_L1 t115 x20_1) from ge119_0)
          clear hv119_0 ge119_0
          clear hcc119 hce119
          have HR119_0 := Aside0.mk hi119_0
          have HC119_0 := Aside0.mk hl119_0
          clear hi119_0 hl119_0
          replace p119 := eq_true p119
          replace q119 := eq_true q119
          have p120 : 0 ≤ (0 : Int) := (by omega)
          have q120 : 0 < ((rd_L1 t115 x20_1).length : Int) := of_decide_eq_true (by first | (with_reducible assumption) | assumption)
          obtain ⟨ad120, e120, hx120_0⟩ := Kd.at_int (by repeat (first | (with_reducible exact HR119_0.out) | (with_reducible refine Kd.C_alloc ?_ _) | (with_reducible refine Kd.C_drewN ?_ _) | (with_reducible refine Kd.C_drew ?_) | exact HR119_0.out)) 0 p120 q120
          cases e120
          have qi120 : (0 < (rd_L1 t115 x20_1).length) = True := eq_true (by omega)
          (try rw [show ((0 : Int)).toNat = 0 from rfl] at hx120_0)
          (try rw [Addr.add_zero'] at hx120_0)
          replace p120 := eq_true p120
          replace q120 := eq_true q120
          go_wp2_with (first | ((with_reducible refine gate_builtin (b := .append) (xs := #[.tmp 30, .tmp 32]) rfl ?_); at_builtin; refine Kd.R_append (Kd.int .i64) (w0 := w) w.heap.size rfl (.tmp 30) (.tmp 32) 22 3 (.int .i64 0) 8 rfl Try.underlying22 info3 rfl (by decide) (by omega) u6 x6_1 (rd (rd_L1 t115 x20_1) 0) [.int .i64 (rd (rd_L1 t115 x20_1) 0)] (fun _ => True) (fun _ => False) rfl rfl ?aP (fun _ hk => hk.elim) ?aF ?aO ?aB ?aS ?aL ?_; (case aP => exact rfl); (case aB => exact (by repeat (first | (with_reducible first | exact HB.out | apply below_alloc | apply pw_below_drewN | apply below_drew1 | refine below_set ?_ GE114.out) | exact HB.out))); (case aF => exact (fun _ _ => trivial)); (case aO => exact (by (with_reducible repeat (first | apply Kd.R_alloc | apply Kd.R_drewN | apply Kd.R_drew)); exact HO_6.out)); (case aS => exact (below_size (by repeat (first | (with_reducible first | exact HB.out | apply below_alloc | apply pw_below_drewN | apply below_drew1 | refine below_set ?_ GE114.out) | exact HB.out)))); (case aL => have := LMc13.out; omega); intro v122 w14 ho hb hg hat; rw [← Ny121.out] at ho; have n0_ := Aside0.mk (Kd.S_after (ok := (fun _ => True)) (by (with_reducible repeat (first | apply Kd.S_alloc | apply Kd.S_drewN | apply Kd.S_drew)); exact Kd.S_mono HO_18.out (fun _ hk => ⟨trivial, hk⟩)) hg hat); have n1_ := Aside0.mk (blk_grown (g := gb114) (o := .cells #[.slice A0_0 l0_0.length c0_0, .slice A0_1 l0_1.length c0_1, .slice A0_2 l0_2.length c0_2] 26 (0, 0)) (by (with_reducible repeat (first | refine blk_drewN ?_ _ | refine blk_drew ?_ | refine blk_alloc ?_ _)); exact BK114.out) hg (Kd.R_ne HO_6.out BK114.out (by decide))); have n2_ := Aside0.mk (Kd.R_after (ok := (fun k_ => some k_ ≠ (.slice (some ad119) t115.length co7 : Value).ownBlock)) (by (with_reducible repeat (first | apply Kd.R_alloc | apply Kd.R_drewN | apply Kd.R_drew)); exact Kd.R_mono HL119_0.out (fun _ hk => ⟨hk.2, hk.1⟩)) hg hat); have n3_ := Aside0.mk (hb); have n4_ := Aside0.mk (ho); clear HO_18; clear BK114; clear HL119_0; clear HB; clear HO_6; have HO_18 := n0_; have BK114 := n1_; have HL119_0 := n2_; have HB := n3_; have HO123 := n4_; clear n0_ n1_ n2_ n3_ n4_; clear ho hb hg hat))
          go_roundg k1
          case measure => have := HK1.out; omega
          case rel => exact ⟨(y121), (wrap64 (x20_1 + 1)), (by first | rfl | (simp; done) | (simp [*]; done)), H', ⟨by have := HK1.out; omega⟩, ⟨by (with_reducible repeat (first | apply Kd.R_alloc | apply Kd.R_drewN | apply Kd.R_drew)); exact HO123.out⟩, ⟨by (with_reducible repeat (first | apply Kd.S_alloc | apply Kd.S_drewN | apply Kd.S_drew)); exact Kd.S_mono HO_18.out (fun _ hk => hk.2)⟩, ⟨by (with_reducible repeat (first | refine blk_drewN ?_ _ | refine blk_drew ?_ | refine blk_alloc ?_ _)); exact BK114.out⟩, ⟨by repeat (first | (with_reducible first | exact HB.out | apply below_alloc | apply pw_below_drewN | apply below_drew1 | refine below_set ?_ GE114.out) | exact HB.out)⟩⟩
         ·
          rw [if_neg c13] at H
          exact absurd H (by simp)
        ·
         rw [if_neg c12] at H
         exact absurd H (by simp)
       ·
        rw [if_neg c11] at H
        have c11b0 : (((rd_L1 t115 x20_1).length : Int) == 1) = false := beq_eq_false_iff_ne.mpr c11
        have c11b1 : (((rd_L1 t115 x20_1).length : Int) != 1) = true := bne_iff_ne.mpr c11
        by_cases c15 : x6_1.length < 17592186044416
        ·
         rw [if_pos c15] at H
         have LMc15 := Aside0.mk c15
         clear c15
         obtain ⟨y124, hy124⟩ : ∃ y_ : List Int, y_ = (x6_1 ++ [(-1)]) := ⟨_, rfl⟩
         replace H : (match_Must.l0 k1 y124 t115 (t115.length : Int) (wrap64 (x20_1 + 1))) = some (r1, r2) := by first | (rw [hy124]; with_reducible exact H) | (have H2_ := (Option.bind_some _ _).symm.trans H; rw [hy124]; with_reducible exact H2_) | (have H2_ := (Option.bind_some _ _).symm.trans H; with_reducible exact H2_) | with_reducible exact H | (rw [hy124]; exact H) | exact H
         have Ny124 := Aside0.mk hy124
         clear hy124
         have H' := Aside0.mk H
         clear H
         have p119 : 0 ≤ (x20_1 : Int) := of_decide_eq_true (by first | (with_reducible assumption) | assumption)
         have q119 : x20_1 < (t115.length : Int) := of_decide_eq_true (by first | (with_reducible assumption) | assumption)
         obtain ⟨ad119, A119_0, c119_0, e119, hx119_0, hl119_0, hi119_0⟩ := at_L1 (Kd.S_reads' HO_18.out).2.2 x20_1 p119 q119
         cases e119
         obtain ⟨ce119, hce119, hMe119, hcc119⟩ := Kd.S_get HO_18.out [] x20_1 p119 (by first | exact q119 | exact of_decide_eq_true (by first | (with_reducible assumption) | assumption) | (have e_ := (Kd.S_reads' HO_18.out).1; omega))
         obtain ⟨ve119_0, rfl, ge119_0⟩ := hMe119
         have hv119_0 := hcc119 0 _ rfl
         rw [Nat.add_zero, show ((Kd.slice 3 (Kd.int .i64))).sz = 1 from rfl, Nat.mul_one] at hv119_0
         replace hv119_0 := Option.some.inj (hv119_0.symm.trans hx119_0)
         rw [hv119_0] at ge119_0
         have HL119_0 := Aside0.mk (show Kd.R (Kd.int .i64) 3 _ _ _ _ (rd_L1 t115 x20_1) from ge119_0)
         clear hv119_0 ge119_0
         clear hcc119 hce119
         have HR119_0 := Aside0.mk hi119_0
         have HC119_0 := Aside0.mk hl119_0
         clear hi119_0 hl119_0
         replace p119 := eq_true p119
         replace q119 := eq_true q119
         go_wp2_with (first | ((with_reducible refine gate_builtin (b := .append) (xs := #[.tmp 30, .tmp 32]) rfl ?_); at_builtin; refine Kd.R_append (Kd.int .i64) (w0 := w) w.heap.size rfl (.tmp 30) (.tmp 32) 22 3 (.int .i64 0) 8 rfl Try.underlying22 info3 rfl (by decide) (by omega) u6 x6_1 (-1) [.int .i64 (-1)] (fun _ => True) (fun _ => False) rfl rfl ?aP (fun _ hk => hk.elim) ?aF ?aO ?aB ?aS ?aL ?_; (case aP => exact rfl); (case aB => exact (by repeat (first | (with_reducible first | exact HB.out | apply below_alloc | apply pw_below_drewN | apply below_drew1 | refine below_set ?_ GE114.out) | exact HB.out))); (case aF => exact (fun _ _ => trivial)); (case aO => exact (by (with_reducible repeat (first | apply Kd.R_alloc | apply Kd.R_drewN | apply Kd.R_drew)); exact HO_6.out)); (case aS => exact (below_size (by repeat (first | (with_reducible first | exact HB.out | apply below_alloc | apply pw_below_drewN | apply below_drew1 | refine below_set ?_ GE114.out) | exact HB.out)))); (case aL => have := LMc15.out; omega); intro v125 w16 ho hb hg hat; rw [← Ny124.out] at ho; have n0_ := Aside0.mk (Kd.S_after (ok := (fun _ => True)) (by (with_reducible repeat (first | apply Kd.S_alloc | apply Kd.S_drewN | apply Kd.S_drew)); exact Kd.S_mono HO_18.out (fun _ hk => ⟨trivial, hk⟩)) hg hat); have n1_ := Aside0.mk (blk_grown (g := gb114) (o := .cells #[.slice A0_0 l0_0.length c0_0, .slice A0_1 l0_1.length c0_1, .slice A0_2 l0_2.length c0_2] 26 (0, 0)) (by (with_reducible repeat (first | refine blk_drewN ?_ _ | refine blk_drew ?_ | refine blk_alloc ?_ _)); exact BK114.out) hg (Kd.R_ne HO_6.out BK114.out (by decide))); have n2_ := Aside0.mk (Kd.R_after (ok := (fun k_ => some k_ ≠ (.slice (some ad119) t115.length co7 : Value).ownBlock)) (by (with_reducible repeat (first | apply Kd.R_alloc | apply Kd.R_drewN | apply Kd.R_drew)); exact Kd.R_mono HL119_0.out (fun _ hk => ⟨hk.2, hk.1⟩)) hg hat); have n3_ := Aside0.mk (hb); have n4_ := Aside0.mk (ho); clear HO_18; clear BK114; clear HL119_0; clear HB; clear HO_6; have HO_18 := n0_; have BK114 := n1_; have HL119_0 := n2_; have HB := n3_; have HO126 := n4_; clear n0_ n1_ n2_ n3_ n4_; clear ho hb hg hat))
         go_roundg k1
         case measure => have := HK1.out; omega
         case rel => exact ⟨(y124), (wrap64 (x20_1 + 1)), (by first | rfl | (simp; done) | (simp [*]; done)), H', ⟨by have := HK1.out; omega⟩, ⟨by (with_reducible repeat (first | apply Kd.R_alloc | apply Kd.R_drewN | apply Kd.R_drew)); exact HO126.out⟩, ⟨by (with_reducible repeat (first | apply Kd.S_alloc | apply Kd.S_drewN | apply Kd.S_drew)); exact Kd.S_mono HO_18.out (fun _ hk => hk.2)⟩, ⟨by (with_reducible repeat (first | refine blk_drewN ?_ _ | refine blk_drew ?_ | refine blk_alloc ?_ _)); exact BK114.out⟩, ⟨by repeat (first | (with_reducible first | exact HB.out | apply below_alloc | apply pw_below_drewN | apply below_drew1 | refine below_set ?_ GE114.out) | exact HB.out)⟩⟩
        ·
         rw [if_neg c15] at H
         exact absurd H (by simp)
      ·
       rw [if_neg c10] at H
       exact absurd H (by simp)
     ·
      rw [if_neg c9] at H
      exact absurd H (by simp)
    ·
     rw [if_neg c8] at H
     have c8b0 : decide (x20_1 < (t115.length : Int)) = false := decide_eq_false c8
     clear c8
     simp only [Option.some.injEq, Prod.mk.injEq] at H
     obtain ⟨rfl, rfl⟩ := H
     go_wp2
     go_ret2
     exact ⟨_, by first | rfl | (simp [errW_none, errW_some] <;> rfl) | (simp [*, errW_none, errW_some] <;> rfl), by (with_reducible repeat (first | apply Kd.R_alloc | apply Kd.R_drewN | apply Kd.R_drew)); exact HO_6.out, by repeat (first | (with_reducible first | exact HB.out | apply below_alloc | apply pw_below_drewN | apply below_drew1 | refine below_set ?_ GE114.out) | exact HB.out)⟩
 ·
  rw [if_neg c3] at H
  have c3b0 : (t118 == 0) = false := beq_eq_false_iff_ne.mpr c3
  have c3b1 : (t118 != 0) = true := bne_iff_ne.mpr c3
  simp only [Option.some.injEq, Prod.mk.injEq] at H
  obtain ⟨rfl, rfl⟩ := H
  go_enter Try.func17, Try.ntmps17
  go_wp2_with (first | ((with_reducible refine gate_dst (N := 1) rfl ?_); refine box_event ?hg (N := 1) ?hd (cs := #[.slice A0_0 l0_0.length c0_0, .slice A0_1 l0_1.length c0_1, .slice A0_2 l0_2.length c0_2]) (t := 26) ?hr ?_; (case hd => rfl); (case hg => rfl); (case hr => first | (go_simp; done) | (go_simp; rfl)); intro gb114 hg w17 hbox hb; have n0_ := Aside0.mk (below_step (by repeat (first | (with_reducible first | exact HB.out | apply below_alloc | apply pw_below_drewN | apply below_drew1) | exact HB.out)) hb); have n1_ := Aside0.mk (hbox); have n2_ := Aside0.mk ((by rw [hg]; exact (below_size (by repeat (first | (with_reducible first | exact HB.out | apply below_alloc | apply pw_below_drewN | apply below_drew1) | exact HB.out))) : w.heap.size ≤ gb114)); have n3_ := Aside0.mk ((by rw [hg]; exact (below_size (by repeat (first | (with_reducible first | exact HB.out | apply below_alloc | apply pw_below_drewN | apply below_drew1) | exact HB.out))) : w.heap.size ≤ gb114)); clear HB; have HB := n0_; have BK114 := n1_; have GW114 := n2_; have GE114 := n3_; clear n0_ n1_ n2_ n3_; clear hb hbox hg; have hcz18_0 : w17.cell? ⟨gb114, 0, none⟩ = some (.slice A0_0 l0_0.length c0_0) := (blk_cell BK114.out 0).trans rfl; have hcz18_1 : w17.cell? ⟨gb114, 1, none⟩ = some (.slice A0_1 l0_1.length c0_1) := (blk_cell BK114.out 1).trans rfl; have hcz18_2 : w17.cell? ⟨gb114, 2, none⟩ = some (.slice A0_2 l0_2.length c0_2) := (blk_cell BK114.out 2).trans rfl; have hfz18_0 := blk_frozen BK114.out 0; have hfz18_1 := blk_frozen BK114.out 1; have hfz18_2 := blk_frozen BK114.out 2) | ((with_reducible refine gate_callee (f := 16) rfl ?_); refine goesL_ (some 12) rfl rfl Try.func16 (by kernel_rfl) rfl #[.agg #[.slice A0_0 l0_0.length c0_0, .slice A0_1 l0_1.length c0_1, .slice A0_2 l0_2.length c0_2]] rfl (by (try simp only [List.map_toArray, List.map_cons, List.map_nil]); first | done | rfl | (simp only [List.length_drop, List.length_take]; rfl)) ?_; (with_reducible refine (match_Chances.calls _ _ l0_0 _ _ l0_1 _ _ l0_2 t115 t118 _ ?side1 ?side2 ?side3 ?side4 ?side5 ?side6 A2.out).mono ?_); (case side1 => repeat (first | exact (Kd.C_below HR0_0.out HB.out) | (with_reducible refine Kd.C_alloc ?_ _) | (with_reducible refine Kd.C_drewN ?_ _) | (with_reducible refine Kd.C_drew ?_))); (case side2 => exact HC0_0.out); (case side3 => repeat (first | exact (Kd.C_below HR0_1.out HB.out) | (with_reducible refine Kd.C_alloc ?_ _) | (with_reducible refine Kd.C_drewN ?_ _) | (with_reducible refine Kd.C_drew ?_))); (case side4 => exact HC0_1.out); (case side5 => repeat (first | exact (Kd.C_below HR0_2.out HB.out) | (with_reducible refine Kd.C_alloc ?_ _) | (with_reducible refine Kd.C_drewN ?_ _) | (with_reducible refine Kd.C_drew ?_))); (case side6 => exact HC0_2.out); rintro e w19 ⟨v116, rfl, ho0, hb⟩; refine ⟨_, rfl, ?_⟩; have n0_ := Aside0.mk (Kd.S_lower ho0 (below_size (by repeat (first | (with_reducible first | exact HB.out | apply below_alloc | apply pw_below_drewN | apply below_drew1 | refine below_set ?_ GE114.out) | exact HB.out)))); have n1_ := Aside0.mk (blk_below (g := gb114) (o := .cells #[.slice A0_0 l0_0.length c0_0, .slice A0_1 l0_1.length c0_1, .slice A0_2 l0_2.length c0_2] 26 (0, 0)) (by (with_reducible repeat (first | refine blk_drewN ?_ _ | refine blk_drew ?_ | refine blk_alloc ?_ _)); exact BK114.out) hb); have n2_ := Aside0.mk (below_step (by repeat (first | (with_reducible first | exact HB.out | apply below_alloc | apply pw_below_drewN | apply below_drew1 | refine below_set ?_ GE114.out) | exact HB.out)) hb); clear BK114; clear HB; have HO117 := n0_; have BK114 := n1_; have HB := n2_; clear n0_ n1_ n2_; (try clear hb); (try clear hb2); (try clear hk); (try clear hi); (try clear ho0)))
  go_ret2
  exact ⟨_, by first | rfl | (simp [errW_none, errW_some] <;> rfl) | (simp [*, errW_none, errW_some] <;> rfl), by first | exact Kd.R_nil _ _ _ _ _ | exact Kd.N_nil _ _ _ _ _ | exact Kd.V_nil _ _ _ _ _ | exact Kd.Q_nil _ _ _ _ _ | exact Kd.S_nil _ _ _ _ _, by repeat (first | (with_reducible first | exact HB.out | apply below_alloc | apply pw_below_drewN | apply below_drew1 | refine below_set ?_ GE114.out) | exact HB.out)⟩
end Go.Proofs.Ytkmmihadcbfkoaa.PM
end

section
namespace Go.Proofs.Ytkmmihadcbfkoaa
open PM
def bdT2 : List (List Int) := [[0], [0], [0, 1]]
theorem bd_check3 : checkB bdF (bdS 1) bdT2 = 0 := by kernel_rfl
theorem bd_is1 : isF bdF (bdS 1) bdT = true := by kernel_rfl
theorem bd_assign : match_Assign.f bdF (bdS 1) bdT = some ([0, 1, 2], true, 0) := by kernel_rfl
theorem bd_must1 : match_Must.f 5 bdF (bdS 1) bdT = some ([0, 1, 2], 0) := by kernel_rfl
theorem bd_must2 : match_Must.f 5 bdF (bdS 2) bdT = some ([0, -1, -1], 0) := by kernel_rfl
theorem bd_load : match_Load.f bdF (bdS 2) bdT 0 = some (1, 2, 0) := by kernel_rfl
theorem srt10 : Lib.compact (([1, 0] : List Int).mergeSort fun x y => decide (x ≤ y)) = [0, 1] := by
  rw [show (([1, 0] : List Int).mergeSort fun x y => decide (x ≤ y)) = [0, 1] from by simp [List.mergeSort, List.MergeSort.Internal.splitInTwo]]
  kernel_rfl
theorem bd_hall1 : giveH bdT (roomsLess (bdS 1) 1) 3 1 [0, -1, -1] = [0, 1] := by
  unfold giveH
  rw [show (giveR bdT (roomsLess (bdS 1) 1) 3 1 [0, -1, -1]).ok = false from by kernel_rfl, if_neg (by simp), show hallTo 1 (giveR bdT (roomsLess (bdS 1) 1) 3 1 [0, -1, -1]).seen (giveR bdT (roomsLess (bdS 1) 1) 3 1 [0, -1, -1]).has 3 = [1, 0] from by kernel_rfl]
  exact srt10
theorem bd_hall2 : giveH bdT2 (rooms (bdS 1)) 3 1 [0, -1, -1] = [0, 1] := by
  unfold giveH
  rw [show (giveR bdT2 (rooms (bdS 1)) 3 1 [0, -1, -1]).ok = false from by kernel_rfl, if_neg (by simp), show hallTo 1 (giveR bdT2 (rooms (bdS 1)) 3 1 [0, -1, -1]).seen (giveR bdT2 (rooms (bdS 1)) 3 1 [0, -1, -1]).has 3 = [1, 0] from by kernel_rfl]
  exact srt10
theorem bd_fill1 : hallR bdF (bdS 1) bdT 2 (roomsLess (bdS 1) 1) = ⟨false, giveH bdT (roomsLess (bdS 1) 1) 3 1 [0, -1, -1], (giveR bdT (roomsLess (bdS 1) 1) 3 1 [0, -1, -1]).has⟩ := by kernel_rfl
theorem bd_fill2 : hallR bdF (bdS 1) bdT2 (-1) (rooms (bdS 1)) = ⟨false, giveH bdT2 (rooms (bdS 1)) 3 1 [0, -1, -1], (giveR bdT2 (rooms (bdS 1)) 3 1 [0, -1, -1]).has⟩ := by kernel_rfl
theorem bd_refuse : match_Refuse.f bdF (bdS 1) bdT 2 1 = some ([0, 1], true, 0) := by
  unfold match_Refuse.f
  rw [if_neg (by rw [show askB bdF (bdS 1) bdT 2 1 false false = 0 from by kernel_rfl]; simp), if_neg (by rw [bd_is1]; simp), if_neg (by decide), bd_fill1, bd_hall1]
  rfl
theorem bd_hall : match_Hall.f bdF (bdS 1) bdT2 = some ([0, 1], true, 0) := by
  unfold match_Hall.f
  rw [if_neg (by rw [bd_check3]; simp), bd_fill2, bd_hall2]
  rfl
end Go.Proofs.Ytkmmihadcbfkoaa
end

section
namespace Go.Proofs.Ytkmmihadcbfkoaa
open Go.RowKit Go.Proofs.YtkmmihadcbfkoaaW.PrintWords PM
set_option linter.unusedVariables false
set_option linter.unusedSimpArgs false
def PM.laganlaw04_matched.f : Option Bool := some true
theorem fits2_world (w : World) (o : Obj) :
    ∃ W, (((((w.alloc o).alloc (.cells #[.int .i64 0] 3)).alloc (.cells #[.int .i64 0] 3)).alloc (.cells #[.int .i64 0, .int .i64 1] 3)).alloc
      (.cells #[.slice (some ⟨w.heap.size + 1, 0, none⟩) 1 1, .slice (some ⟨w.heap.size + 1 + 1, 0, none⟩) 1 1, .slice (some ⟨w.heap.size + 1 + 1 + 1, 0, none⟩) 2 2] 22)) = W ∧
      Below w.heap.size w W ∧ Kd.C (Kd.slice 3 (Kd.int .i64)) W (some ⟨w.heap.size + 1 + 1 + 1 + 1, 0, none⟩) bdT2.length bdT2 := by
  have hB : Below w.heap.size w (((((w.alloc o).alloc (.cells #[.int .i64 0] 3)).alloc (.cells #[.int .i64 0] 3)).alloc (.cells #[.int .i64 0, .int .i64 1] 3)).alloc
      (.cells #[.slice (some ⟨w.heap.size + 1, 0, none⟩) 1 1, .slice (some ⟨w.heap.size + 1 + 1, 0, none⟩) 1 1, .slice (some ⟨w.heap.size + 1 + 1 + 1, 0, none⟩) 2 2] 22)) := by
    repeat (first | exact Below.refl _ _ | refine below_alloc ?_ _)
  refine ⟨_, rfl, hB, ?_⟩
  obtain ⟨W, hW⟩ : ∃ W, (((((w.alloc o).alloc (.cells #[.int .i64 0] 3)).alloc (.cells #[.int .i64 0] 3)).alloc (.cells #[.int .i64 0, .int .i64 1] 3)).alloc
      (.cells #[.slice (some ⟨w.heap.size + 1, 0, none⟩) 1 1, .slice (some ⟨w.heap.size + 1 + 1, 0, none⟩) 1 1, .slice (some ⟨w.heap.size + 1 + 1 + 1, 0, none⟩) 2 2] 22)) = W := ⟨_, rfl⟩
  have e1 : W.heap[w.heap.size + 1]? = some (.cells #[.int .i64 0] 3 (0, 0)) := by
    rw [← hW]
    repeat (first | exact blk_new _ _ | (refine (congrArg _ ?_).trans (blk_new _ _); simp only [World.size_alloc]; done) | refine blk_alloc ?_ _)
  have e2 : W.heap[w.heap.size + 1 + 1]? = some (.cells #[.int .i64 0] 3 (0, 0)) := by
    rw [← hW]
    repeat (first | exact blk_new _ _ | (refine (congrArg _ ?_).trans (blk_new _ _); simp only [World.size_alloc]; done) | refine blk_alloc ?_ _)
  have e3 : W.heap[w.heap.size + 1 + 1 + 1]? = some (.cells #[.int .i64 0, .int .i64 1] 3 (0, 0)) := by
    rw [← hW]
    repeat (first | exact blk_new _ _ | (refine (congrArg _ ?_).trans (blk_new _ _); simp only [World.size_alloc]; done) | refine blk_alloc ?_ _)
  have e4 : W.heap[w.heap.size + 1 + 1 + 1 + 1]? = some (.cells #[.slice (some ⟨w.heap.size + 1, 0, none⟩) 1 1, .slice (some ⟨w.heap.size + 1 + 1, 0, none⟩) 1 1, .slice (some ⟨w.heap.size + 1 + 1 + 1, 0, none⟩) 2 2] 22 (0, 0)) := by
    rw [← hW]
    repeat (first | exact blk_new _ _ | (refine (congrArg _ ?_).trans (blk_new _ _); simp only [World.size_alloc]; done) | refine blk_alloc ?_ _)
  rw [hW]
  have r0 := rowC (l := [0]) e1 (by decide) (fun j v hv => by
    match j, hv with
    | 0, hv => have : (0 : Int) = v := by simpa using hv
               subst this; rfl)
  have r1 := rowC (l := [0]) e2 (by decide) (fun j v hv => by
    match j, hv with
    | 0, hv => have : (0 : Int) = v := by simpa using hv
               subst this; rfl)
  have r2 := rowC (l := [0, 1]) e3 (by decide) (fun j v hv => by
    match j, hv with
    | 0, hv => have : (0 : Int) = v := by simpa using hv
               subst this; rfl
    | 1, hv => have : (1 : Int) = v := by simpa using hv
               subst this; rfl)
  refine rowsC e4 (by decide) (fun j v hv => ?_)
  match j, hv with
  | 0, hv => have : ([0] : List Int) = v := by simpa [bdT2] using hv
             subst this; exact ⟨_, _, rfl, by decide, r0⟩
  | 1, hv => have : ([0] : List Int) = v := by simpa [bdT2] using hv
             subst this; exact ⟨_, _, rfl, by decide, r1⟩
  | 2, hv => have : ([0, 1] : List Int) = v := by simpa [bdT2] using hv
             subst this; exact ⟨_, _, rfl, by decide, r2⟩
  | n + 3, hv => simp [bdT2] at hv
/-- A list as said, beside a new one of the same numbers. -/
theorem same_calls {A : Option Addr} {c : Nat} {l : List Int} {w : World} (hr : Kd.C (Kd.int .i64) w A l.length l) (hc : l.length ≤ c) (hf : laganref04_SameInts.f 5 l l = some true) (hl : l.length ≤ 100) :
    Calls Try.prog 22 #[.slice A l.length c, .slice (some ⟨w.heap.size, 0, none⟩) l.length l.length] (w.alloc (.cells (l.map (Value.int .i64)).toArray 3)) fun e w' => e = .returned (.bool true) ∧ Below w.heap.size w w' := by
  have hb := (Below.refl w.heap.size w).alloc (Nat.le_refl _) (.cells (l.map (Value.int .i64)).toArray 3)
  refine (laganref04_SameInts.calls 5 A c l (some ⟨w.heap.size, 0, none⟩) l.length l true _ (Kd.C_below hr hb) hc (rowC (World.alloc_heap_new w _) (by omega) (fun j v hv => by simp [hv])) (Nat.le_refl _) hf).mono ?_
  rintro e w' ⟨rfl, hd⟩
  exact ⟨rfl, hb.trans (hd.below.mono hb.size)⟩
set_option maxRecDepth 100000 in
set_option maxHeartbeats 8000000 in
theorem matched_walk (w : World) : Calls Try.prog 14 #[] w fun e w' => e = .returned (.bool true) ∧ Below w.heap.size w w' := by
  go_enter Try.func14, Try.ntmps14
  go_wp2_with fail
  refine (board_calls 1 _).mono ?_
  rintro e w1 ⟨A0, c0, A1, c1, A2, c2, rfl, hc0, hc1, hc2, h0, h1, h2, hb1⟩
  have AC := PM.match_Assign.calls A0 c0 bdF A1 c1 (bdS 1) A2 c2 bdT _ _ _ w1 h0 hc0 h1 hc1 h2 hc2 bd_assign
  have HB1 := Go.Lib.hid hb1
  clear hc0 hc1 hc2 h0 h1 h2 hb1
  go_wp2_with fail
  refine AC.mono ?_
  clear AC
  rintro e w2 ⟨va, rfl, hRa, hb2⟩
  obtain ⟨Aa, ca, rfl, hla, hCa⟩ := Kd.R_reads hRa
  have HB2 := Go.Lib.hid (HB1.out.trans (hb2.mono HB1.out.size))
  have HCa := Go.Lib.hid hCa
  clear hRa hb2 hCa HB1
  go_wp2_with fail
  refine (board_calls 1 _).mono ?_
  rintro e w3 ⟨A0, c0, A1, c1, A2, c2, rfl, hc0, hc1, hc2, h0, h1, h2, hb3⟩
  have MC := PM.match_Must.calls 5 A0 c0 bdF A1 c1 (bdS 1) A2 c2 bdT _ _ w3 h0 hc0 h1 hc1 h2 hc2 bd_must1
  have HB3 := Go.Lib.hid (HB2.out.trans (hb3.mono HB2.out.size))
  have HCa3 := Go.Lib.hid (Kd.C_below HCa.out hb3)
  clear hc0 hc1 hc2 h0 h1 h2 hb3 HB2 HCa
  go_wp2_with fail
  refine MC.mono ?_
  clear MC
  rintro e w4 ⟨vb, rfl, hRb, hb4⟩
  obtain ⟨Ab, cb, rfl, hlb, hCb⟩ := Kd.R_reads hRb
  have HB4 := Go.Lib.hid (HB3.out.trans (hb4.mono HB3.out.size))
  have HCa4 := Go.Lib.hid (Kd.C_below HCa3.out hb4)
  have HCb4 := Go.Lib.hid hCb
  clear hRb hb4 hCb HB3 HCa3
  go_wp2_with fail
  refine (board_calls 2 _).mono ?_
  rintro e w5 ⟨A0, c0, A1, c1, A2, c2, rfl, hc0, hc1, hc2, h0, h1, h2, hb5⟩
  have MC := PM.match_Must.calls 5 A0 c0 bdF A1 c1 (bdS 2) A2 c2 bdT _ _ w5 h0 hc0 h1 hc1 h2 hc2 bd_must2
  have HB5 := Go.Lib.hid (HB4.out.trans (hb5.mono HB4.out.size))
  have HCa5 := Go.Lib.hid (Kd.C_below HCa4.out hb5)
  have HCb5 := Go.Lib.hid (Kd.C_below HCb4.out hb5)
  clear hc0 hc1 hc2 h0 h1 h2 hb5 HB4 HCa4 HCb4
  go_wp2_with fail
  refine MC.mono ?_
  clear MC
  rintro e w6 ⟨vc, rfl, hRc, hb6⟩
  obtain ⟨Ac, cc, rfl, hlc, hCc⟩ := Kd.R_reads hRc
  have HB6 := Go.Lib.hid (HB5.out.trans (hb6.mono HB5.out.size))
  have HCa6 := Go.Lib.hid (Kd.C_below HCa5.out hb6)
  have HCb6 := Go.Lib.hid (Kd.C_below HCb5.out hb6)
  have HCc6 := Go.Lib.hid hCc
  clear hRc hb6 hCc HB5 HCa5 HCb5
  go_wp2_with fail
  refine (board_calls 1 _).mono ?_
  rintro e w7 ⟨A0, c0, A1, c1, A2, c2, rfl, hc0, hc1, hc2, h0, h1, h2, hb7⟩
  have RC := PM.match_Refuse.calls A0 c0 bdF A1 c1 (bdS 1) A2 c2 bdT 2 1 _ _ _ w7 h0 hc0 h1 hc1 h2 hc2 bd_refuse
  have HB7 := Go.Lib.hid (HB6.out.trans (hb7.mono HB6.out.size))
  have HCa7 := Go.Lib.hid (Kd.C_below HCa6.out hb7)
  have HCb7 := Go.Lib.hid (Kd.C_below HCb6.out hb7)
  have HCc7 := Go.Lib.hid (Kd.C_below HCc6.out hb7)
  clear hc0 hc1 hc2 h0 h1 h2 hb7 HB6 HCa6 HCb6 HCc6
  go_wp2_with fail
  refine RC.mono ?_
  clear RC
  rintro e w8 ⟨vd, rfl, hRd, hb8⟩
  obtain ⟨Ad, cd, rfl, hld, hCd⟩ := Kd.R_reads hRd
  have HB8 := Go.Lib.hid (HB7.out.trans (hb8.mono HB7.out.size))
  have HC8 := Go.Lib.hid (And.intro (Kd.C_below HCa7.out hb8) (And.intro (Kd.C_below HCb7.out hb8) (And.intro (Kd.C_below HCc7.out hb8) hCd)))
  clear hRd hb8 hCd HB7 HCa7 HCb7 HCc7
  go_wp2_with fail
  refine (board_calls 2 _).mono ?_
  rintro e w9 ⟨A0, c0, A1, c1, A2, c2, rfl, hc0, hc1, hc2, h0, h1, h2, hb9⟩
  have LC := PM.match_Load.calls A0 c0 bdF A1 c1 (bdS 2) A2 c2 bdT 0 _ _ _ w9 h0 hc0 h1 hc1 h2 hc2 bd_load
  have HB9 := Go.Lib.hid (HB8.out.trans (hb9.mono HB8.out.size))
  have HC9 := Go.Lib.hid (And.intro (Kd.C_below HC8.out.1 hb9) (And.intro (Kd.C_below HC8.out.2.1 hb9) (And.intro (Kd.C_below HC8.out.2.2.1 hb9) (Kd.C_below HC8.out.2.2.2 hb9))))
  clear hc0 hc1 hc2 h0 h1 h2 hb9 HB8 HC8
  go_wp2_with fail
  refine LC.mono ?_
  clear LC
  rintro e w10 ⟨rfl, hb10⟩
  have HB10 := Go.Lib.hid (HB9.out.trans (hb10.mono HB9.out.size))
  have HC10 := Go.Lib.hid (And.intro (Kd.C_below HC9.out.1 hb10) (And.intro (Kd.C_below HC9.out.2.1 hb10) (And.intro (Kd.C_below HC9.out.2.2.1 hb10) (Kd.C_below HC9.out.2.2.2 hb10))))
  clear hb10 HB9 HC9
  go_wp2_with fail
  refine (board_calls 1 _).mono ?_
  rintro e w11 ⟨A0, c0, A1, c1, A2, c2, rfl, hc0, hc1, hc2, h0, h1, h2, hb11⟩
  have HB11 := Go.Lib.hid (HB10.out.trans (hb11.mono HB10.out.size))
  have HC11 := Go.Lib.hid (And.intro (Kd.C_below HC10.out.1 hb11) (And.intro (Kd.C_below HC10.out.2.1 hb11) (And.intro (Kd.C_below HC10.out.2.2.1 hb11) (Kd.C_below HC10.out.2.2.2 hb11))))
  have HD := Go.Lib.hid (And.intro h0 h1)
  clear hc2 h0 h1 h2 hb11 HB10 HC10
  go_wp2_with fail
  obtain ⟨W12, hW12, hb12, hT2⟩ := fits2_world w11 (.cells #[.slice A0 bdF.length c0, .slice A1 (bdS 1).length c1, .slice (some ⟨w11.heap.size + 1 + 1 + 1 + 1, 0, none⟩) 3 3] 26)
  rw [hW12]
  have HC := PM.match_Hall.calls A0 c0 bdF A1 c1 (bdS 1) _ 3 bdT2 _ _ _ W12 (Kd.C_below HD.out.1 hb12) hc0 (Kd.C_below HD.out.2 hb12) hc1 hT2 (by decide) bd_hall
  have HB12 := Go.Lib.hid (HB11.out.trans (hb12.mono HB11.out.size))
  have HC12 := Go.Lib.hid (And.intro (Kd.C_below HC11.out.1 hb12) (And.intro (Kd.C_below HC11.out.2.1 hb12) (And.intro (Kd.C_below HC11.out.2.2.1 hb12) (Kd.C_below HC11.out.2.2.2 hb12))))
  clear hW12 hb12 hT2 HD HB11 HC11 hc0 hc1
  refine HC.mono ?_
  clear HC
  rintro e w13 ⟨vk, rfl, hRk, hb13⟩
  obtain ⟨Ak, ck, rfl, hlk, _⟩ := Kd.R_reads hRk
  have HB13 := Go.Lib.hid (HB12.out.trans (hb13.mono HB12.out.size))
  have HC13 := Go.Lib.hid (And.intro (Kd.C_below HC12.out.1 hb13) (And.intro (Kd.C_below HC12.out.2.1 hb13) (And.intro (Kd.C_below HC12.out.2.2.1 hb13) (Kd.C_below HC12.out.2.2.2 hb13))))
  clear hRk hb13 HB12 HC12
  have SA := same_calls HC13.out.1 hla (by kernel_rfl) (by decide)
  go_wp2_with fail
  refine SA.mono ?_
  clear SA
  rintro e w14 ⟨rfl, hb14⟩
  have HB14 := Go.Lib.hid (HB13.out.trans (hb14.mono HB13.out.size))
  have SB := same_calls (Kd.C_below HC13.out.2.1 hb14) hlb (by kernel_rfl) (by decide)
  have HC14 := Go.Lib.hid (And.intro (Kd.C_below HC13.out.2.2.1 hb14) (Kd.C_below HC13.out.2.2.2 hb14))
  clear hb14 HB13 HC13
  go_wp2_with fail
  refine SB.mono ?_
  clear SB
  rintro e w15 ⟨rfl, hb15⟩
  have HB15 := Go.Lib.hid (HB14.out.trans (hb15.mono HB14.out.size))
  have SC := same_calls (Kd.C_below HC14.out.1 hb15) hlc (by kernel_rfl) (by decide)
  have HC15 := Go.Lib.hid (Kd.C_below HC14.out.2 hb15)
  clear hb15 HB14 HC14
  go_wp2_with fail
  refine SC.mono ?_
  clear SC
  rintro e w16 ⟨rfl, hb16⟩
  have HB16 := Go.Lib.hid (HB15.out.trans (hb16.mono HB15.out.size))
  have SD := same_calls (Kd.C_below HC15.out hb16) hld (by kernel_rfl) (by decide)
  clear hb16 HB15 HC15
  go_wp2_with fail
  refine SD.mono ?_
  clear SD
  rintro e w17 ⟨rfl, hb17⟩
  have HB17 := Go.Lib.hid (HB16.out.trans (hb17.mono HB16.out.size))
  clear hb17 HB16
  go_wp2_with fail
  go_ret
  exact ⟨rfl, HB17.out⟩
theorem PM.laganlaw04_matched.calls (r : Bool) (w : World) (h : laganlaw04_matched.f = some r) :
    Calls Try.prog 14 #[] w fun e w' => e = .returned (.bool r) ∧ Below w.heap.size w w' := by
  injection h with h
  subst h
  exact matched_walk w
end Go.Proofs.Ytkmmihadcbfkoaa
end

section
namespace Go.Proofs.Ytkmmihadcbfkoaa
open Go.RowKit Go.Proofs.YtkmmihadcbfkoaaW.PrintWords PM
set_option linter.unusedVariables false
set_option linter.unusedSimpArgs false
theorem Ev.same {α : Type} {x : Option α} {r : α} (h : x = some r) : Ev (fun _ => x) r := ⟨0, fun _ _ => h⟩
def meetsP (F : List Int) (S : List S50) (T : List (List Int)) (l : List Int) : Bool × Int := if checkB F S T ≠ 0 then (false, checkB F S T) else (meetsB F S T l, 0)
theorem meets_is (F : List Int) (S : List S50) (T : List (List Int)) (l : List Int) : Ev (fun k => match_Meets.f k F S T l) (meetsP F S T l) := by
  refine (Ev.const (meetsP F S T l)).congr fun k => ?_
  unfold match_Meets.f meetsP
  split <;> rfl
theorem matched_is : Ev (fun _ => laganlaw04_matched.f) true := Ev.const true
theorem take_step (l : List Int) (i : Nat) (h : i < l.length) (s : Int) : (l.take (i + 1)).count s = (l.take i).count s + if l.getD i 0 = s then 1 else 0 := by
  rw [List.take_add_one, List.count_append, List.getElem?_eq_getElem h, List.getD_eq_getElem?_getD, List.getElem?_eq_getElem h]
  show _ + List.count s [l[i]] = _ + if l[i] = s then 1 else 0
  rw [List.count_singleton]
  simp only [beq_iff_eq]
end Go.Proofs.Ytkmmihadcbfkoaa
end

section
namespace Go.Proofs.Ytkmmihadcbfkoaa.PM
open Go.RowKit Go.Proofs.YtkmmihadcbfkoaaW.PrintWords Go.Proofs.YtkmmihadcbfkoaaW.PrintLast Go.Proofs.YtkmmihadcbfkoaaW.PrintMore
set_option linter.unusedVariables false
set_option linter.unusedSimpArgs false
mutual
def laganlaw04_MatchLoads.j0 : Nat → List Int → Int → Bool → List Int → List (S50) → List (List Int) → Option (Bool)
 | 0, _, _, _, _, _, _ => none
 | k + 1, x1, x2, x33, x554000, x554001, x554002 => if x33 = true then ((laganlaw04_matched.f).bind fun t555 => (some t555)) else ((match_Load.f x554000 x554001 x554002 x2).bind fun bt556 => (if bt556.2.2 = 0 then (if bt556.1 < 0 then (laganlaw04_MatchLoads.j1 k x1 x2 bt556.1 bt556.2.1 true x554000 x554001 x554002) else (if bt556.1 > bt556.2.1 then (laganlaw04_MatchLoads.j1 k x1 x2 bt556.1 bt556.2.1 true x554000 x554001 x554002) else (if 0 ≤ x2 then (if x2 < (x554001.length : Int) then (laganlaw04_MatchLoads.j1 k x1 x2 bt556.1 bt556.2.1 (decide (bt556.2.1 > ((rd_T50 x554001 x2).f2))) x554000 x554001 x554002) else (none)) else (none)))) else ((laganlaw04_matched.f).bind fun t559 => (if t559 = true then (if bt556.1 = 0 then (some (bt556.2.1 == 0)) else (some false)) else (some false)))))
def laganlaw04_MatchLoads.j1 : Nat → List Int → Int → Int → Int → Bool → List Int → List (S50) → List (List Int) → Option (Bool)
 | 0, _, _, _, _, _, _, _, _ => none
 | k + 1, x1, x2, x7, x8, x69, x554000, x554001, x554002 => if x69 = true then (some false) else ((match_Meets.f k x554000 x554001 x554002 x1).bind fun bt561 => (laganlaw04_MatchLoads.l0 k x1 x2 x7 x8 bt561.1 bt561.2 0 0 x554000 x554001 x554002))
def laganlaw04_MatchLoads.l0 : Nat → List Int → Int → Int → Int → Bool → Int → Int → Int → List Int → List (S50) → List (List Int) → Option (Bool)
 | 0, _, _, _, _, _, _, _, _, _, _, _ => none
 | k + 1, x1, x2, x7, x8, x10, x11, x12, x13, x554000, x554001, x554002 => if x13 < (x1.length : Int) then (if 0 ≤ x13 then (if (rd x1 x13) = x2 then (laganlaw04_MatchLoads.l0 k x1 x2 x7 x8 x10 x11 (wrap64 (x12 + 1)) (wrap64 (x13 + 1)) x554000 x554001 x554002) else (laganlaw04_MatchLoads.l0 k x1 x2 x7 x8 x10 x11 x12 (wrap64 (x13 + 1)) x554000 x554001 x554002)) else (none)) else (if x11 = 0 then (if x10 = true then (if x12 < x7 then (laganlaw04_MatchLoads.j3 k true x554000 x554001 x554002) else (laganlaw04_MatchLoads.j3 k (decide (x12 > x8)) x554000 x554001 x554002)) else (laganlaw04_MatchLoads.j3 k false x554000 x554001 x554002)) else (laganlaw04_MatchLoads.j3 k true x554000 x554001 x554002))
def laganlaw04_MatchLoads.j3 : Nat → Bool → List Int → List (S50) → List (List Int) → Option (Bool)
 | 0, _, _, _, _ => none
 | k + 1, x104, x554000, x554001, x554002 => if x104 = true then (some false) else ((match_Assign.f x554000 x554001 x554002).bind fun bt564 => (if bt564.2.2 = 0 then (laganlaw04_MatchLoads.j4 k bt564.1 (!bt564.2.1) x554000 x554001 x554002) else (laganlaw04_MatchLoads.j4 k bt564.1 true x554000 x554001 x554002)))
def laganlaw04_MatchLoads.j4 : Nat → List Int → Bool → List Int → List (S50) → List (List Int) → Option (Bool)
 | 0, _, _, _, _, _ => none
 | k + 1, x14, x116, x554000, x554001, x554002 => if x116 = true then (some false) else (laganlaw04_MatchLoads.l1 k x14 0 0 x554000 x554001 x554002)
def laganlaw04_MatchLoads.l1 : Nat → List Int → Int → Int → List Int → List (S50) → List (List Int) → Option (Bool)
 | 0, _, _, _, _, _, _ => none
 | k + 1, x14, x17, x18, x554000, x554001, x554002 => if x18 < (x554001.length : Int) then ((match_Load.f x554000 x554001 x554002 x18).bind fun bt574 => (laganlaw04_MatchLoads.l2 k x14 x17 x18 bt574.1 bt574.2.1 bt574.2.2 0 0 x554000 x554001 x554002)) else ((match_Nobody.f k x554000 x554001 x554002).bind fun bt569 => ((laganlaw04_matched.f).bind fun t573 => (if t573 = true then (if bt569.2 = 0 then (some (x17 == (wrap64 ((x554000.length : Int) - (bt569.1.length : Int))))) else (some false)) else (some false))))
def laganlaw04_MatchLoads.l2 : Nat → List Int → Int → Int → Int → Int → Int → Int → Int → List Int → List (S50) → List (List Int) → Option (Bool)
 | 0, _, _, _, _, _, _, _, _, _, _, _ => none
 | k + 1, x14, x17, x18, x19, x20, x21, x22, x23, x554000, x554001, x554002 => if x23 < (x14.length : Int) then (if 0 ≤ x23 then (if (rd x14 x23) = x18 then (laganlaw04_MatchLoads.l2 k x14 x17 x18 x19 x20 x21 (wrap64 (x22 + 1)) (wrap64 (x23 + 1)) x554000 x554001 x554002) else (laganlaw04_MatchLoads.l2 k x14 x17 x18 x19 x20 x21 x22 (wrap64 (x23 + 1)) x554000 x554001 x554002)) else (none)) else (if x21 = 0 then (if x22 < x19 then (some false) else (if x22 > x20 then (some false) else (laganlaw04_MatchLoads.l1 k x14 (wrap64 (x17 + x22)) (wrap64 (x18 + 1)) x554000 x554001 x554002))) else (some false))
end
def laganlaw04_MatchLoads.f (k : Nat) (l0_0 : List Int) (l0_1 : List (S50)) (l0_2 : List (List Int)) (l1 : List Int) (a2 : Int) : Option (Bool) := (laganlaw04_wide.f k l0_0 l0_1 l0_2).bind fun t554 => (if t554 = true then (laganlaw04_MatchLoads.j0 k l1 a2 (decide ((l1.length : Int) > 80)) l0_0 l0_1 l0_2) else (laganlaw04_MatchLoads.j0 k l1 a2 true l0_0 l0_1 l0_2))
theorem laganlaw04_MatchLoads.mono_l : ∀ k, (∀ y0 y1 y2 y3 y4 y5, LeO (laganlaw04_MatchLoads.j0 k y0 y1 y2 y3 y4 y5) (laganlaw04_MatchLoads.j0 (k + 1) y0 y1 y2 y3 y4 y5)) ∧ (∀ y0 y1 y2 y3 y4 y5 y6 y7, LeO (laganlaw04_MatchLoads.j1 k y0 y1 y2 y3 y4 y5 y6 y7) (laganlaw04_MatchLoads.j1 (k + 1) y0 y1 y2 y3 y4 y5 y6 y7)) ∧ (∀ y0 y1 y2 y3 y4 y5 y6 y7 y8 y9 y10, LeO (laganlaw04_MatchLoads.l0 k y0 y1 y2 y3 y4 y5 y6 y7 y8 y9 y10) (laganlaw04_MatchLoads.l0 (k + 1) y0 y1 y2 y3 y4 y5 y6 y7 y8 y9 y10)) ∧ (∀ y0 y1 y2 y3, LeO (laganlaw04_MatchLoads.j3 k y0 y1 y2 y3) (laganlaw04_MatchLoads.j3 (k + 1) y0 y1 y2 y3)) ∧ (∀ y0 y1 y2 y3 y4, LeO (laganlaw04_MatchLoads.j4 k y0 y1 y2 y3 y4) (laganlaw04_MatchLoads.j4 (k + 1) y0 y1 y2 y3 y4)) ∧ (∀ y0 y1 y2 y3 y4 y5, LeO (laganlaw04_MatchLoads.l1 k y0 y1 y2 y3 y4 y5) (laganlaw04_MatchLoads.l1 (k + 1) y0 y1 y2 y3 y4 y5)) ∧ (∀ y0 y1 y2 y3 y4 y5 y6 y7 y8 y9 y10, LeO (laganlaw04_MatchLoads.l2 k y0 y1 y2 y3 y4 y5 y6 y7 y8 y9 y10) (laganlaw04_MatchLoads.l2 (k + 1) y0 y1 y2 y3 y4 y5 y6 y7 y8 y9 y10))
 | 0 => ⟨fun _ _ _ _ _ _ r h => by simp [laganlaw04_MatchLoads.j0] at h, fun _ _ _ _ _ _ _ _ r h => by simp [laganlaw04_MatchLoads.j1] at h, fun _ _ _ _ _ _ _ _ _ _ _ r h => by simp [laganlaw04_MatchLoads.l0] at h, fun _ _ _ _ r h => by simp [laganlaw04_MatchLoads.j3] at h, fun _ _ _ _ _ r h => by simp [laganlaw04_MatchLoads.j4] at h, fun _ _ _ _ _ _ r h => by simp [laganlaw04_MatchLoads.l1] at h, fun _ _ _ _ _ _ _ _ _ _ _ r h => by simp [laganlaw04_MatchLoads.l2] at h⟩
 | k + 1 => by
  obtain ⟨ih0, ih1, ih2, ih3, ih4, ih5, ih6⟩ := laganlaw04_MatchLoads.mono_l k
  refine ⟨?_, ?_, ?_, ?_, ?_, ?_, ?_⟩
  ·
   intro y0 y1 y2 y3 y4 y5
   unfold laganlaw04_MatchLoads.j0
   repeat' first
   | (with_reducible exact ih0 _ _ _ _ _ _)
   | (with_reducible exact ih1 _ _ _ _ _ _ _ _)
   | (with_reducible exact ih2 _ _ _ _ _ _ _ _ _ _ _)
   | (with_reducible exact ih3 _ _ _ _)
   | (with_reducible exact ih4 _ _ _ _ _)
   | (with_reducible exact ih5 _ _ _ _ _ _)
   | (with_reducible exact ih6 _ _ _ _ _ _ _ _ _ _ _)
   | (with_reducible exact laganlaw04_wide.mono _ _ _ _)
   | (with_reducible exact match_Meets.mono _ _ _ _ _)
   | (with_reducible exact match_Nobody.mono _ _ _ _)
   | (with_reducible exact LeO.refl _)
   | (with_reducible exact LeO.none _)
   | (with_reducible refine LeO.ite ?_ ?_)
   | (with_reducible refine LeO.bind ?_ (fun _ => ?_))
   | exact ih0 _ _ _ _ _ _
   | exact ih1 _ _ _ _ _ _ _ _
   | exact ih2 _ _ _ _ _ _ _ _ _ _ _
   | exact ih3 _ _ _ _
   | exact ih4 _ _ _ _ _
   | exact ih5 _ _ _ _ _ _
   | exact ih6 _ _ _ _ _ _ _ _ _ _ _
   | exact laganlaw04_wide.mono _ _ _ _
   | exact match_Meets.mono _ _ _ _ _
   | exact match_Nobody.mono _ _ _ _
   | exact LeO.none _
   | refine LeO.ite ?_ ?_
   | refine LeO.bind ?_ (fun _ => ?_)
  ·
   intro y0 y1 y2 y3 y4 y5 y6 y7
   unfold laganlaw04_MatchLoads.j1
   repeat' first
   | (with_reducible exact ih0 _ _ _ _ _ _)
   | (with_reducible exact ih1 _ _ _ _ _ _ _ _)
   | (with_reducible exact ih2 _ _ _ _ _ _ _ _ _ _ _)
   | (with_reducible exact ih3 _ _ _ _)
   | (with_reducible exact ih4 _ _ _ _ _)
   | (with_reducible exact ih5 _ _ _ _ _ _)
   | (with_reducible exact ih6 _ _ _ _ _ _ _ _ _ _ _)
   | (with_reducible exact laganlaw04_wide.mono _ _ _ _)
   | (with_reducible exact match_Meets.mono _ _ _ _ _)
   | (with_reducible exact match_Nobody.mono _ _ _ _)
   | (with_reducible exact LeO.refl _)
   | (with_reducible exact LeO.none _)
   | (with_reducible refine LeO.ite ?_ ?_)
   | (with_reducible refine LeO.bind ?_ (fun _ => ?_))
   | exact ih0 _ _ _ _ _ _
   | exact ih1 _ _ _ _ _ _ _ _
   | exact ih2 _ _ _ _ _ _ _ _ _ _ _
   | exact ih3 _ _ _ _
   | exact ih4 _ _ _ _ _
   | exact ih5 _ _ _ _ _ _
   | exact ih6 _ _ _ _ _ _ _ _ _ _ _
   | exact laganlaw04_wide.mono _ _ _ _
   | exact match_Meets.mono _ _ _ _ _
   | exact match_Nobody.mono _ _ _ _
   | exact LeO.none _
   | refine LeO.ite ?_ ?_
   | refine LeO.bind ?_ (fun _ => ?_)
  ·
   intro y0 y1 y2 y3 y4 y5 y6 y7 y8 y9 y10
   unfold laganlaw04_MatchLoads.l0
   repeat' first
   | (with_reducible exact ih0 _ _ _ _ _ _)
   | (with_reducible exact ih1 _ _ _ _ _ _ _ _)
   | (with_reducible exact ih2 _ _ _ _ _ _ _ _ _ _ _)
   | (with_reducible exact ih3 _ _ _ _)
   | (with_reducible exact ih4 _ _ _ _ _)
   | (with_reducible exact ih5 _ _ _ _ _ _)
   | (with_reducible exact ih6 _ _ _ _ _ _ _ _ _ _ _)
   | (with_reducible exact laganlaw04_wide.mono _ _ _ _)
   | (with_reducible exact match_Meets.mono _ _ _ _ _)
   | (with_reducible exact match_Nobody.mono _ _ _ _)
   | (with_reducible exact LeO.refl _)
   | (with_reducible exact LeO.none _)
   | (with_reducible refine LeO.ite ?_ ?_)
   | (with_reducible refine LeO.bind ?_ (fun _ => ?_))
   | exact ih0 _ _ _ _ _ _
   | exact ih1 _ _ _ _ _ _ _ _
   | exact ih2 _ _ _ _ _ _ _ _ _ _ _
   | exact ih3 _ _ _ _
   | exact ih4 _ _ _ _ _
   | exact ih5 _ _ _ _ _ _
   | exact ih6 _ _ _ _ _ _ _ _ _ _ _
   | exact laganlaw04_wide.mono _ _ _ _
   | exact match_Meets.mono _ _ _ _ _
   | exact match_Nobody.mono _ _ _ _
   | exact LeO.none _
   | refine LeO.ite ?_ ?_
   | refine LeO.bind ?_ (fun _ => ?_)
  ·
   intro y0 y1 y2 y3
   unfold laganlaw04_MatchLoads.j3
   repeat' first
   | (with_reducible exact ih0 _ _ _ _ _ _)
   | (with_reducible exact ih1 _ _ _ _ _ _ _ _)
   | (with_reducible exact ih2 _ _ _ _ _ _ _ _ _ _ _)
   | (with_reducible exact ih3 _ _ _ _)
   | (with_reducible exact ih4 _ _ _ _ _)
   | (with_reducible exact ih5 _ _ _ _ _ _)
   | (with_reducible exact ih6 _ _ _ _ _ _ _ _ _ _ _)
   | (with_reducible exact laganlaw04_wide.mono _ _ _ _)
   | (with_reducible exact match_Meets.mono _ _ _ _ _)
   | (with_reducible exact match_Nobody.mono _ _ _ _)
   | (with_reducible exact LeO.refl _)
   | (with_reducible exact LeO.none _)
   | (with_reducible refine LeO.ite ?_ ?_)
   | (with_reducible refine LeO.bind ?_ (fun _ => ?_))
   | exact ih0 _ _ _ _ _ _
   | exact ih1 _ _ _ _ _ _ _ _
   | exact ih2 _ _ _ _ _ _ _ _ _ _ _
   | exact ih3 _ _ _ _
   | exact ih4 _ _ _ _ _
   | exact ih5 _ _ _ _ _ _
   | exact ih6 _ _ _ _ _ _ _ _ _ _ _
   | exact laganlaw04_wide.mono _ _ _ _
   | exact match_Meets.mono _ _ _ _ _
   | exact match_Nobody.mono _ _ _ _
   | exact LeO.none _
   | refine LeO.ite ?_ ?_
   | refine LeO.bind ?_ (fun _ => ?_)
  ·
   intro y0 y1 y2 y3 y4
   unfold laganlaw04_MatchLoads.j4
   repeat' first
   | (with_reducible exact ih0 _ _ _ _ _ _)
   | (with_reducible exact ih1 _ _ _ _ _ _ _ _)
   | (with_reducible exact ih2 _ _ _ _ _ _ _ _ _ _ _)
   | (with_reducible exact ih3 _ _ _ _)
   | (with_reducible exact ih4 _ _ _ _ _)
   | (with_reducible exact ih5 _ _ _ _ _ _)
   | (with_reducible exact ih6 _ _ _ _ _ _ _ _ _ _ _)
   | (with_reducible exact laganlaw04_wide.mono _ _ _ _)
   | (with_reducible exact match_Meets.mono _ _ _ _ _)
   | (with_reducible exact match_Nobody.mono _ _ _ _)
   | (with_reducible exact LeO.refl _)
   | (with_reducible exact LeO.none _)
   | (with_reducible refine LeO.ite ?_ ?_)
   | (with_reducible refine LeO.bind ?_ (fun _ => ?_))
   | exact ih0 _ _ _ _ _ _
   | exact ih1 _ _ _ _ _ _ _ _
   | exact ih2 _ _ _ _ _ _ _ _ _ _ _
   | exact ih3 _ _ _ _
   | exact ih4 _ _ _ _ _
   | exact ih5 _ _ _ _ _ _
   | exact ih6 _ _ _ _ _ _ _ _ _ _ _
   | exact laganlaw04_wide.mono _ _ _ _
   | exact match_Meets.mono _ _ _ _ _
   | exact match_Nobody.mono _ _ _ _
   | exact LeO.none _
   | refine LeO.ite ?_ ?_
   | refine LeO.bind ?_ (fun _ => ?_)
  ·
   intro y0 y1 y2 y3 y4 y5
   unfold laganlaw04_MatchLoads.l1
   repeat' first
   | (with_reducible exact ih0 _ _ _ _ _ _)
   | (with_reducible exact ih1 _ _ _ _ _ _ _ _)
   | (with_reducible exact ih2 _ _ _ _ _ _ _ _ _ _ _)
   | (with_reducible exact ih3 _ _ _ _)
   | (with_reducible exact ih4 _ _ _ _ _)
   | (with_reducible exact ih5 _ _ _ _ _ _)
   | (with_reducible exact ih6 _ _ _ _ _ _ _ _ _ _ _)
   | (with_reducible exact laganlaw04_wide.mono _ _ _ _)
   | (with_reducible exact match_Meets.mono _ _ _ _ _)
   | (with_reducible exact match_Nobody.mono _ _ _ _)
   | (with_reducible exact LeO.refl _)
   | (with_reducible exact LeO.none _)
   | (with_reducible refine LeO.ite ?_ ?_)
   | (with_reducible refine LeO.bind ?_ (fun _ => ?_))
   | exact ih0 _ _ _ _ _ _
   | exact ih1 _ _ _ _ _ _ _ _
   | exact ih2 _ _ _ _ _ _ _ _ _ _ _
   | exact ih3 _ _ _ _
   | exact ih4 _ _ _ _ _
   | exact ih5 _ _ _ _ _ _
   | exact ih6 _ _ _ _ _ _ _ _ _ _ _
   | exact laganlaw04_wide.mono _ _ _ _
   | exact match_Meets.mono _ _ _ _ _
   | exact match_Nobody.mono _ _ _ _
   | exact LeO.none _
   | refine LeO.ite ?_ ?_
   | refine LeO.bind ?_ (fun _ => ?_)
  ·
   intro y0 y1 y2 y3 y4 y5 y6 y7 y8 y9 y10
   unfold laganlaw04_MatchLoads.l2
   repeat' first
   | (with_reducible exact ih0 _ _ _ _ _ _)
   | (with_reducible exact ih1 _ _ _ _ _ _ _ _)
   | (with_reducible exact ih2 _ _ _ _ _ _ _ _ _ _ _)
   | (with_reducible exact ih3 _ _ _ _)
   | (with_reducible exact ih4 _ _ _ _ _)
   | (with_reducible exact ih5 _ _ _ _ _ _)
   | (with_reducible exact ih6 _ _ _ _ _ _ _ _ _ _ _)
   | (with_reducible exact laganlaw04_wide.mono _ _ _ _)
   | (with_reducible exact match_Meets.mono _ _ _ _ _)
   | (with_reducible exact match_Nobody.mono _ _ _ _)
   | (with_reducible exact LeO.refl _)
   | (with_reducible exact LeO.none _)
   | (with_reducible refine LeO.ite ?_ ?_)
   | (with_reducible refine LeO.bind ?_ (fun _ => ?_))
   | exact ih0 _ _ _ _ _ _
   | exact ih1 _ _ _ _ _ _ _ _
   | exact ih2 _ _ _ _ _ _ _ _ _ _ _
   | exact ih3 _ _ _ _
   | exact ih4 _ _ _ _ _
   | exact ih5 _ _ _ _ _ _
   | exact ih6 _ _ _ _ _ _ _ _ _ _ _
   | exact laganlaw04_wide.mono _ _ _ _
   | exact match_Meets.mono _ _ _ _ _
   | exact match_Nobody.mono _ _ _ _
   | exact LeO.none _
   | refine LeO.ite ?_ ?_
   | refine LeO.bind ?_ (fun _ => ?_)
theorem laganlaw04_MatchLoads.mono : ∀ a0 a1 a2 a3 a4 k, LeO (laganlaw04_MatchLoads.f k a0 a1 a2 a3 a4) (laganlaw04_MatchLoads.f (k + 1) a0 a1 a2 a3 a4) := by
 intro a0 a1 a2 a3 a4 k
 obtain ⟨ih0, ih1, ih2, ih3, ih4, ih5, ih6⟩ := laganlaw04_MatchLoads.mono_l k
 unfold laganlaw04_MatchLoads.f
 repeat' first
   | (with_reducible exact ih0 _ _ _ _ _ _)
   | (with_reducible exact ih1 _ _ _ _ _ _ _ _)
   | (with_reducible exact ih2 _ _ _ _ _ _ _ _ _ _ _)
   | (with_reducible exact ih3 _ _ _ _)
   | (with_reducible exact ih4 _ _ _ _ _)
   | (with_reducible exact ih5 _ _ _ _ _ _)
   | (with_reducible exact ih6 _ _ _ _ _ _ _ _ _ _ _)
   | (with_reducible exact laganlaw04_wide.mono _ _ _ _)
   | (with_reducible exact match_Meets.mono _ _ _ _ _)
   | (with_reducible exact match_Nobody.mono _ _ _ _)
   | (with_reducible exact LeO.refl _)
   | (with_reducible exact LeO.none _)
   | (with_reducible refine LeO.ite ?_ ?_)
   | (with_reducible refine LeO.bind ?_ (fun _ => ?_))
   | exact ih0 _ _ _ _ _ _
   | exact ih1 _ _ _ _ _ _ _ _
   | exact ih2 _ _ _ _ _ _ _ _ _ _ _
   | exact ih3 _ _ _ _
   | exact ih4 _ _ _ _ _
   | exact ih5 _ _ _ _ _ _
   | exact ih6 _ _ _ _ _ _ _ _ _ _ _
   | exact laganlaw04_wide.mono _ _ _ _
   | exact match_Meets.mono _ _ _ _ _
   | exact match_Nobody.mono _ _ _ _
   | exact LeO.none _
   | refine LeO.ite ?_ ?_
   | refine LeO.bind ?_ (fun _ => ?_)
set_option maxHeartbeats 8000000 in
set_option maxRecDepth 100000 in
theorem laganlaw04_MatchLoads.calls (k : Nat) (A0_0 : Option Addr) (c0_0 : Nat) (l0_0 : List Int) (A0_1 : Option Addr) (c0_1 : Nat) (l0_1 : List (S50)) (A0_2 : Option Addr) (c0_2 : Nat) (l0_2 : List (List Int)) (A1 : Option Addr) (c1 : Nat) (l1 : List Int) (a2 : Int) (r : Bool) (w : World) (hr0_0 : Kd.C (Kd.int .i64) w A0_0 l0_0.length l0_0) (hc0_0 : l0_0.length ≤ c0_0) (hr0_1 : Kd.C k50 w A0_1 l0_1.length l0_1) (hc0_1 : l0_1.length ≤ c0_1) (hr0_2 : Kd.C (Kd.slice 3 (Kd.int .i64)) w A0_2 l0_2.length l0_2) (hc0_2 : l0_2.length ≤ c0_2) (hr1 : Kd.C (Kd.int .i64) w A1 l1.length l1) (hc1 : l1.length ≤ c1) (h : laganlaw04_MatchLoads.f k l0_0 l0_1 l0_2 l1 a2 = some r) :
  Calls Try.prog 6 #[.agg #[.slice A0_0 l0_0.length c0_0, .slice A0_1 l0_1.length c0_1, .slice A0_2 l0_2.length c0_2], .slice A1 l1.length c1, .int .i64 a2] w fun e w' => e = .returned (.bool r) ∧ Below w.heap.size w w' := by
 have hu26 := Try.underlying26
 have HR0_0 := Aside0.mk hr0_0
 have HC0_0 := Aside0.mk hc0_0
 clear hr0_0 hc0_0
 have HR0_1 := Aside0.mk hr0_1
 have HC0_1 := Aside0.mk hc0_1
 clear hr0_1 hc0_1
 have HR0_2 := Aside0.mk hr0_2
 have HC0_2 := Aside0.mk hc0_2
 clear hr0_2 hc0_2
 have HR1 := Aside0.mk hr1
 have HC1 := Aside0.mk hc1
 clear hr1 hc1
 have HB := Aside0.mk (Below.refl w.heap.size w)
 have H : ((laganlaw04_wide.f k l0_0 l0_1 l0_2).bind fun t554 => (if t554 = true then (laganlaw04_MatchLoads.j0 k l1 a2 (decide ((l1.length : Int) > 80)) l0_0 l0_1 l0_2) else (laganlaw04_MatchLoads.j0 k l1 a2 true l0_0 l0_1 l0_2))) = some r := h
 clear h
 have HC4 := Aside0.mk H
 clear H
 go_enter Try.func6, Try.ntmps6
 go_upto_region 1 with (first | ((with_reducible refine gate_dst (N := 3) rfl ?_); (try (refine gate_guard (by rfl) ?_; dsimp only)); refine box_event ?hg (N := 3) ?hd (cs := #[.slice A0_0 l0_0.length c0_0, .slice A0_1 l0_1.length c0_1, .slice A0_2 l0_2.length c0_2]) (t := 26) ?hr ?_; (case hd => rfl); (case hg => rfl); (case hr => first | (go_simp; done) | (go_simp; rfl)); intro gb553 hg w5 hbox hb; have n0_ := Aside0.mk (below_step (by repeat (first | (with_reducible first | exact HB.out | apply below_alloc | apply pw_below_drewN | apply below_drew1) | exact HB.out)) hb); have n1_ := Aside0.mk (hbox); have n2_ := Aside0.mk ((by rw [hg]; exact (below_size (by repeat (first | (with_reducible first | exact HB.out | apply below_alloc | apply pw_below_drewN | apply below_drew1) | exact HB.out))) : w.heap.size ≤ gb553)); have n3_ := Aside0.mk ((by rw [hg]; exact (below_size (by repeat (first | (with_reducible first | exact HB.out | apply below_alloc | apply pw_below_drewN | apply below_drew1) | exact HB.out))) : w.heap.size ≤ gb553)); clear HB; have HB := n0_; have BK553 := n1_; have GW553 := n2_; have GE553 := n3_; clear n0_ n1_ n2_ n3_; clear hb hbox hg))
 (try simp only [Act.put, List.setIfInBounds_toArray, List.set_cons_zero, List.set_cons_succ])
 go_cut [33] (fun v33 wc => ∃ (kq : Nat) (x33_3 : Bool), v33 = .bool x33_3 ∧ Aside0 (laganlaw04_MatchLoads.j0 kq l1 a2 x33_3 l0_0 l0_1 l0_2 = some r) ∧ Aside0 (kq ≤ k) ∧ Aside0 (wc.heap[gb553]? = some (.cells #[(.slice A0_0 l0_0.length c0_0), (.slice A0_1 l0_1.length c0_1), (.slice A0_2 l0_2.length c0_2)] 26 (0, 0))) ∧ Aside0 (Below w.heap.size w wc))
 case first =>
  have H := HC4.out
  clear HC4
  replace H := Option.bind_eq_some_iff.mp H
  obtain ⟨t554, A60, H⟩ := H
  replace H : (if t554 = true then (laganlaw04_MatchLoads.j0 k l1 a2 (decide ((l1.length : Int) > 80)) l0_0 l0_1 l0_2) else (laganlaw04_MatchLoads.j0 k l1 a2 true l0_0 l0_1 l0_2)) = some r := H
  have A6 := Aside0.mk A60
  clear A60
  by_cases c7 : t554 = true
  ·
   subst c7
   have H1 : (laganlaw04_MatchLoads.j0 k l1 a2 (decide ((l1.length : Int) > 80)) l0_0 l0_1 l0_2) = some r := by rw [if_pos rfl] at H; exact H
   clear H
   have H := H1
   clear H1
   have H' := Aside0.mk H
   clear H
   have hcz8_0 : w5.cell? ⟨gb553, 0, none⟩ = some (.slice A0_0 l0_0.length c0_0) := (blk_cell BK553.out 0).trans rfl
   have hcz8_1 : w5.cell? ⟨gb553, 1, none⟩ = some (.slice A0_1 l0_1.length c0_1) := (blk_cell BK553.out 1).trans rfl
   have hcz8_2 : w5.cell? ⟨gb553, 2, none⟩ = some (.slice A0_2 l0_2.length c0_2) := (blk_cell BK553.out 2).trans rfl
   have hfz8_0 := blk_frozen BK553.out 0
   have hfz8_1 := blk_frozen BK553.out 1
   have hfz8_2 := blk_frozen BK553.out 2
   go_wp2_with (first | ((with_reducible refine gate_callee (f := 25) rfl ?_); refine goesL_ (some 27) rfl rfl Try.func25 (by kernel_rfl) rfl #[.agg #[.slice A0_0 l0_0.length c0_0, .slice A0_1 l0_1.length c0_1, .slice A0_2 l0_2.length c0_2]] rfl (by (try simp only [List.map_toArray, List.map_cons, List.map_nil]); first | done | rfl | (simp only [List.length_drop, List.length_take]; rfl)) ?_; (with_reducible refine (laganlaw04_wide.calls k _ _ l0_0 _ _ l0_1 _ _ l0_2 true _ ?side1 ?side2 ?side3 ?side4 ?side5 ?side6 A6.out).mono ?_); (case side1 => repeat (first | exact (Kd.C_below HR0_0.out HB.out) | (with_reducible refine Kd.C_alloc ?_ _) | (with_reducible refine Kd.C_drewN ?_ _) | (with_reducible refine Kd.C_drew ?_))); (case side2 => exact HC0_0.out); (case side3 => repeat (first | exact (Kd.C_below HR0_1.out HB.out) | (with_reducible refine Kd.C_alloc ?_ _) | (with_reducible refine Kd.C_drewN ?_ _) | (with_reducible refine Kd.C_drew ?_))); (case side4 => exact HC0_1.out); (case side5 => repeat (first | exact (Kd.C_below HR0_2.out HB.out) | (with_reducible refine Kd.C_alloc ?_ _) | (with_reducible refine Kd.C_drewN ?_ _) | (with_reducible refine Kd.C_drew ?_))); (case side6 => exact HC0_2.out); rintro e w9 ⟨rfl, hb⟩; refine ⟨_, rfl, ?_⟩; have n0_ := Aside0.mk (blk_below (g := gb553) (o := .cells #[.slice A0_0 l0_0.length c0_0, .slice A0_1 l0_1.length c0_1, .slice A0_2 l0_2.length c0_2] 26 (0, 0)) (by (with_reducible repeat (first | refine blk_drewN ?_ _ | refine blk_drew ?_ | refine blk_alloc ?_ _)); exact BK553.out) hb); have n1_ := Aside0.mk (below_step (by repeat (first | (with_reducible first | exact HB.out | apply below_alloc | apply pw_below_drewN | apply below_drew1 | refine below_set ?_ GE553.out) | exact HB.out)) hb); clear BK553; clear HB; have BK553 := n0_; have HB := n1_; clear n0_ n1_; (try clear hb); (try clear hb2); (try clear hk); (try clear hi)))
   go_meet
   case rel => exact ⟨_, (decide ((l1.length : Int) > 80)), (by first | rfl | (simp; done) | (simp [*]; done)), H', ⟨by first | omega | exact Nat.le_refl _⟩, ⟨by (with_reducible repeat (first | refine blk_drewN ?_ _ | refine blk_drew ?_ | refine blk_alloc ?_ _)); exact BK553.out⟩, ⟨by repeat (first | (with_reducible first | exact HB.out | apply below_alloc | apply pw_below_drewN | apply below_drew1 | refine below_set ?_ GE553.out) | exact HB.out)⟩⟩
  ·
   replace c7 := Bool.eq_false_iff.mpr c7
   subst c7
   have H1 : (laganlaw04_MatchLoads.j0 k l1 a2 true l0_0 l0_1 l0_2) = some r := by rw [if_neg (show ¬ (false = true) by decide)] at H; exact H
   clear H
   have H := H1
   clear H1
   have H' := Aside0.mk H
   clear H
   have hcz10_0 : w5.cell? ⟨gb553, 0, none⟩ = some (.slice A0_0 l0_0.length c0_0) := (blk_cell BK553.out 0).trans rfl
   have hcz10_1 : w5.cell? ⟨gb553, 1, none⟩ = some (.slice A0_1 l0_1.length c0_1) := (blk_cell BK553.out 1).trans rfl
   have hcz10_2 : w5.cell? ⟨gb553, 2, none⟩ = some (.slice A0_2 l0_2.length c0_2) := (blk_cell BK553.out 2).trans rfl
   have hfz10_0 := blk_frozen BK553.out 0
   have hfz10_1 := blk_frozen BK553.out 1
   have hfz10_2 := blk_frozen BK553.out 2
   go_wp2_with (first | ((with_reducible refine gate_callee (f := 25) rfl ?_); refine goesL_ (some 27) rfl rfl Try.func25 (by kernel_rfl) rfl #[.agg #[.slice A0_0 l0_0.length c0_0, .slice A0_1 l0_1.length c0_1, .slice A0_2 l0_2.length c0_2]] rfl (by (try simp only [List.map_toArray, List.map_cons, List.map_nil]); first | done | rfl | (simp only [List.length_drop, List.length_take]; rfl)) ?_; (with_reducible refine (laganlaw04_wide.calls k _ _ l0_0 _ _ l0_1 _ _ l0_2 false _ ?side1 ?side2 ?side3 ?side4 ?side5 ?side6 A6.out).mono ?_); (case side1 => repeat (first | exact (Kd.C_below HR0_0.out HB.out) | (with_reducible refine Kd.C_alloc ?_ _) | (with_reducible refine Kd.C_drewN ?_ _) | (with_reducible refine Kd.C_drew ?_))); (case side2 => exact HC0_0.out); (case side3 => repeat (first | exact (Kd.C_below HR0_1.out HB.out) | (with_reducible refine Kd.C_alloc ?_ _) | (with_reducible refine Kd.C_drewN ?_ _) | (with_reducible refine Kd.C_drew ?_))); (case side4 => exact HC0_1.out); (case side5 => repeat (first | exact (Kd.C_below HR0_2.out HB.out) | (with_reducible refine Kd.C_alloc ?_ _) | (with_reducible refine Kd.C_drewN ?_ _) | (with_reducible refine Kd.C_drew ?_))); (case side6 => exact HC0_2.out); rintro e w11 ⟨rfl, hb⟩; refine ⟨_, rfl, ?_⟩; have n0_ := Aside0.mk (blk_below (g := gb553) (o := .cells #[.slice A0_0 l0_0.length c0_0, .slice A0_1 l0_1.length c0_1, .slice A0_2 l0_2.length c0_2] 26 (0, 0)) (by (with_reducible repeat (first | refine blk_drewN ?_ _ | refine blk_drew ?_ | refine blk_alloc ?_ _)); exact BK553.out) hb); have n1_ := Aside0.mk (below_step (by repeat (first | (with_reducible first | exact HB.out | apply below_alloc | apply pw_below_drewN | apply below_drew1 | refine below_set ?_ GE553.out) | exact HB.out)) hb); clear BK553; clear HB; have BK553 := n0_; have HB := n1_; clear n0_ n1_; (try clear hb); (try clear hb2); (try clear hk); (try clear hi)))
   go_meet
   case rel => exact ⟨_, (true), (by first | rfl | (simp; done) | (simp [*]; done)), H', ⟨by first | omega | exact Nat.le_refl _⟩, ⟨by (with_reducible repeat (first | refine blk_drewN ?_ _ | refine blk_drew ?_ | refine blk_alloc ?_ _)); exact BK553.out⟩, ⟨by repeat (first | (with_reducible first | exact HB.out | apply below_alloc | apply pw_below_drewN | apply below_drew1 | refine below_set ?_ GE553.out) | exact HB.out)⟩⟩
 case rest =>
  clear HC4
  try clear c1
  try clear c2
  try clear p2
  try clear c6
  try clear c7
  try clear hcz10_0
  try clear hcz10_1
  try clear hcz10_2
  try clear hcz8_0
  try clear hcz8_1
  try clear hcz8_2
  try clear hfz10_0
  try clear hfz10_1
  try clear hfz10_2
  try clear hfz8_0
  try clear hfz8_1
  try clear hfz8_2
  obtain ⟨kq, x33_3, rfl, HA, HJ3, BK553, HB⟩ := hcut
  cases kq with
  | zero => exact absurd HA.out (by simp [laganlaw04_MatchLoads.j0])
  | succ kj3 =>
   have H := HA.out
   clear HA
   simp only [laganlaw04_MatchLoads.j0] at H
   by_cases c12 : x33_3 = true
   ·
    subst c12
    have H1 : ((laganlaw04_matched.f).bind fun t555 => (some t555)) = some r := by rw [if_pos rfl] at H; exact H
    clear H
    have H := H1
    clear H1
    replace H := Option.bind_eq_some_iff.mp H
    obtain ⟨t555, A130, H⟩ := H
    replace H : (some t555) = some r := H
    have A13 := Aside0.mk A130
    clear A130
    obtain rfl := Option.some.inj H
    go_wp2_with (first | ((with_reducible refine gate_callee (f := 14) rfl ?_); refine goesL_ (some 34) rfl rfl Try.func14 (by kernel_rfl) rfl #[] rfl (by (try simp only [List.map_toArray, List.map_cons, List.map_nil]); first | done | rfl | (simp only [List.length_drop, List.length_take]; rfl)) ?_; (with_reducible refine (laganlaw04_matched.calls  t555 _ A13.out).mono ?_); rintro e w14 ⟨rfl, hb⟩; refine ⟨_, rfl, ?_⟩; have n0_ := Aside0.mk (blk_below (g := gb553) (o := .cells #[.slice A0_0 l0_0.length c0_0, .slice A0_1 l0_1.length c0_1, .slice A0_2 l0_2.length c0_2] 26 (0, 0)) (by (with_reducible repeat (first | refine blk_drewN ?_ _ | refine blk_drew ?_ | refine blk_alloc ?_ _)); exact BK553.out) hb); have n1_ := Aside0.mk (below_step (by repeat (first | (with_reducible first | exact HB.out | apply below_alloc | apply pw_below_drewN | apply below_drew1 | refine below_set ?_ GE553.out) | exact HB.out)) hb); clear BK553; clear HB; have BK553 := n0_; have HB := n1_; clear n0_ n1_; (try clear hb); (try clear hb2); (try clear hk); (try clear hi)))
    go_ret
    exact ⟨by first | rfl | (simp [errW_none, errW_some] <;> rfl) | (simp [*, errW_none, errW_some] <;> rfl), by repeat (first | (with_reducible first | exact HB.out | apply below_alloc | apply pw_below_drewN | apply below_drew1 | refine below_set ?_ GE553.out) | exact HB.out)⟩
   ·
    replace c12 := Bool.eq_false_iff.mpr c12
    subst c12
    have H1 : ((match_Load.f l0_0 l0_1 l0_2 a2).bind fun bt556 => (if bt556.2.2 = 0 then (if bt556.1 < 0 then (laganlaw04_MatchLoads.j1 kj3 l1 a2 bt556.1 bt556.2.1 true l0_0 l0_1 l0_2) else (if bt556.1 > bt556.2.1 then (laganlaw04_MatchLoads.j1 kj3 l1 a2 bt556.1 bt556.2.1 true l0_0 l0_1 l0_2) else (if 0 ≤ a2 then (if a2 < (l0_1.length : Int) then (laganlaw04_MatchLoads.j1 kj3 l1 a2 bt556.1 bt556.2.1 (decide (bt556.2.1 > ((rd_T50 l0_1 a2).f2))) l0_0 l0_1 l0_2) else (none)) else (none)))) else ((laganlaw04_matched.f).bind fun t559 => (if t559 = true then (if bt556.1 = 0 then (some (bt556.2.1 == 0)) else (some false)) else (some false))))) = some r := by rw [if_neg (show ¬ (false = true) by decide)] at H; exact H
    clear H
    have H := H1
    clear H1
    replace H := Option.bind_eq_some_iff.mp H
    obtain ⟨⟨t556, t557, t558⟩, A150, H⟩ := H
    replace H : (if t558 = 0 then (if t556 < 0 then (laganlaw04_MatchLoads.j1 kj3 l1 a2 t556 t557 true l0_0 l0_1 l0_2) else (if t556 > t557 then (laganlaw04_MatchLoads.j1 kj3 l1 a2 t556 t557 true l0_0 l0_1 l0_2) else (if 0 ≤ a2 then (if a2 < (l0_1.length : Int) then (laganlaw04_MatchLoads.j1 kj3 l1 a2 t556 t557 (decide (t557 > ((rd_T50 l0_1 a2).f2))) l0_0 l0_1 l0_2) else (none)) else (none)))) else ((laganlaw04_matched.f).bind fun t559 => (if t559 = true then (if t556 = 0 then (some (t557 == 0)) else (some false)) else (some false)))) = some r := H
    have A15 := Aside0.mk A150
    clear A150
    by_cases c16 : t558 = 0
    ·
     rw [if_pos c16] at H
     have c16b0 : (t558 == 0) = true := beq_iff_eq.mpr c16
     have c16b1 : (t558 != 0) = false := bne_eq_false_iff_eq.mpr c16
     clear c16
     have HC17 := Aside0.mk H
     clear H
     have hcz18_0 : wc.cell? ⟨gb553, 0, none⟩ = some (.slice A0_0 l0_0.length c0_0) := (blk_cell BK553.out 0).trans rfl
     have hcz18_1 : wc.cell? ⟨gb553, 1, none⟩ = some (.slice A0_1 l0_1.length c0_1) := (blk_cell BK553.out 1).trans rfl
     have hcz18_2 : wc.cell? ⟨gb553, 2, none⟩ = some (.slice A0_2 l0_2.length c0_2) := (blk_cell BK553.out 2).trans rfl
     have hfz18_0 := blk_frozen BK553.out 0
     have hfz18_1 := blk_frozen BK553.out 1
     have hfz18_2 := blk_frozen BK553.out 2
     go_upto_region 6 with (first | ((with_reducible refine gate_callee (f := 18) rfl ?_); refine goesL_ (some 38) rfl rfl Try.func18 (by kernel_rfl) rfl #[.agg #[.slice A0_0 l0_0.length c0_0, .slice A0_1 l0_1.length c0_1, .slice A0_2 l0_2.length c0_2], .int .i64 a2] rfl (by (try simp only [List.map_toArray, List.map_cons, List.map_nil]); first | done | rfl | (simp only [List.length_drop, List.length_take]; rfl)) ?_; (with_reducible refine (match_Load.calls _ _ l0_0 _ _ l0_1 _ _ l0_2 a2 t556 t557 t558 _ ?side1 ?side2 ?side3 ?side4 ?side5 ?side6 A15.out).mono ?_); (case side1 => repeat (first | exact (Kd.C_below HR0_0.out HB.out) | (with_reducible refine Kd.C_alloc ?_ _) | (with_reducible refine Kd.C_drewN ?_ _) | (with_reducible refine Kd.C_drew ?_))); (case side2 => exact HC0_0.out); (case side3 => repeat (first | exact (Kd.C_below HR0_1.out HB.out) | (with_reducible refine Kd.C_alloc ?_ _) | (with_reducible refine Kd.C_drewN ?_ _) | (with_reducible refine Kd.C_drew ?_))); (case side4 => exact HC0_1.out); (case side5 => repeat (first | exact (Kd.C_below HR0_2.out HB.out) | (with_reducible refine Kd.C_alloc ?_ _) | (with_reducible refine Kd.C_drewN ?_ _) | (with_reducible refine Kd.C_drew ?_))); (case side6 => exact HC0_2.out); rintro e w19 ⟨rfl, hb⟩; refine ⟨_, rfl, ?_⟩; have n0_ := Aside0.mk (blk_below (g := gb553) (o := .cells #[.slice A0_0 l0_0.length c0_0, .slice A0_1 l0_1.length c0_1, .slice A0_2 l0_2.length c0_2] 26 (0, 0)) (by (with_reducible repeat (first | refine blk_drewN ?_ _ | refine blk_drew ?_ | refine blk_alloc ?_ _)); exact BK553.out) hb); have n1_ := Aside0.mk (below_step (by repeat (first | (with_reducible first | exact HB.out | apply below_alloc | apply pw_below_drewN | apply below_drew1 | refine below_set ?_ GE553.out) | exact HB.out)) hb); clear BK553; clear HB; have BK553 := n0_; have HB := n1_; clear n0_ n1_; (try clear hb); (try clear hb2); (try clear hk); (try clear hi)))
     (try simp only [Act.put, List.setIfInBounds_toArray, List.set_cons_zero, List.set_cons_succ])
     go_cut [69] (fun v69 wc => ∃ (kq : Nat) (x69_16 : Bool), v69 = .bool x69_16 ∧ Aside0 (laganlaw04_MatchLoads.j1 kq l1 a2 t556 t557 x69_16 l0_0 l0_1 l0_2 = some r) ∧ Aside0 (kq ≤ kj3) ∧ Aside0 (wc.heap[gb553]? = some (.cells #[(.slice A0_0 l0_0.length c0_0), (.slice A0_1 l0_1.length c0_1), (.slice A0_2 l0_2.length c0_2)] 26 (0, 0))) ∧ Aside0 (Below w.heap.size w wc))
     case first =>
      have H := HC17.out
      clear HC17
      by_cases c20 : t556 < 0
      ·
       rw [if_pos c20] at H
       have c20b0 : decide (t556 < 0) = true := decide_eq_true c20
       clear c20
       (first | rw [c20b0] | (simp only [i64_w, i32_w]; rw [c20b0]) | skip)
       have H' := Aside0.mk H
       clear H
       go_wp2
       go_meet
       case rel => exact ⟨_, (true), (by first | rfl | (simp; done) | (simp [*]; done)), H', ⟨by have := HJ3.out; first | omega | exact Nat.le_refl _⟩, ⟨by (with_reducible repeat (first | refine blk_drewN ?_ _ | refine blk_drew ?_ | refine blk_alloc ?_ _)); exact BK553.out⟩, ⟨by repeat (first | (with_reducible first | exact HB.out | apply below_alloc | apply pw_below_drewN | apply below_drew1 | refine below_set ?_ GE553.out) | exact HB.out)⟩⟩
      ·
       rw [if_neg c20] at H
       have c20b0 : decide (t556 < 0) = false := decide_eq_false c20
       clear c20
       (first | rw [c20b0] | (simp only [i64_w, i32_w]; rw [c20b0]) | skip)
       by_cases c21 : t556 > t557
       ·
        rw [if_pos c21] at H
        have c21b0 : decide (t557 < t556) = true := decide_eq_true c21
        clear c21
        have H' := Aside0.mk H
        clear H
        go_wp2
        go_meet
        case rel => exact ⟨_, (true), (by first | rfl | (simp; done) | (simp [*]; done)), H', ⟨by have := HJ3.out; first | omega | exact Nat.le_refl _⟩, ⟨by (with_reducible repeat (first | refine blk_drewN ?_ _ | refine blk_drew ?_ | refine blk_alloc ?_ _)); exact BK553.out⟩, ⟨by repeat (first | (with_reducible first | exact HB.out | apply below_alloc | apply pw_below_drewN | apply below_drew1 | refine below_set ?_ GE553.out) | exact HB.out)⟩⟩
       ·
        rw [if_neg c21] at H
        have c21b0 : decide (t557 < t556) = false := decide_eq_false c21
        clear c21
        by_cases c22 : 0 ≤ a2
        ·
         rw [if_pos c22] at H
         have c22b0 : decide (0 ≤ a2) = true := decide_eq_true c22
         clear c22
         by_cases c23 : a2 < (l0_1.length : Int)
         ·
          rw [if_pos c23] at H
          have c23b0 : decide (a2 < (l0_1.length : Int)) = true := decide_eq_true c23
          clear c23
          have H' := Aside0.mk H
          clear H
          have hcz24_0 : w19.cell? ⟨gb553, 0, none⟩ = some (.slice A0_0 l0_0.length c0_0) := (blk_cell BK553.out 0).trans rfl
          have hcz24_1 : w19.cell? ⟨gb553, 1, none⟩ = some (.slice A0_1 l0_1.length c0_1) := (blk_cell BK553.out 1).trans rfl
          have hcz24_2 : w19.cell? ⟨gb553, 2, none⟩ = some (.slice A0_2 l0_2.length c0_2) := (blk_cell BK553.out 2).trans rfl
          have hfz24_0 := blk_frozen BK553.out 0
          have hfz24_1 := blk_frozen BK553.out 1
          have hfz24_2 := blk_frozen BK553.out 2
          have p560 : 0 ≤ (a2 : Int) := of_decide_eq_true (by first | (with_reducible assumption) | assumption)
          have q560 : a2 < (l0_1.length : Int) := of_decide_eq_true (by first | (with_reducible assumption) | assumption)
          obtain ⟨ad560, e560, hx560_0, hx560_1, hx560_2⟩ := at_T50 HR0_1.out a2 p560 q560
          cases e560
          replace hx560_0 := (HB.out.cell (World.block_lt_of_cell? w _ hx560_0)).trans hx560_0
          replace hx560_1 := (HB.out.cell (World.block_lt_of_cell? w _ hx560_1)).trans hx560_1
          replace hx560_2 := (HB.out.cell (World.block_lt_of_cell? w _ hx560_2)).trans hx560_2
          replace p560 := eq_true p560
          replace q560 := eq_true q560
          go_wp2
          go_meet
          case rel => exact ⟨_, (decide (t557 > ((rd_T50 l0_1 a2).f2))), (by first | rfl | (simp; done) | (simp [*]; done)), H', ⟨by have := HJ3.out; first | omega | exact Nat.le_refl _⟩, ⟨by (with_reducible repeat (first | refine blk_drewN ?_ _ | refine blk_drew ?_ | refine blk_alloc ?_ _)); exact BK553.out⟩, ⟨by repeat (first | (with_reducible first | exact HB.out | apply below_alloc | apply pw_below_drewN | apply below_drew1 | refine below_set ?_ GE553.out) | exact HB.out)⟩⟩
         ·
          rw [if_neg c23] at H
          exact absurd H (by simp)
        ·
         rw [if_neg c22] at H
         exact absurd H (by simp)
     case rest =>
      clear HC17
      try clear c1
      try clear c2
      try clear p2
      try clear p5
      try clear q5
      try clear hx5
      try clear c6
      try clear c7
      try clear c12
      try clear c14
      try clear c16
      try clear c16b0
      try clear c16b1
      try clear c18
      try clear c20
      try clear c20b0
      try clear c21
      try clear c21b0
      try clear c22
      try clear c22b0
      try clear c23
      try clear c23b0
      try clear hcz10_0
      try clear hcz10_1
      try clear hcz10_2
      try clear hcz18_0
      try clear hcz18_1
      try clear hcz18_2
      try clear hcz24_0
      try clear hcz24_1
      try clear hcz24_2
      try clear hcz8_0
      try clear hcz8_1
      try clear hcz8_2
      try clear hfz10_0
      try clear hfz10_1
      try clear hfz10_2
      try clear hfz18_0
      try clear hfz18_1
      try clear hfz18_2
      try clear hfz24_0
      try clear hfz24_1
      try clear hfz24_2
      try clear hfz8_0
      try clear hfz8_1
      try clear hfz8_2
      try clear hx560_0
      try clear hx560_1
      try clear hx560_2
      try clear p2
      try clear p560
      try clear q560
      obtain ⟨kq, x69_16, rfl, HA, HJ16, BK553, HB⟩ := hcut
      cases kq with
      | zero => exact absurd HA.out (by simp [laganlaw04_MatchLoads.j1])
      | succ kj16 =>
       have H := HA.out
       clear HA
       simp only [laganlaw04_MatchLoads.j1] at H
       by_cases c25 : x69_16 = true
       ·
        subst c25
        have H1 : (some false) = some r := by rw [if_pos rfl] at H; exact H
        clear H
        have H := H1
        clear H1
        obtain rfl := Option.some.inj H
        go_wp2
        go_ret
        exact ⟨by first | rfl | (simp [errW_none, errW_some] <;> rfl) | (simp [*, errW_none, errW_some] <;> rfl), by repeat (first | (with_reducible first | exact HB.out | apply below_alloc | apply pw_below_drewN | apply below_drew1 | refine below_set ?_ GE553.out) | exact HB.out)⟩
       ·
        replace c25 := Bool.eq_false_iff.mpr c25
        subst c25
        have H1 : ((match_Meets.f kj16 l0_0 l0_1 l0_2 l1).bind fun bt561 => (laganlaw04_MatchLoads.l0 kj16 l1 a2 t556 t557 bt561.1 bt561.2 0 0 l0_0 l0_1 l0_2)) = some r := by rw [if_neg (show ¬ (false = true) by decide)] at H; exact H
        clear H
        have H := H1
        clear H1
        replace H := Option.bind_eq_some_iff.mp H
        obtain ⟨⟨t561, t562⟩, A260, H⟩ := H
        replace H : (laganlaw04_MatchLoads.l0 kj16 l1 a2 t556 t557 t561 t562 0 0 l0_0 l0_1 l0_2) = some r := H
        have A26 := Aside0.mk A260
        clear A260
        have H' := Aside0.mk H
        clear H
        have hcz27_0 : wc.cell? ⟨gb553, 0, none⟩ = some (.slice A0_0 l0_0.length c0_0) := (blk_cell BK553.out 0).trans rfl
        have hcz27_1 : wc.cell? ⟨gb553, 1, none⟩ = some (.slice A0_1 l0_1.length c0_1) := (blk_cell BK553.out 1).trans rfl
        have hcz27_2 : wc.cell? ⟨gb553, 2, none⟩ = some (.slice A0_2 l0_2.length c0_2) := (blk_cell BK553.out 2).trans rfl
        have hfz27_0 := blk_frozen BK553.out 0
        have hfz27_1 := blk_frozen BK553.out 1
        have hfz27_2 := blk_frozen BK553.out 2
        go_wp2_with (first | ((with_reducible refine gate_callee (f := 36) rfl ?_); refine goesL_ (some 73) rfl rfl Try.func36 (by kernel_rfl) rfl #[.agg #[.slice A0_0 l0_0.length c0_0, .slice A0_1 l0_1.length c0_1, .slice A0_2 l0_2.length c0_2], .slice A1 l1.length c1] rfl (by (try simp only [List.map_toArray, List.map_cons, List.map_nil]); first | done | rfl | (simp only [List.length_drop, List.length_take]; rfl)) ?_; (with_reducible refine (match_Meets.calls kj16 _ _ l0_0 _ _ l0_1 _ _ l0_2 _ _ l1 t561 t562 _ ?side1 ?side2 ?side3 ?side4 ?side5 ?side6 ?side7 ?side8 A26.out).mono ?_); (case side1 => repeat (first | exact (Kd.C_below HR0_0.out HB.out) | (with_reducible refine Kd.C_alloc ?_ _) | (with_reducible refine Kd.C_drewN ?_ _) | (with_reducible refine Kd.C_drew ?_))); (case side2 => exact HC0_0.out); (case side3 => repeat (first | exact (Kd.C_below HR0_1.out HB.out) | (with_reducible refine Kd.C_alloc ?_ _) | (with_reducible refine Kd.C_drewN ?_ _) | (with_reducible refine Kd.C_drew ?_))); (case side4 => exact HC0_1.out); (case side5 => repeat (first | exact (Kd.C_below HR0_2.out HB.out) | (with_reducible refine Kd.C_alloc ?_ _) | (with_reducible refine Kd.C_drewN ?_ _) | (with_reducible refine Kd.C_drew ?_))); (case side6 => exact HC0_2.out); (case side7 => repeat (first | exact (Kd.C_below HR1.out HB.out) | (with_reducible refine Kd.C_alloc ?_ _) | (with_reducible refine Kd.C_drewN ?_ _) | (with_reducible refine Kd.C_drew ?_))); (case side8 => exact HC1.out); rintro e w28 ⟨rfl, hb⟩; refine ⟨_, rfl, ?_⟩; have n0_ := Aside0.mk (blk_below (g := gb553) (o := .cells #[.slice A0_0 l0_0.length c0_0, .slice A0_1 l0_1.length c0_1, .slice A0_2 l0_2.length c0_2] 26 (0, 0)) (by (with_reducible repeat (first | refine blk_drewN ?_ _ | refine blk_drew ?_ | refine blk_alloc ?_ _)); exact BK553.out) hb); have n1_ := Aside0.mk (below_step (by repeat (first | (with_reducible first | exact HB.out | apply below_alloc | apply pw_below_drewN | apply below_drew1 | refine below_set ?_ GE553.out) | exact HB.out)) hb); clear BK553; clear HB; have BK553 := n0_; have HB := n1_; clear n0_ n1_; (try clear hb); (try clear hb2); (try clear hk); (try clear hi)))
        go_loopg [12, 13] kj16 (fun kq v12 v13 w' => ∃ (x12_3 : Int) (x13_3 : Int), v12 = .int .i64 x12_3 ∧ v13 = .int .i64 x13_3 ∧ Aside0 (laganlaw04_MatchLoads.l0 kq l1 a2 t556 t557 t561 t562 x12_3 x13_3 l0_0 l0_1 l0_2 = some r) ∧ Aside0 (kq ≤ kj16) ∧ Aside0 (w'.heap[gb553]? = some (.cells #[(.slice A0_0 l0_0.length c0_0), (.slice A0_1 l0_1.length c0_1), (.slice A0_2 l0_2.length c0_2)] 26 (0, 0))) ∧ Aside0 (Below w.heap.size w w'))
        case atStart => exact ⟨(0), (0), (by first | rfl | (simp; done) | (simp [*]; done)), (by first | rfl | (simp; done) | (simp [*]; done)), H', ⟨Nat.le_refl _⟩, ⟨by (with_reducible repeat (first | refine blk_drewN ?_ _ | refine blk_drew ?_ | refine blk_alloc ?_ _)); exact BK553.out⟩, ⟨by repeat (first | (with_reducible first | exact HB.out | apply below_alloc | apply pw_below_drewN | apply below_drew1 | refine below_set ?_ GE553.out) | exact HB.out)⟩⟩
        case round =>
         clear H'
         try clear c1
         try clear c2
         try clear p2
         try clear c3
         try clear p5
         try clear q5
         try clear hx5
         try clear c6
         try clear c7
         try clear c12
         try clear c14
         try clear c16
         try clear c16b0
         try clear c16b1
         try clear c18
         try clear c20
         try clear c20b0
         try clear c21
         try clear c21b0
         try clear c22
         try clear c22b0
         try clear c23
         try clear c23b0
         try clear c25
         try clear hcz10_0
         try clear hcz10_1
         try clear hcz10_2
         try clear hcz18_0
         try clear hcz18_1
         try clear hcz18_2
         try clear hcz24_0
         try clear hcz24_1
         try clear hcz24_2
         try clear hcz27_0
         try clear hcz27_1
         try clear hcz27_2
         try clear hcz8_0
         try clear hcz8_1
         try clear hcz8_2
         try clear hfz10_0
         try clear hfz10_1
         try clear hfz10_2
         try clear hfz18_0
         try clear hfz18_1
         try clear hfz18_2
         try clear hfz24_0
         try clear hfz24_1
         try clear hfz24_2
         try clear hfz27_0
         try clear hfz27_1
         try clear hfz27_2
         try clear hfz8_0
         try clear hfz8_1
         try clear hfz8_2
         try clear hx560_0
         try clear hx560_1
         try clear hx560_2
         try clear p2
         try clear p5
         try clear p560
         try clear q5
         try clear q560
         obtain ⟨x12_3, x13_3, rfl, rfl, HA, HK3, BK553, HB⟩ := hrel
         cases gk with
         | zero => exact absurd HA.out (by simp [laganlaw04_MatchLoads.l0])
         | succ k3 =>
          have H := HA.out
          clear HA
          simp only [laganlaw04_MatchLoads.l0] at H
          by_cases c29 : x13_3 < (l1.length : Int)
          ·
           rw [if_pos c29] at H
           have c29b0 : decide (x13_3 < (l1.length : Int)) = true := decide_eq_true c29
           clear c29
           by_cases c30 : 0 ≤ x13_3
           ·
            rw [if_pos c30] at H
            have c30b0 : decide (0 ≤ x13_3) = true := decide_eq_true c30
            clear c30
            by_cases c31 : (rd l1 x13_3) = a2
            ·
             rw [if_pos c31] at H
             have c31b0 : ((rd l1 x13_3) == a2) = true := beq_iff_eq.mpr c31
             have c31b1 : ((rd l1 x13_3) != a2) = false := bne_eq_false_iff_eq.mpr c31
             clear c31
             have H' := Aside0.mk H
             clear H
             have p563 : 0 ≤ (x13_3 : Int) := of_decide_eq_true (by first | (with_reducible assumption) | assumption)
             have q563 : x13_3 < (l1.length : Int) := of_decide_eq_true (by first | (with_reducible assumption) | assumption)
             obtain ⟨ad563, e563, hx563_0⟩ := Kd.at_int HR1.out x13_3 p563 q563
             cases e563
             replace hx563_0 := (HB.out.cell (World.block_lt_of_cell? w _ hx563_0)).trans hx563_0
             replace p563 := eq_true p563
             replace q563 := eq_true q563
             go_wp2
             go_roundg k3
             case measure => have := HJ3.out; have := HJ16.out; have := HK3.out; omega
             case rel => exact ⟨(wrap64 (x12_3 + 1)), (wrap64 (x13_3 + 1)), (by first | rfl | (simp; done) | (simp [*]; done)), (by first | rfl | (simp; done) | (simp [*]; done)), H', ⟨by have := HJ3.out; have := HJ16.out; have := HK3.out; omega⟩, ⟨by (with_reducible repeat (first | refine blk_drewN ?_ _ | refine blk_drew ?_ | refine blk_alloc ?_ _)); exact BK553.out⟩, ⟨by repeat (first | (with_reducible first | exact HB.out | apply below_alloc | apply pw_below_drewN | apply below_drew1 | refine below_set ?_ GE553.out) | exact HB.out)⟩⟩
            ·
             rw [if_neg c31] at H
             have c31b0 : ((rd l1 x13_3) == a2) = false := beq_eq_false_iff_ne.mpr c31
             have c31b1 : ((rd l1 x13_3) != a2) = true := bne_iff_ne.mpr c31
             have H' := Aside0.mk H
             clear H
             have p563 : 0 ≤ (x13_3 : Int) := of_decide_eq_true (by first | (with_reducible assumption) | assumption)
             have q563 : x13_3 < (l1.length : Int) := of_decide_eq_true (by first | (with_reducible assumption) | assumption)
             obtain ⟨ad563, e563, hx563_0⟩ := Kd.at_int HR1.out x13_3 p563 q563
             cases e563
             replace hx563_0 := (HB.out.cell (World.block_lt_of_cell? w _ hx563_0)).trans hx563_0
             replace p563 := eq_true p563
             replace q563 := eq_true q563
             go_wp2
             go_roundg k3
             case measure => have := HJ3.out; have := HJ16.out; have := HK3.out; omega
             case rel => exact ⟨(x12_3), (wrap64 (x13_3 + 1)), (by first | rfl | (simp; done) | (simp [*]; done)), (by first | rfl | (simp; done) | (simp [*]; done)), H', ⟨by have := HJ3.out; have := HJ16.out; have := HK3.out; omega⟩, ⟨by (with_reducible repeat (first | refine blk_drewN ?_ _ | refine blk_drew ?_ | refine blk_alloc ?_ _)); exact BK553.out⟩, ⟨by repeat (first | (with_reducible first | exact HB.out | apply below_alloc | apply pw_below_drewN | apply below_drew1 | refine below_set ?_ GE553.out) | exact HB.out)⟩⟩
           ·
            rw [if_neg c30] at H
            exact absurd H (by simp)
          ·
           rw [if_neg c29] at H
           have c29b0 : decide (x13_3 < (l1.length : Int)) = false := decide_eq_false c29
           clear c29
           have HC32 := Aside0.mk H
           clear H
           go_upto_region 15 with (fail)
           go_cut [104] (fun v104 wc => ∃ (kq : Nat) (x104_31 : Bool), v104 = .bool x104_31 ∧ Aside0 (laganlaw04_MatchLoads.j3 kq x104_31 l0_0 l0_1 l0_2 = some r) ∧ Aside0 (kq ≤ k3) ∧ Aside0 (wc.heap[gb553]? = some (.cells #[(.slice A0_0 l0_0.length c0_0), (.slice A0_1 l0_1.length c0_1), (.slice A0_2 l0_2.length c0_2)] 26 (0, 0))) ∧ Aside0 (Below w.heap.size w wc))
           case first =>
            have H := HC32.out
            clear HC32
            by_cases c33 : t562 = 0
            ·
             rw [if_pos c33] at H
             have c33b0 : (t562 == 0) = true := beq_iff_eq.mpr c33
             have c33b1 : (t562 != 0) = false := bne_eq_false_iff_eq.mpr c33
             clear c33
             (first | rw [c33b0] | (simp only [i64_w, i32_w]; rw [c33b0]) | skip)
             by_cases c34 : t561 = true
             ·
              subst c34
              have H1 : (if x12_3 < t556 then (laganlaw04_MatchLoads.j3 k3 true l0_0 l0_1 l0_2) else (laganlaw04_MatchLoads.j3 k3 (decide (x12_3 > t557)) l0_0 l0_1 l0_2)) = some r := by rw [if_pos rfl] at H; exact H
              clear H
              have H := H1
              clear H1
              by_cases c35 : x12_3 < t556
              ·
               rw [if_pos c35] at H
               have c35b0 : decide (x12_3 < t556) = true := decide_eq_true c35
               clear c35
               have H' := Aside0.mk H
               clear H
               go_wp2
               go_meet
               case rel => exact ⟨_, (true), (by first | rfl | (simp; done) | (simp [*]; done)), H', ⟨by have := HJ3.out; have := HJ16.out; have := HK3.out; first | omega | exact Nat.le_refl _⟩, ⟨by (with_reducible repeat (first | refine blk_drewN ?_ _ | refine blk_drew ?_ | refine blk_alloc ?_ _)); exact BK553.out⟩, ⟨by repeat (first | (with_reducible first | exact HB.out | apply below_alloc | apply pw_below_drewN | apply below_drew1 | refine below_set ?_ GE553.out) | exact HB.out)⟩⟩
              ·
               rw [if_neg c35] at H
               have c35b0 : decide (x12_3 < t556) = false := decide_eq_false c35
               clear c35
               have H' := Aside0.mk H
               clear H
               go_wp2
               go_meet
               case rel => exact ⟨_, (decide (x12_3 > t557)), (by first | rfl | (simp; done) | (simp [*]; done)), H', ⟨by have := HJ3.out; have := HJ16.out; have := HK3.out; first | omega | exact Nat.le_refl _⟩, ⟨by (with_reducible repeat (first | refine blk_drewN ?_ _ | refine blk_drew ?_ | refine blk_alloc ?_ _)); exact BK553.out⟩, ⟨by repeat (first | (with_reducible first | exact HB.out | apply below_alloc | apply pw_below_drewN | apply below_drew1 | refine below_set ?_ GE553.out) | exact HB.out)⟩⟩
             ·
              replace c34 := Bool.eq_false_iff.mpr c34
              subst c34
              have H1 : (laganlaw04_MatchLoads.j3 k3 false l0_0 l0_1 l0_2) = some r := by rw [if_neg (show ¬ (false = true) by decide)] at H; exact H
              clear H
              have H := H1
              clear H1
              have H' := Aside0.mk H
              clear H
              go_wp2
              go_meet
              case rel => exact ⟨_, (false), (by first | rfl | (simp; done) | (simp [*]; done)), H', ⟨by have := HJ3.out; have := HJ16.out; have := HK3.out; first | omega | exact Nat.le_refl _⟩, ⟨by (with_reducible repeat (first | refine blk_drewN ?_ _ | refine blk_drew ?_ | refine blk_alloc ?_ _)); exact BK553.out⟩, ⟨by repeat (first | (with_reducible first | exact HB.out | apply below_alloc | apply pw_below_drewN | apply below_drew1 | refine below_set ?_ GE553.out) | exact HB.out)⟩⟩
            ·
             rw [if_neg c33] at H
             have c33b0 : (t562 == 0) = false := beq_eq_false_iff_ne.mpr c33
             have c33b1 : (t562 != 0) = true := bne_iff_ne.mpr c33
             (first | rw [c33b0] | (simp only [i64_w, i32_w]; rw [c33b0]) | skip)
             have H' := Aside0.mk H
             clear H
             go_wp2
             go_meet
             case rel => exact ⟨_, (true), (by first | rfl | (simp; done) | (simp [*]; done)), H', ⟨by have := HJ3.out; have := HJ16.out; have := HK3.out; first | omega | exact Nat.le_refl _⟩, ⟨by (with_reducible repeat (first | refine blk_drewN ?_ _ | refine blk_drew ?_ | refine blk_alloc ?_ _)); exact BK553.out⟩, ⟨by repeat (first | (with_reducible first | exact HB.out | apply below_alloc | apply pw_below_drewN | apply below_drew1 | refine below_set ?_ GE553.out) | exact HB.out)⟩⟩
           case rest =>
            clear HC32
            try clear c1
            try clear c2
            try clear p2
            try clear c3
            try clear p5
            try clear q5
            try clear hx5
            try clear c6
            try clear p6
            try clear c7
            try clear c12
            try clear c14
            try clear c16
            try clear c16b0
            try clear c16b1
            try clear c18
            try clear c20
            try clear c20b0
            try clear c21
            try clear c21b0
            try clear c22
            try clear c22b0
            try clear c23
            try clear c23b0
            try clear c25
            try clear c29
            try clear c29b0
            try clear c30
            try clear c30b0
            try clear c31
            try clear c31b0
            try clear c31b1
            try clear c33
            try clear c33b0
            try clear c33b1
            try clear c34
            try clear c35
            try clear c35b0
            try clear hcz10_0
            try clear hcz10_1
            try clear hcz10_2
            try clear hcz18_0
            try clear hcz18_1
            try clear hcz18_2
            try clear hcz24_0
            try clear hcz24_1
            try clear hcz24_2
            try clear hcz27_0
            try clear hcz27_1
            try clear hcz27_2
            try clear hcz8_0
            try clear hcz8_1
            try clear hcz8_2
            try clear hfz10_0
            try clear hfz10_1
            try clear hfz10_2
            try clear hfz18_0
            try clear hfz18_1
            try clear hfz18_2
            try clear hfz24_0
            try clear hfz24_1
            try clear hfz24_2
            try clear hfz27_0
            try clear hfz27_1
            try clear hfz27_2
            try clear hfz8_0
            try clear hfz8_1
            try clear hfz8_2
            try clear hx560_0
            try clear hx560_1
            try clear hx560_2
            try clear hx563_0
            try clear p2
            try clear p5
            try clear p560
            try clear p563
            try clear q5
            try clear q560
            try clear q563
            obtain ⟨kq, x104_31, rfl, HA, HJ31, BK553, HB⟩ := hcut
            cases kq with
            | zero => exact absurd HA.out (by simp [laganlaw04_MatchLoads.j3])
            | succ kj31 =>
             have H := HA.out
             clear HA
             simp only [laganlaw04_MatchLoads.j3] at H
             by_cases c36 : x104_31 = true
             ·
              subst c36
              have H1 : (some false) = some r := by rw [if_pos rfl] at H; exact H
              clear H
              have H := H1
              clear H1
              obtain rfl := Option.some.inj H
              go_wp2
              go_ret
              exact ⟨by first | rfl | (simp [errW_none, errW_some] <;> rfl) | (simp [*, errW_none, errW_some] <;> rfl), by repeat (first | (with_reducible first | exact HB.out | apply below_alloc | apply pw_below_drewN | apply below_drew1 | refine below_set ?_ GE553.out) | exact HB.out)⟩
             ·
              replace c36 := Bool.eq_false_iff.mpr c36
              subst c36
              have H1 : ((match_Assign.f l0_0 l0_1 l0_2).bind fun bt564 => (if bt564.2.2 = 0 then (laganlaw04_MatchLoads.j4 kj31 bt564.1 (!bt564.2.1) l0_0 l0_1 l0_2) else (laganlaw04_MatchLoads.j4 kj31 bt564.1 true l0_0 l0_1 l0_2))) = some r := by rw [if_neg (show ¬ (false = true) by decide)] at H; exact H
              clear H
              have H := H1
              clear H1
              replace H := Option.bind_eq_some_iff.mp H
              obtain ⟨⟨t564, t567, t568⟩, A370, H⟩ := H
              replace H : (if t568 = 0 then (laganlaw04_MatchLoads.j4 kj31 t564 (!t567) l0_0 l0_1 l0_2) else (laganlaw04_MatchLoads.j4 kj31 t564 true l0_0 l0_1 l0_2)) = some r := H
              have A37 := Aside0.mk A370
              clear A370
              have HC38 := Aside0.mk H
              clear H
              have hcz39_0 : wc.cell? ⟨gb553, 0, none⟩ = some (.slice A0_0 l0_0.length c0_0) := (blk_cell BK553.out 0).trans rfl
              have hcz39_1 : wc.cell? ⟨gb553, 1, none⟩ = some (.slice A0_1 l0_1.length c0_1) := (blk_cell BK553.out 1).trans rfl
              have hcz39_2 : wc.cell? ⟨gb553, 2, none⟩ = some (.slice A0_2 l0_2.length c0_2) := (blk_cell BK553.out 2).trans rfl
              have hfz39_0 := blk_frozen BK553.out 0
              have hfz39_1 := blk_frozen BK553.out 1
              have hfz39_2 := blk_frozen BK553.out 2
              go_upto_region 18 with (first | ((with_reducible refine gate_callee (f := 15) rfl ?_); refine goesL_ (some 107) rfl rfl Try.func15 (by kernel_rfl) rfl #[.agg #[.slice A0_0 l0_0.length c0_0, .slice A0_1 l0_1.length c0_1, .slice A0_2 l0_2.length c0_2]] rfl (by (try simp only [List.map_toArray, List.map_cons, List.map_nil]); first | done | rfl | (simp only [List.length_drop, List.length_take]; rfl)) ?_; (with_reducible refine (match_Assign.calls _ _ l0_0 _ _ l0_1 _ _ l0_2 t564 t567 t568 _ ?side1 ?side2 ?side3 ?side4 ?side5 ?side6 A37.out).mono ?_); (case side1 => repeat (first | exact (Kd.C_below HR0_0.out HB.out) | (with_reducible refine Kd.C_alloc ?_ _) | (with_reducible refine Kd.C_drewN ?_ _) | (with_reducible refine Kd.C_drew ?_))); (case side2 => exact HC0_0.out); (case side3 => repeat (first | exact (Kd.C_below HR0_1.out HB.out) | (with_reducible refine Kd.C_alloc ?_ _) | (with_reducible refine Kd.C_drewN ?_ _) | (with_reducible refine Kd.C_drew ?_))); (case side4 => exact HC0_1.out); (case side5 => repeat (first | exact (Kd.C_below HR0_2.out HB.out) | (with_reducible refine Kd.C_alloc ?_ _) | (with_reducible refine Kd.C_drewN ?_ _) | (with_reducible refine Kd.C_drew ?_))); (case side6 => exact HC0_2.out); rintro e w40 ⟨v565, rfl, ho0, hb⟩; refine ⟨_, rfl, ?_⟩; have n0_ := Aside0.mk (Kd.R_lower ho0 (below_size (by repeat (first | (with_reducible first | exact HB.out | apply below_alloc | apply pw_below_drewN | apply below_drew1 | refine below_set ?_ GE553.out) | exact HB.out)))); have n1_ := Aside0.mk (blk_below (g := gb553) (o := .cells #[.slice A0_0 l0_0.length c0_0, .slice A0_1 l0_1.length c0_1, .slice A0_2 l0_2.length c0_2] 26 (0, 0)) (by (with_reducible repeat (first | refine blk_drewN ?_ _ | refine blk_drew ?_ | refine blk_alloc ?_ _)); exact BK553.out) hb); have n2_ := Aside0.mk (below_step (by repeat (first | (with_reducible first | exact HB.out | apply below_alloc | apply pw_below_drewN | apply below_drew1 | refine below_set ?_ GE553.out) | exact HB.out)) hb); clear BK553; clear HB; have HO566 := n0_; have BK553 := n1_; have HB := n2_; clear n0_ n1_ n2_; (try clear hb); (try clear hb2); (try clear hk); (try clear hi); (try clear ho0)))
              (try simp only [Act.put, List.setIfInBounds_toArray, List.set_cons_zero, List.set_cons_succ])
              go_cut [116] (fun v116 wc => ∃ (kq : Nat) (x116_37 : Bool), v116 = .bool x116_37 ∧ Aside0 (laganlaw04_MatchLoads.j4 kq t564 x116_37 l0_0 l0_1 l0_2 = some r) ∧ Aside0 (kq ≤ kj31) ∧ Aside0 (Kd.R (Kd.int .i64) 3 wc w.heap.size (fun _ => True) v565 t564) ∧ Aside0 (wc.heap[gb553]? = some (.cells #[(.slice A0_0 l0_0.length c0_0), (.slice A0_1 l0_1.length c0_1), (.slice A0_2 l0_2.length c0_2)] 26 (0, 0))) ∧ Aside0 (Below w.heap.size w wc))
              case first =>
               have H := HC38.out
               clear HC38
               by_cases c41 : t568 = 0
               ·
                rw [if_pos c41] at H
                have c41b0 : (t568 == 0) = true := beq_iff_eq.mpr c41
                have c41b1 : (t568 != 0) = false := bne_eq_false_iff_eq.mpr c41
                clear c41
                (first | rw [c41b0] | (simp only [i64_w, i32_w]; rw [c41b0]) | skip)
                have H' := Aside0.mk H
                clear H
                go_wp2
                go_meet
                case rel => exact ⟨_, (!t567), (by first | rfl | (simp; done) | (simp [*]; done)), H', ⟨by have := HJ3.out; have := HJ16.out; have := HK3.out; have := HJ31.out; first | omega | exact Nat.le_refl _⟩, ⟨by (with_reducible repeat (first | apply Kd.R_alloc | apply Kd.R_drewN | apply Kd.R_drew)); exact HO566.out⟩, ⟨by (with_reducible repeat (first | refine blk_drewN ?_ _ | refine blk_drew ?_ | refine blk_alloc ?_ _)); exact BK553.out⟩, ⟨by repeat (first | (with_reducible first | exact HB.out | apply below_alloc | apply pw_below_drewN | apply below_drew1 | refine below_set ?_ GE553.out) | exact HB.out)⟩⟩
               ·
                rw [if_neg c41] at H
                have c41b0 : (t568 == 0) = false := beq_eq_false_iff_ne.mpr c41
                have c41b1 : (t568 != 0) = true := bne_iff_ne.mpr c41
                (first | rw [c41b0] | (simp only [i64_w, i32_w]; rw [c41b0]) | skip)
                have H' := Aside0.mk H
                clear H
                go_wp2
                go_meet
                case rel => exact ⟨_, (true), (by first | rfl | (simp; done) | (simp [*]; done)), H', ⟨by have := HJ3.out; have := HJ16.out; have := HK3.out; have := HJ31.out; first | omega | exact Nat.le_refl _⟩, ⟨by (with_reducible repeat (first | apply Kd.R_alloc | apply Kd.R_drewN | apply Kd.R_drew)); exact HO566.out⟩, ⟨by (with_reducible repeat (first | refine blk_drewN ?_ _ | refine blk_drew ?_ | refine blk_alloc ?_ _)); exact BK553.out⟩, ⟨by repeat (first | (with_reducible first | exact HB.out | apply below_alloc | apply pw_below_drewN | apply below_drew1 | refine below_set ?_ GE553.out) | exact HB.out)⟩⟩
              case rest =>
               clear HC38
               try clear c1
               try clear c2
               try clear p2
               try clear c3
               try clear c4
               try clear p5
               try clear q5
               try clear hx5
               try clear c6
               try clear p6
               try clear c7
               try clear c12
               try clear c14
               try clear c15
               try clear c16
               try clear c16b0
               try clear c16b1
               try clear c18
               try clear c20
               try clear c20b0
               try clear c21
               try clear c21b0
               try clear c22
               try clear c22b0
               try clear c23
               try clear c23b0
               try clear c25
               try clear c29
               try clear c29b0
               try clear c30
               try clear c30b0
               try clear c31
               try clear c31b0
               try clear c31b1
               try clear c33
               try clear c33b0
               try clear c33b1
               try clear c34
               try clear c35
               try clear c35b0
               try clear c36
               try clear c41
               try clear c41b0
               try clear c41b1
               try clear hcz10_0
               try clear hcz10_1
               try clear hcz10_2
               try clear hcz18_0
               try clear hcz18_1
               try clear hcz18_2
               try clear hcz24_0
               try clear hcz24_1
               try clear hcz24_2
               try clear hcz27_0
               try clear hcz27_1
               try clear hcz27_2
               try clear hcz39_0
               try clear hcz39_1
               try clear hcz39_2
               try clear hcz8_0
               try clear hcz8_1
               try clear hcz8_2
               try clear hfz10_0
               try clear hfz10_1
               try clear hfz10_2
               try clear hfz18_0
               try clear hfz18_1
               try clear hfz18_2
               try clear hfz24_0
               try clear hfz24_1
               try clear hfz24_2
               try clear hfz27_0
               try clear hfz27_1
               try clear hfz27_2
               try clear hfz39_0
               try clear hfz39_1
               try clear hfz39_2
               try clear hfz8_0
               try clear hfz8_1
               try clear hfz8_2
               try clear hx560_0
               try clear hx560_1
               try clear hx560_2
               try clear hx563_0
               try clear p2
               try clear p5
               try clear p560
               try clear p563
               try clear p6
               try clear q5
               try clear q560
               try clear q563
               obtain ⟨kq, x116_37, rfl, HA, HJ37, HO_14, BK553, HB⟩ := hcut
               cases kq with
               | zero => exact absurd HA.out (by simp [laganlaw04_MatchLoads.j4])
               | succ kj37 =>
                have H := HA.out
                clear HA
                simp only [laganlaw04_MatchLoads.j4] at H
                by_cases c42 : x116_37 = true
                ·
                 subst c42
                 have H1 : (some false) = some r := by rw [if_pos rfl] at H; exact H
                 clear H
                 have H := H1
                 clear H1
                 obtain rfl := Option.some.inj H
                 go_wp2
                 go_ret
                 exact ⟨by first | rfl | (simp [errW_none, errW_some] <;> rfl) | (simp [*, errW_none, errW_some] <;> rfl), by repeat (first | (with_reducible first | exact HB.out | apply below_alloc | apply pw_below_drewN | apply below_drew1 | refine below_set ?_ GE553.out) | exact HB.out)⟩
                ·
                 replace c42 := Bool.eq_false_iff.mpr c42
                 subst c42
                 have H1 : (laganlaw04_MatchLoads.l1 kj37 t564 0 0 l0_0 l0_1 l0_2) = some r := by rw [if_neg (show ¬ (false = true) by decide)] at H; exact H
                 clear H
                 have H := H1
                 clear H1
                 have H' := Aside0.mk H
                 clear H
                 go_wp2
                 go_loopg [17, 18] kj37 (fun kq v17 v18 w' => ∃ (x17_6 : Int) (x18_6 : Int), v17 = .int .i64 x17_6 ∧ v18 = .int .i64 x18_6 ∧ Aside0 (laganlaw04_MatchLoads.l1 kq t564 x17_6 x18_6 l0_0 l0_1 l0_2 = some r) ∧ Aside0 (kq ≤ kj37) ∧ Aside0 (Kd.R (Kd.int .i64) 3 w' w.heap.size (fun _ => True) v565 t564) ∧ Aside0 (w'.heap[gb553]? = some (.cells #[(.slice A0_0 l0_0.length c0_0), (.slice A0_1 l0_1.length c0_1), (.slice A0_2 l0_2.length c0_2)] 26 (0, 0))) ∧ Aside0 (Below w.heap.size w w'))
                 case atStart => exact ⟨(0), (0), (by first | rfl | (simp; done) | (simp [*]; done)), (by first | rfl | (simp; done) | (simp [*]; done)), H', ⟨Nat.le_refl _⟩, ⟨by (with_reducible repeat (first | apply Kd.R_alloc | apply Kd.R_drewN | apply Kd.R_drew)); exact HO_14.out⟩, ⟨by (with_reducible repeat (first | refine blk_drewN ?_ _ | refine blk_drew ?_ | refine blk_alloc ?_ _)); exact BK553.out⟩, ⟨by repeat (first | (with_reducible first | exact HB.out | apply below_alloc | apply pw_below_drewN | apply below_drew1 | refine below_set ?_ GE553.out) | exact HB.out)⟩⟩
                 case round =>
                  clear H'
                  try clear c1
                  try clear c2
                  try clear p2
                  try clear c3
                  try clear c4
                  try clear p5
                  try clear q5
                  try clear hx5
                  try clear c6
                  try clear p6
                  try clear c7
                  try clear c12
                  try clear c14
                  try clear c15
                  try clear c16
                  try clear c16b0
                  try clear c16b1
                  try clear c18
                  try clear c20
                  try clear c20b0
                  try clear c21
                  try clear c21b0
                  try clear c22
                  try clear c22b0
                  try clear c23
                  try clear c23b0
                  try clear c25
                  try clear c29
                  try clear c29b0
                  try clear c30
                  try clear c30b0
                  try clear c31
                  try clear c31b0
                  try clear c31b1
                  try clear c33
                  try clear c33b0
                  try clear c33b1
                  try clear c34
                  try clear c35
                  try clear c35b0
                  try clear c36
                  try clear c41
                  try clear c41b0
                  try clear c41b1
                  try clear c42
                  try clear hcz10_0
                  try clear hcz10_1
                  try clear hcz10_2
                  try clear hcz18_0
                  try clear hcz18_1
                  try clear hcz18_2
                  try clear hcz24_0
                  try clear hcz24_1
                  try clear hcz24_2
                  try clear hcz27_0
                  try clear hcz27_1
                  try clear hcz27_2
                  try clear hcz39_0
                  try clear hcz39_1
                  try clear hcz39_2
                  try clear hcz8_0
                  try clear hcz8_1
                  try clear hcz8_2
                  try clear hfz10_0
                  try clear hfz10_1
                  try clear hfz10_2
                  try clear hfz18_0
                  try clear hfz18_1
                  try clear hfz18_2
                  try clear hfz24_0
                  try clear hfz24_1
                  try clear hfz24_2
                  try clear hfz27_0
                  try clear hfz27_1
                  try clear hfz27_2
                  try clear hfz39_0
                  try clear hfz39_1
                  try clear hfz39_2
                  try clear hfz8_0
                  try clear hfz8_1
                  try clear hfz8_2
                  try clear hx560_0
                  try clear hx560_1
                  try clear hx560_2
                  try clear hx563_0
                  try clear p2
                  try clear p5
                  try clear p560
                  try clear p563
                  try clear p6
                  try clear q5
                  try clear q560
                  try clear q563
                  obtain ⟨x17_6, x18_6, rfl, rfl, HA, HK6, HO_14, BK553, HB⟩ := hrel
                  cases gk with
                  | zero => exact absurd HA.out (by simp [laganlaw04_MatchLoads.l1])
                  | succ k6 =>
                   have H := HA.out
                   clear HA
                   simp only [laganlaw04_MatchLoads.l1] at H
                   by_cases c43 : x18_6 < (l0_1.length : Int)
                   ·
                    rw [if_pos c43] at H
                    have c43b0 : decide (x18_6 < (l0_1.length : Int)) = true := decide_eq_true c43
                    clear c43
                    replace H := Option.bind_eq_some_iff.mp H
                    obtain ⟨⟨t574, t575, t576⟩, A440, H⟩ := H
                    replace H : (laganlaw04_MatchLoads.l2 k6 t564 x17_6 x18_6 t574 t575 t576 0 0 l0_0 l0_1 l0_2) = some r := H
                    have A44 := Aside0.mk A440
                    clear A440
                    have H' := Aside0.mk H
                    clear H
                    have hcz45_0 : wr.cell? ⟨gb553, 0, none⟩ = some (.slice A0_0 l0_0.length c0_0) := (blk_cell BK553.out 0).trans rfl
                    have hcz45_1 : wr.cell? ⟨gb553, 1, none⟩ = some (.slice A0_1 l0_1.length c0_1) := (blk_cell BK553.out 1).trans rfl
                    have hcz45_2 : wr.cell? ⟨gb553, 2, none⟩ = some (.slice A0_2 l0_2.length c0_2) := (blk_cell BK553.out 2).trans rfl
                    have hfz45_0 := blk_frozen BK553.out 0
                    have hfz45_1 := blk_frozen BK553.out 1
                    have hfz45_2 := blk_frozen BK553.out 2
                    go_wp2_with (first | ((with_reducible refine gate_callee (f := 18) rfl ?_); refine goesL_ (some 127) rfl rfl Try.func18 (by kernel_rfl) rfl #[.agg #[.slice A0_0 l0_0.length c0_0, .slice A0_1 l0_1.length c0_1, .slice A0_2 l0_2.length c0_2], .int .i64 x18_6] rfl (by (try simp only [List.map_toArray, List.map_cons, List.map_nil]); first | done | rfl | (simp only [List.length_drop, List.length_take]; rfl)) ?_; (with_reducible refine (match_Load.calls _ _ l0_0 _ _ l0_1 _ _ l0_2 x18_6 t574 t575 t576 _ ?side1 ?side2 ?side3 ?side4 ?side5 ?side6 A44.out).mono ?_); (case side1 => repeat (first | exact (Kd.C_below HR0_0.out HB.out) | (with_reducible refine Kd.C_alloc ?_ _) | (with_reducible refine Kd.C_drewN ?_ _) | (with_reducible refine Kd.C_drew ?_))); (case side2 => exact HC0_0.out); (case side3 => repeat (first | exact (Kd.C_below HR0_1.out HB.out) | (with_reducible refine Kd.C_alloc ?_ _) | (with_reducible refine Kd.C_drewN ?_ _) | (with_reducible refine Kd.C_drew ?_))); (case side4 => exact HC0_1.out); (case side5 => repeat (first | exact (Kd.C_below HR0_2.out HB.out) | (with_reducible refine Kd.C_alloc ?_ _) | (with_reducible refine Kd.C_drewN ?_ _) | (with_reducible refine Kd.C_drew ?_))); (case side6 => exact HC0_2.out); rintro e w46 ⟨rfl, hb⟩; refine ⟨_, rfl, ?_⟩; have n0_ := Aside0.mk (Kd.R_below (by (with_reducible repeat (first | apply Kd.R_alloc | apply Kd.R_drewN | apply Kd.R_drew)); exact HO_14.out) hb); have n1_ := Aside0.mk (blk_below (g := gb553) (o := .cells #[.slice A0_0 l0_0.length c0_0, .slice A0_1 l0_1.length c0_1, .slice A0_2 l0_2.length c0_2] 26 (0, 0)) (by (with_reducible repeat (first | refine blk_drewN ?_ _ | refine blk_drew ?_ | refine blk_alloc ?_ _)); exact BK553.out) hb); have n2_ := Aside0.mk (below_step (by repeat (first | (with_reducible first | exact HB.out | apply below_alloc | apply pw_below_drewN | apply below_drew1 | refine below_set ?_ GE553.out) | exact HB.out)) hb); clear HO_14; clear BK553; clear HB; have HO_14 := n0_; have BK553 := n1_; have HB := n2_; clear n0_ n1_ n2_; (try clear hb); (try clear hb2); (try clear hk); (try clear hi)))
                    go_loopg [22, 23] k6 (fun kq v22 v23 w' => ∃ (x22_7 : Int) (x23_7 : Int), v22 = .int .i64 x22_7 ∧ v23 = .int .i64 x23_7 ∧ Aside0 (laganlaw04_MatchLoads.l2 kq t564 x17_6 x18_6 t574 t575 t576 x22_7 x23_7 l0_0 l0_1 l0_2 = some r) ∧ Aside0 (kq ≤ k6) ∧ Aside0 (Kd.R (Kd.int .i64) 3 w' w.heap.size (fun _ => True) v565 t564) ∧ Aside0 (w'.heap[gb553]? = some (.cells #[(.slice A0_0 l0_0.length c0_0), (.slice A0_1 l0_1.length c0_1), (.slice A0_2 l0_2.length c0_2)] 26 (0, 0))) ∧ Aside0 (Below w.heap.size w w'))
                    case atStart => exact ⟨(0), (0), (by first | rfl | (simp; done) | (simp [*]; done)), (by first | rfl | (simp; done) | (simp [*]; done)), H', ⟨Nat.le_refl _⟩, ⟨by (with_reducible repeat (first | apply Kd.R_alloc | apply Kd.R_drewN | apply Kd.R_drew)); exact HO_14.out⟩, ⟨by (with_reducible repeat (first | refine blk_drewN ?_ _ | refine blk_drew ?_ | refine blk_alloc ?_ _)); exact BK553.out⟩, ⟨by repeat (first | (with_reducible first | exact HB.out | apply below_alloc | apply pw_below_drewN | apply below_drew1 | refine below_set ?_ GE553.out) | exact HB.out)⟩⟩
                    case round =>
                     clear H'
                     try clear c1
                     try clear c2
                     try clear p2
                     try clear c3
                     try clear c4
                     try clear p5
                     try clear q5
                     try clear hx5
                     try clear c6
                     try clear p6
                     try clear c7
                     try clear c12
                     try clear c14
                     try clear c15
                     try clear c16
                     try clear c16b0
                     try clear c16b1
                     try clear c18
                     try clear c20
                     try clear c20b0
                     try clear c21
                     try clear c21b0
                     try clear c22
                     try clear c22b0
                     try clear c23
                     try clear c23b0
                     try clear c25
                     try clear c29
                     try clear c29b0
                     try clear c30
                     try clear c30b0
                     try clear c31
                     try clear c31b0
                     try clear c31b1
                     try clear c33
                     try clear c33b0
                     try clear c33b1
                     try clear c34
                     try clear c35
                     try clear c35b0
                     try clear c36
                     try clear c41
                     try clear c41b0
                     try clear c41b1
                     try clear c42
                     try clear c43
                     try clear c43b0
                     try clear hcz10_0
                     try clear hcz10_1
                     try clear hcz10_2
                     try clear hcz18_0
                     try clear hcz18_1
                     try clear hcz18_2
                     try clear hcz24_0
                     try clear hcz24_1
                     try clear hcz24_2
                     try clear hcz27_0
                     try clear hcz27_1
                     try clear hcz27_2
                     try clear hcz39_0
                     try clear hcz39_1
                     try clear hcz39_2
                     try clear hcz45_0
                     try clear hcz45_1
                     try clear hcz45_2
                     try clear hcz8_0
                     try clear hcz8_1
                     try clear hcz8_2
                     try clear hfz10_0
                     try clear hfz10_1
                     try clear hfz10_2
                     try clear hfz18_0
                     try clear hfz18_1
                     try clear hfz18_2
                     try clear hfz24_0
                     try clear hfz24_1
                     try clear hfz24_2
                     try clear hfz27_0
                     try clear hfz27_1
                     try clear hfz27_2
                     try clear hfz39_0
                     try clear hfz39_1
                     try clear hfz39_2
                     try clear hfz45_0
                     try clear hfz45_1
                     try clear hfz45_2
                     try clear hfz8_0
                     try clear hfz8_1
                     try clear hfz8_2
                     try clear hx560_0
                     try clear hx560_1
                     try clear hx560_2
                     try clear hx563_0
                     try clear p2
                     try clear p5
                     try clear p560
                     try clear p563
                     try clear p6
                     try clear q5
                     try clear q560
                     try clear q563
                     obtain ⟨x22_7, x23_7, rfl, rfl, HA, HK7, HO_14, BK553, HB⟩ := hrel
                     cases gk with
                     | zero => exact absurd HA.out (by simp [laganlaw04_MatchLoads.l2])
                     | succ k7 =>
                      have H := HA.out
                      clear HA
                      simp only [laganlaw04_MatchLoads.l2] at H
                      by_cases c47 : x23_7 < (t564.length : Int)
                      ·
                       rw [if_pos c47] at H
                       have c47b0 : decide (x23_7 < (t564.length : Int)) = true := decide_eq_true c47
                       clear c47
                       by_cases c48 : 0 ≤ x23_7
                       ·
                        rw [if_pos c48] at H
                        have c48b0 : decide (0 ≤ x23_7) = true := decide_eq_true c48
                        clear c48
                        by_cases c49 : (rd t564 x23_7) = x18_6
                        ·
                         rw [if_pos c49] at H
                         have c49b0 : ((rd t564 x23_7) == x18_6) = true := beq_iff_eq.mpr c49
                         have c49b1 : ((rd t564 x23_7) != x18_6) = false := bne_eq_false_iff_eq.mpr c49
                         clear c49
                         have H' := Aside0.mk H
                         clear H
                         obtain ⟨Ao50, co50, eo50⟩ := Kd.R_slice HO_14.out
                         subst eo50
                         have p577 : 0 ≤ (x23_7 : Int) := of_decide_eq_true (by first | (with_reducible assumption) | assumption)
                         have q577 : x23_7 < (t564.length : Int) := of_decide_eq_true (by first | (with_reducible assumption) | assumption)
                         obtain ⟨ad577, e577, hx577_0⟩ := Kd.at_int (Kd.R_reads' HO_14.out).2.2 x23_7 p577 q577
                         cases e577
                         replace p577 := eq_true p577
                         replace q577 := eq_true q577
                         go_wp2
                         go_roundg k7
                         case measure => have := HJ3.out; have := HJ16.out; have := HK3.out; have := HJ31.out; have := HJ37.out; have := HK6.out; have := HK7.out; omega
                         case rel => exact ⟨(wrap64 (x22_7 + 1)), (wrap64 (x23_7 + 1)), (by first | rfl | (simp; done) | (simp [*]; done)), (by first | rfl | (simp; done) | (simp [*]; done)), H', ⟨by have := HJ3.out; have := HJ16.out; have := HK3.out; have := HJ31.out; have := HJ37.out; have := HK6.out; have := HK7.out; omega⟩, ⟨by (with_reducible repeat (first | apply Kd.R_alloc | apply Kd.R_drewN | apply Kd.R_drew)); exact HO_14.out⟩, ⟨by (with_reducible repeat (first | refine blk_drewN ?_ _ | refine blk_drew ?_ | refine blk_alloc ?_ _)); exact BK553.out⟩, ⟨by repeat (first | (with_reducible first | exact HB.out | apply below_alloc | apply pw_below_drewN | apply below_drew1 | refine below_set ?_ GE553.out) | exact HB.out)⟩⟩
                        ·
                         rw [if_neg c49] at H
                         have c49b0 : ((rd t564 x23_7) == x18_6) = false := beq_eq_false_iff_ne.mpr c49
                         have c49b1 : ((rd t564 x23_7) != x18_6) = true := bne_iff_ne.mpr c49
                         have H' := Aside0.mk H
                         clear H
                         obtain ⟨Ao51, co51, eo51⟩ := Kd.R_slice HO_14.out
                         subst eo51
                         have p577 : 0 ≤ (x23_7 : Int) := of_decide_eq_true (by first | (with_reducible assumption) | assumption)
                         have q577 : x23_7 < (t564.length : Int) := of_decide_eq_true (by first | (with_reducible assumption) | assumption)
                         obtain ⟨ad577, e577, hx577_0⟩ := Kd.at_int (Kd.R_reads' HO_14.out).2.2 x23_7 p577 q577
                         cases e577
                         replace p577 := eq_true p577
                         replace q577 := eq_true q577
                         go_wp2
                         go_roundg k7
                         case measure => have := HJ3.out; have := HJ16.out; have := HK3.out; have := HJ31.out; have := HJ37.out; have := HK6.out; have := HK7.out; omega
                         case rel => exact ⟨(x22_7), (wrap64 (x23_7 + 1)), (by first | rfl | (simp; done) | (simp [*]; done)), (by first | rfl | (simp; done) | (simp [*]; done)), H', ⟨by have := HJ3.out; have := HJ16.out; have := HK3.out; have := HJ31.out; have := HJ37.out; have := HK6.out; have := HK7.out; omega⟩, ⟨by (with_reducible repeat (first | apply Kd.R_alloc | apply Kd.R_drewN | apply Kd.R_drew)); exact HO_14.out⟩, ⟨by (with_reducible repeat (first | refine blk_drewN ?_ _ | refine blk_drew ?_ | refine blk_alloc ?_ _)); exact BK553.out⟩, ⟨by repeat (first | (with_reducible first | exact HB.out | apply below_alloc | apply pw_below_drewN | apply below_drew1 | refine below_set ?_ GE553.out) | exact HB.out)⟩⟩
                       ·
                        rw [if_neg c48] at H
                        exact absurd H (by simp)
                      ·
                       rw [if_neg c47] at H
                       have c47b0 : decide (x23_7 < (t564.length : Int)) = false := decide_eq_false c47
                       clear c47
                       by_cases c52 : t576 = 0
                       ·
                        rw [if_pos c52] at H
                        have c52b0 : (t576 == 0) = true := beq_iff_eq.mpr c52
                        have c52b1 : (t576 != 0) = false := bne_eq_false_iff_eq.mpr c52
                        clear c52
                        by_cases c53 : x22_7 < t574
                        ·
                         rw [if_pos c53] at H
                         have c53b0 : decide (x22_7 < t574) = true := decide_eq_true c53
                         clear c53
                         obtain rfl := Option.some.inj H
                         obtain ⟨Ao54, co54, eo54⟩ := Kd.R_slice HO_14.out
                         subst eo54
                         go_wp2
                         go_ret
                         exact ⟨by first | rfl | (simp [errW_none, errW_some] <;> rfl) | (simp [*, errW_none, errW_some] <;> rfl), by repeat (first | (with_reducible first | exact HB.out | apply below_alloc | apply pw_below_drewN | apply below_drew1 | refine below_set ?_ GE553.out) | exact HB.out)⟩
                        ·
                         rw [if_neg c53] at H
                         have c53b0 : decide (x22_7 < t574) = false := decide_eq_false c53
                         clear c53
                         by_cases c55 : x22_7 > t575
                         ·
                          rw [if_pos c55] at H
                          have c55b0 : decide (t575 < x22_7) = true := decide_eq_true c55
                          clear c55
                          obtain rfl := Option.some.inj H
                          obtain ⟨Ao56, co56, eo56⟩ := Kd.R_slice HO_14.out
                          subst eo56
                          go_wp2
                          go_ret
                          exact ⟨by first | rfl | (simp [errW_none, errW_some] <;> rfl) | (simp [*, errW_none, errW_some] <;> rfl), by repeat (first | (with_reducible first | exact HB.out | apply below_alloc | apply pw_below_drewN | apply below_drew1 | refine below_set ?_ GE553.out) | exact HB.out)⟩
                         ·
                          rw [if_neg c55] at H
                          have c55b0 : decide (t575 < x22_7) = false := decide_eq_false c55
                          clear c55
                          have H' := Aside0.mk H
                          clear H
                          obtain ⟨Ao57, co57, eo57⟩ := Kd.R_slice HO_14.out
                          subst eo57
                          go_wp2
                          go_roundg k7
                          case measure => have := HJ3.out; have := HJ16.out; have := HK3.out; have := HJ31.out; have := HJ37.out; have := HK6.out; have := HK7.out; omega
                          case rel => exact ⟨(wrap64 (x17_6 + x22_7)), (wrap64 (x18_6 + 1)), (by first | rfl | (simp; done) | (simp [*]; done)), (by first | rfl | (simp; done) | (simp [*]; done)), H', ⟨by have := HJ3.out; have := HJ16.out; have := HK3.out; have := HJ31.out; have := HJ37.out; have := HK6.out; have := HK7.out; omega⟩, ⟨by (with_reducible repeat (first | apply Kd.R_alloc | apply Kd.R_drewN | apply Kd.R_drew)); exact HO_14.out⟩, ⟨by (with_reducible repeat (first | refine blk_drewN ?_ _ | refine blk_drew ?_ | refine blk_alloc ?_ _)); exact BK553.out⟩, ⟨by repeat (first | (with_reducible first | exact HB.out | apply below_alloc | apply pw_below_drewN | apply below_drew1 | refine below_set ?_ GE553.out) | exact HB.out)⟩⟩
                       ·
                        rw [if_neg c52] at H
                        have c52b0 : (t576 == 0) = false := beq_eq_false_iff_ne.mpr c52
                        have c52b1 : (t576 != 0) = true := bne_iff_ne.mpr c52
                        obtain rfl := Option.some.inj H
                        obtain ⟨Ao58, co58, eo58⟩ := Kd.R_slice HO_14.out
                        subst eo58
                        go_wp2
                        go_ret
                        exact ⟨by first | rfl | (simp [errW_none, errW_some] <;> rfl) | (simp [*, errW_none, errW_some] <;> rfl), by repeat (first | (with_reducible first | exact HB.out | apply below_alloc | apply pw_below_drewN | apply below_drew1 | refine below_set ?_ GE553.out) | exact HB.out)⟩
                   ·
                    rw [if_neg c43] at H
                    have c43b0 : decide (x18_6 < (l0_1.length : Int)) = false := decide_eq_false c43
                    clear c43
                    replace H := Option.bind_eq_some_iff.mp H
                    obtain ⟨⟨t569, t572⟩, A590, H⟩ := H
                    replace H : ((laganlaw04_matched.f).bind fun t573 => (if t573 = true then (if t572 = 0 then (some (x17_6 == (wrap64 ((l0_0.length : Int) - (t569.length : Int))))) else (some false)) else (some false))) = some r := H
                    have A59 := Aside0.mk A590
                    clear A590
                    replace H := Option.bind_eq_some_iff.mp H
                    obtain ⟨t573, A600, H⟩ := H
                    replace H : (if t573 = true then (if t572 = 0 then (some (x17_6 == (wrap64 ((l0_0.length : Int) - (t569.length : Int))))) else (some false)) else (some false)) = some r := H
                    have A60 := Aside0.mk A600
                    clear A600
                    by_cases c61 : t573 = true
                    ·
                     subst c61
                     have H1 : (if t572 = 0 then (some (x17_6 == (wrap64 ((l0_0.length : Int) - (t569.length : Int))))) else (some false)) = some r := by rw [if_pos rfl] at H; exact H
                     clear H
                     have H := H1
                     clear H1
                     by_cases c62 : t572 = 0
                     ·
                      rw [if_pos c62] at H
                      have c62b0 : (t572 == 0) = true := beq_iff_eq.mpr c62
                      have c62b1 : (t572 != 0) = false := bne_eq_false_iff_eq.mpr c62
                      clear c62
                      obtain rfl := Option.some.inj H
                      have hcz63_0 : wr.cell? ⟨gb553, 0, none⟩ = some (.slice A0_0 l0_0.length c0_0) := (blk_cell BK553.out 0).trans rfl
                      have hcz63_1 : wr.cell? ⟨gb553, 1, none⟩ = some (.slice A0_1 l0_1.length c0_1) := (blk_cell BK553.out 1).trans rfl
                      have hcz63_2 : wr.cell? ⟨gb553, 2, none⟩ = some (.slice A0_2 l0_2.length c0_2) := (blk_cell BK553.out 2).trans rfl
                      have hfz63_0 := blk_frozen BK553.out 0
                      have hfz63_1 := blk_frozen BK553.out 1
                      have hfz63_2 := blk_frozen BK553.out 2
                      go_wp2_with (first | ((with_reducible refine gate_callee (f := 37) rfl ?_); refine goesL_ (some 162) rfl rfl Try.func37 (by kernel_rfl) rfl #[.agg #[.slice A0_0 l0_0.length c0_0, .slice A0_1 l0_1.length c0_1, .slice A0_2 l0_2.length c0_2]] rfl (by (try simp only [List.map_toArray, List.map_cons, List.map_nil]); first | done | rfl | (simp only [List.length_drop, List.length_take]; rfl)) ?_; (with_reducible refine (match_Nobody.calls k6 _ _ l0_0 _ _ l0_1 _ _ l0_2 t569 t572 _ ?side1 ?side2 ?side3 ?side4 ?side5 ?side6 A59.out).mono ?_); (case side1 => repeat (first | exact (Kd.C_below HR0_0.out HB.out) | (with_reducible refine Kd.C_alloc ?_ _) | (with_reducible refine Kd.C_drewN ?_ _) | (with_reducible refine Kd.C_drew ?_))); (case side2 => exact HC0_0.out); (case side3 => repeat (first | exact (Kd.C_below HR0_1.out HB.out) | (with_reducible refine Kd.C_alloc ?_ _) | (with_reducible refine Kd.C_drewN ?_ _) | (with_reducible refine Kd.C_drew ?_))); (case side4 => exact HC0_1.out); (case side5 => repeat (first | exact (Kd.C_below HR0_2.out HB.out) | (with_reducible refine Kd.C_alloc ?_ _) | (with_reducible refine Kd.C_drewN ?_ _) | (with_reducible refine Kd.C_drew ?_))); (case side6 => exact HC0_2.out); rintro e w64 ⟨v570, rfl, ho0, hb⟩; refine ⟨_, rfl, ?_⟩; have n0_ := Aside0.mk (Kd.R_elder' (by (with_reducible repeat (first | apply Kd.R_alloc | apply Kd.R_drewN | apply Kd.R_drew)); exact HO_14.out) (Kd.R_base ho0) hb); have n1_ := Aside0.mk (Kd.R_lower (Kd.R_new' ho0 (Kd.R_lt (by (with_reducible repeat (first | apply Kd.R_alloc | apply Kd.R_drewN | apply Kd.R_drew)); exact HO_14.out))) (below_size (by repeat (first | (with_reducible first | exact HB.out | apply below_alloc | apply pw_below_drewN | apply below_drew1 | refine below_set ?_ GE553.out) | exact HB.out)))); have n2_ := Aside0.mk (blk_below (g := gb553) (o := .cells #[.slice A0_0 l0_0.length c0_0, .slice A0_1 l0_1.length c0_1, .slice A0_2 l0_2.length c0_2] 26 (0, 0)) (by (with_reducible repeat (first | refine blk_drewN ?_ _ | refine blk_drew ?_ | refine blk_alloc ?_ _)); exact BK553.out) hb); have n3_ := Aside0.mk (below_step (by repeat (first | (with_reducible first | exact HB.out | apply below_alloc | apply pw_below_drewN | apply below_drew1 | refine below_set ?_ GE553.out) | exact HB.out)) hb); clear HO_14; clear BK553; clear HB; have HO_14 := n0_; have HO571 := n1_; have BK553 := n2_; have HB := n3_; clear n0_ n1_ n2_ n3_; (try clear hb); (try clear hb2); (try clear hk); (try clear hi); (try clear ho0)) | ((with_reducible refine gate_callee (f := 14) rfl ?_); refine goesL_ (some 165) rfl rfl Try.func14 (by kernel_rfl) rfl #[] rfl (by (try simp only [List.map_toArray, List.map_cons, List.map_nil]); first | done | rfl | (simp only [List.length_drop, List.length_take]; rfl)) ?_; (with_reducible refine (laganlaw04_matched.calls  true _ A60.out).mono ?_); rintro e w65 ⟨rfl, hb⟩; refine ⟨_, rfl, ?_⟩; have n0_ := Aside0.mk (Kd.R_below (by (with_reducible repeat (first | apply Kd.R_alloc | apply Kd.R_drewN | apply Kd.R_drew)); exact HO_14.out) hb); have n1_ := Aside0.mk (Kd.R_below (by (with_reducible repeat (first | apply Kd.R_alloc | apply Kd.R_drewN | apply Kd.R_drew)); exact HO571.out) hb); have n2_ := Aside0.mk (blk_below (g := gb553) (o := .cells #[.slice A0_0 l0_0.length c0_0, .slice A0_1 l0_1.length c0_1, .slice A0_2 l0_2.length c0_2] 26 (0, 0)) (by (with_reducible repeat (first | refine blk_drewN ?_ _ | refine blk_drew ?_ | refine blk_alloc ?_ _)); exact BK553.out) hb); have n3_ := Aside0.mk (below_step (by repeat (first | (with_reducible first | exact HB.out | apply below_alloc | apply pw_below_drewN | apply below_drew1 | refine below_set ?_ GE553.out) | exact HB.out)) hb); clear HO_14; clear HO571; clear BK553; clear HB; have HO_14 := n0_; have HO571 := n1_; have BK553 := n2_; have HB := n3_; clear n0_ n1_ n2_ n3_; (try clear hb); (try clear hb2); (try clear hk); (try clear hi); have hcz66_0 : w65.cell? ⟨gb553, 0, none⟩ = some (.slice A0_0 l0_0.length c0_0) := (blk_cell BK553.out 0).trans rfl; have hcz66_1 : w65.cell? ⟨gb553, 1, none⟩ = some (.slice A0_1 l0_1.length c0_1) := (blk_cell BK553.out 1).trans rfl; have hcz66_2 : w65.cell? ⟨gb553, 2, none⟩ = some (.slice A0_2 l0_2.length c0_2) := (blk_cell BK553.out 2).trans rfl; have hfz66_0 := blk_frozen BK553.out 0; have hfz66_1 := blk_frozen BK553.out 1; have hfz66_2 := blk_frozen BK553.out 2; obtain ⟨Ao67, co67, eo67⟩ := Kd.R_slice HO571.out; subst eo67))
                      go_ret
                      exact ⟨by first | rfl | (simp [errW_none, errW_some] <;> rfl) | (simp [*, errW_none, errW_some] <;> rfl), by repeat (first | (with_reducible first | exact HB.out | apply below_alloc | apply pw_below_drewN | apply below_drew1 | refine below_set ?_ GE553.out) | exact HB.out)⟩
                     ·
                      rw [if_neg c62] at H
                      have c62b0 : (t572 == 0) = false := beq_eq_false_iff_ne.mpr c62
                      have c62b1 : (t572 != 0) = true := bne_iff_ne.mpr c62
                      obtain rfl := Option.some.inj H
                      have hcz68_0 : wr.cell? ⟨gb553, 0, none⟩ = some (.slice A0_0 l0_0.length c0_0) := (blk_cell BK553.out 0).trans rfl
                      have hcz68_1 : wr.cell? ⟨gb553, 1, none⟩ = some (.slice A0_1 l0_1.length c0_1) := (blk_cell BK553.out 1).trans rfl
                      have hcz68_2 : wr.cell? ⟨gb553, 2, none⟩ = some (.slice A0_2 l0_2.length c0_2) := (blk_cell BK553.out 2).trans rfl
                      have hfz68_0 := blk_frozen BK553.out 0
                      have hfz68_1 := blk_frozen BK553.out 1
                      have hfz68_2 := blk_frozen BK553.out 2
                      go_wp2_with (first | ((with_reducible refine gate_callee (f := 37) rfl ?_); refine goesL_ (some 162) rfl rfl Try.func37 (by kernel_rfl) rfl #[.agg #[.slice A0_0 l0_0.length c0_0, .slice A0_1 l0_1.length c0_1, .slice A0_2 l0_2.length c0_2]] rfl (by (try simp only [List.map_toArray, List.map_cons, List.map_nil]); first | done | rfl | (simp only [List.length_drop, List.length_take]; rfl)) ?_; (with_reducible refine (match_Nobody.calls k6 _ _ l0_0 _ _ l0_1 _ _ l0_2 t569 t572 _ ?side1 ?side2 ?side3 ?side4 ?side5 ?side6 A59.out).mono ?_); (case side1 => repeat (first | exact (Kd.C_below HR0_0.out HB.out) | (with_reducible refine Kd.C_alloc ?_ _) | (with_reducible refine Kd.C_drewN ?_ _) | (with_reducible refine Kd.C_drew ?_))); (case side2 => exact HC0_0.out); (case side3 => repeat (first | exact (Kd.C_below HR0_1.out HB.out) | (with_reducible refine Kd.C_alloc ?_ _) | (with_reducible refine Kd.C_drewN ?_ _) | (with_reducible refine Kd.C_drew ?_))); (case side4 => exact HC0_1.out); (case side5 => repeat (first | exact (Kd.C_below HR0_2.out HB.out) | (with_reducible refine Kd.C_alloc ?_ _) | (with_reducible refine Kd.C_drewN ?_ _) | (with_reducible refine Kd.C_drew ?_))); (case side6 => exact HC0_2.out); rintro e w69 ⟨v570, rfl, ho0, hb⟩; refine ⟨_, rfl, ?_⟩; have n0_ := Aside0.mk (Kd.R_elder' (by (with_reducible repeat (first | apply Kd.R_alloc | apply Kd.R_drewN | apply Kd.R_drew)); exact HO_14.out) (Kd.R_base ho0) hb); have n1_ := Aside0.mk (Kd.R_lower (Kd.R_new' ho0 (Kd.R_lt (by (with_reducible repeat (first | apply Kd.R_alloc | apply Kd.R_drewN | apply Kd.R_drew)); exact HO_14.out))) (below_size (by repeat (first | (with_reducible first | exact HB.out | apply below_alloc | apply pw_below_drewN | apply below_drew1 | refine below_set ?_ GE553.out) | exact HB.out)))); have n2_ := Aside0.mk (blk_below (g := gb553) (o := .cells #[.slice A0_0 l0_0.length c0_0, .slice A0_1 l0_1.length c0_1, .slice A0_2 l0_2.length c0_2] 26 (0, 0)) (by (with_reducible repeat (first | refine blk_drewN ?_ _ | refine blk_drew ?_ | refine blk_alloc ?_ _)); exact BK553.out) hb); have n3_ := Aside0.mk (below_step (by repeat (first | (with_reducible first | exact HB.out | apply below_alloc | apply pw_below_drewN | apply below_drew1 | refine below_set ?_ GE553.out) | exact HB.out)) hb); clear HO_14; clear BK553; clear HB; have HO_14 := n0_; have HO571 := n1_; have BK553 := n2_; have HB := n3_; clear n0_ n1_ n2_ n3_; (try clear hb); (try clear hb2); (try clear hk); (try clear hi); (try clear ho0)) | ((with_reducible refine gate_callee (f := 14) rfl ?_); refine goesL_ (some 165) rfl rfl Try.func14 (by kernel_rfl) rfl #[] rfl (by (try simp only [List.map_toArray, List.map_cons, List.map_nil]); first | done | rfl | (simp only [List.length_drop, List.length_take]; rfl)) ?_; (with_reducible refine (laganlaw04_matched.calls  true _ A60.out).mono ?_); rintro e w70 ⟨rfl, hb⟩; refine ⟨_, rfl, ?_⟩; have n0_ := Aside0.mk (Kd.R_below (by (with_reducible repeat (first | apply Kd.R_alloc | apply Kd.R_drewN | apply Kd.R_drew)); exact HO_14.out) hb); have n1_ := Aside0.mk (Kd.R_below (by (with_reducible repeat (first | apply Kd.R_alloc | apply Kd.R_drewN | apply Kd.R_drew)); exact HO571.out) hb); have n2_ := Aside0.mk (blk_below (g := gb553) (o := .cells #[.slice A0_0 l0_0.length c0_0, .slice A0_1 l0_1.length c0_1, .slice A0_2 l0_2.length c0_2] 26 (0, 0)) (by (with_reducible repeat (first | refine blk_drewN ?_ _ | refine blk_drew ?_ | refine blk_alloc ?_ _)); exact BK553.out) hb); have n3_ := Aside0.mk (below_step (by repeat (first | (with_reducible first | exact HB.out | apply below_alloc | apply pw_below_drewN | apply below_drew1 | refine below_set ?_ GE553.out) | exact HB.out)) hb); clear HO_14; clear HO571; clear BK553; clear HB; have HO_14 := n0_; have HO571 := n1_; have BK553 := n2_; have HB := n3_; clear n0_ n1_ n2_ n3_; (try clear hb); (try clear hb2); (try clear hk); (try clear hi)))
                      go_ret
                      exact ⟨by first | rfl | (simp [errW_none, errW_some] <;> rfl) | (simp [*, errW_none, errW_some] <;> rfl), by repeat (first | (with_reducible first | exact HB.out | apply below_alloc | apply pw_below_drewN | apply below_drew1 | refine below_set ?_ GE553.out) | exact HB.out)⟩
                    ·
                     replace c61 := Bool.eq_false_iff.mpr c61
                     subst c61
                     have H1 : (some false) = some r := by rw [if_neg (show ¬ (false = true) by decide)] at H; exact H
                     clear H
                     have H := H1
                     clear H1
                     obtain rfl := Option.some.inj H
                     have hcz71_0 : wr.cell? ⟨gb553, 0, none⟩ = some (.slice A0_0 l0_0.length c0_0) := (blk_cell BK553.out 0).trans rfl
                     have hcz71_1 : wr.cell? ⟨gb553, 1, none⟩ = some (.slice A0_1 l0_1.length c0_1) := (blk_cell BK553.out 1).trans rfl
                     have hcz71_2 : wr.cell? ⟨gb553, 2, none⟩ = some (.slice A0_2 l0_2.length c0_2) := (blk_cell BK553.out 2).trans rfl
                     have hfz71_0 := blk_frozen BK553.out 0
                     have hfz71_1 := blk_frozen BK553.out 1
                     have hfz71_2 := blk_frozen BK553.out 2
                     go_wp2_with (first | ((with_reducible refine gate_callee (f := 37) rfl ?_); refine goesL_ (some 162) rfl rfl Try.func37 (by kernel_rfl) rfl #[.agg #[.slice A0_0 l0_0.length c0_0, .slice A0_1 l0_1.length c0_1, .slice A0_2 l0_2.length c0_2]] rfl (by (try simp only [List.map_toArray, List.map_cons, List.map_nil]); first | done | rfl | (simp only [List.length_drop, List.length_take]; rfl)) ?_; (with_reducible refine (match_Nobody.calls k6 _ _ l0_0 _ _ l0_1 _ _ l0_2 t569 t572 _ ?side1 ?side2 ?side3 ?side4 ?side5 ?side6 A59.out).mono ?_); (case side1 => repeat (first | exact (Kd.C_below HR0_0.out HB.out) | (with_reducible refine Kd.C_alloc ?_ _) | (with_reducible refine Kd.C_drewN ?_ _) | (with_reducible refine Kd.C_drew ?_))); (case side2 => exact HC0_0.out); (case side3 => repeat (first | exact (Kd.C_below HR0_1.out HB.out) | (with_reducible refine Kd.C_alloc ?_ _) | (with_reducible refine Kd.C_drewN ?_ _) | (with_reducible refine Kd.C_drew ?_))); (case side4 => exact HC0_1.out); (case side5 => repeat (first | exact (Kd.C_below HR0_2.out HB.out) | (with_reducible refine Kd.C_alloc ?_ _) | (with_reducible refine Kd.C_drewN ?_ _) | (with_reducible refine Kd.C_drew ?_))); (case side6 => exact HC0_2.out); rintro e w72 ⟨v570, rfl, ho0, hb⟩; refine ⟨_, rfl, ?_⟩; have n0_ := Aside0.mk (Kd.R_elder' (by (with_reducible repeat (first | apply Kd.R_alloc | apply Kd.R_drewN | apply Kd.R_drew)); exact HO_14.out) (Kd.R_base ho0) hb); have n1_ := Aside0.mk (Kd.R_lower (Kd.R_new' ho0 (Kd.R_lt (by (with_reducible repeat (first | apply Kd.R_alloc | apply Kd.R_drewN | apply Kd.R_drew)); exact HO_14.out))) (below_size (by repeat (first | (with_reducible first | exact HB.out | apply below_alloc | apply pw_below_drewN | apply below_drew1 | refine below_set ?_ GE553.out) | exact HB.out)))); have n2_ := Aside0.mk (blk_below (g := gb553) (o := .cells #[.slice A0_0 l0_0.length c0_0, .slice A0_1 l0_1.length c0_1, .slice A0_2 l0_2.length c0_2] 26 (0, 0)) (by (with_reducible repeat (first | refine blk_drewN ?_ _ | refine blk_drew ?_ | refine blk_alloc ?_ _)); exact BK553.out) hb); have n3_ := Aside0.mk (below_step (by repeat (first | (with_reducible first | exact HB.out | apply below_alloc | apply pw_below_drewN | apply below_drew1 | refine below_set ?_ GE553.out) | exact HB.out)) hb); clear HO_14; clear BK553; clear HB; have HO_14 := n0_; have HO571 := n1_; have BK553 := n2_; have HB := n3_; clear n0_ n1_ n2_ n3_; (try clear hb); (try clear hb2); (try clear hk); (try clear hi); (try clear ho0)) | ((with_reducible refine gate_callee (f := 14) rfl ?_); refine goesL_ (some 165) rfl rfl Try.func14 (by kernel_rfl) rfl #[] rfl (by (try simp only [List.map_toArray, List.map_cons, List.map_nil]); first | done | rfl | (simp only [List.length_drop, List.length_take]; rfl)) ?_; (with_reducible refine (laganlaw04_matched.calls  false _ A60.out).mono ?_); rintro e w73 ⟨rfl, hb⟩; refine ⟨_, rfl, ?_⟩; have n0_ := Aside0.mk (Kd.R_below (by (with_reducible repeat (first | apply Kd.R_alloc | apply Kd.R_drewN | apply Kd.R_drew)); exact HO_14.out) hb); have n1_ := Aside0.mk (Kd.R_below (by (with_reducible repeat (first | apply Kd.R_alloc | apply Kd.R_drewN | apply Kd.R_drew)); exact HO571.out) hb); have n2_ := Aside0.mk (blk_below (g := gb553) (o := .cells #[.slice A0_0 l0_0.length c0_0, .slice A0_1 l0_1.length c0_1, .slice A0_2 l0_2.length c0_2] 26 (0, 0)) (by (with_reducible repeat (first | refine blk_drewN ?_ _ | refine blk_drew ?_ | refine blk_alloc ?_ _)); exact BK553.out) hb); have n3_ := Aside0.mk (below_step (by repeat (first | (with_reducible first | exact HB.out | apply below_alloc | apply pw_below_drewN | apply below_drew1 | refine below_set ?_ GE553.out) | exact HB.out)) hb); clear HO_14; clear HO571; clear BK553; clear HB; have HO_14 := n0_; have HO571 := n1_; have BK553 := n2_; have HB := n3_; clear n0_ n1_ n2_ n3_; (try clear hb); (try clear hb2); (try clear hk); (try clear hi)))
                     go_ret
                     exact ⟨by first | rfl | (simp [errW_none, errW_some] <;> rfl) | (simp [*, errW_none, errW_some] <;> rfl), by repeat (first | (with_reducible first | exact HB.out | apply below_alloc | apply pw_below_drewN | apply below_drew1 | refine below_set ?_ GE553.out) | exact HB.out)⟩
    ·
     rw [if_neg c16] at H
     have c16b0 : (t558 == 0) = false := beq_eq_false_iff_ne.mpr c16
     have c16b1 : (t558 != 0) = true := bne_iff_ne.mpr c16
     replace H := Option.bind_eq_some_iff.mp H
     obtain ⟨t559, A740, H⟩ := H
     replace H : (if t559 = true then (if t556 = 0 then (some (t557 == 0)) else (some false)) else (some false)) = some r := H
     have A74 := Aside0.mk A740
     clear A740
     by_cases c75 : t559 = true
     ·
      subst c75
      have H1 : (if t556 = 0 then (some (t557 == 0)) else (some false)) = some r := by rw [if_pos rfl] at H; exact H
      clear H
      have H := H1
      clear H1
      by_cases c76 : t556 = 0
      ·
       rw [if_pos c76] at H
       have c76b0 : (t556 == 0) = true := beq_iff_eq.mpr c76
       have c76b1 : (t556 != 0) = false := bne_eq_false_iff_eq.mpr c76
       clear c76
       obtain rfl := Option.some.inj H
       have hcz77_0 : wc.cell? ⟨gb553, 0, none⟩ = some (.slice A0_0 l0_0.length c0_0) := (blk_cell BK553.out 0).trans rfl
       have hcz77_1 : wc.cell? ⟨gb553, 1, none⟩ = some (.slice A0_1 l0_1.length c0_1) := (blk_cell BK553.out 1).trans rfl
       have hcz77_2 : wc.cell? ⟨gb553, 2, none⟩ = some (.slice A0_2 l0_2.length c0_2) := (blk_cell BK553.out 2).trans rfl
       have hfz77_0 := blk_frozen BK553.out 0
       have hfz77_1 := blk_frozen BK553.out 1
       have hfz77_2 := blk_frozen BK553.out 2
       go_wp2_with (first | ((with_reducible refine gate_callee (f := 18) rfl ?_); refine goesL_ (some 38) rfl rfl Try.func18 (by kernel_rfl) rfl #[.agg #[.slice A0_0 l0_0.length c0_0, .slice A0_1 l0_1.length c0_1, .slice A0_2 l0_2.length c0_2], .int .i64 a2] rfl (by (try simp only [List.map_toArray, List.map_cons, List.map_nil]); first | done | rfl | (simp only [List.length_drop, List.length_take]; rfl)) ?_; (with_reducible refine (match_Load.calls _ _ l0_0 _ _ l0_1 _ _ l0_2 a2 t556 t557 t558 _ ?side1 ?side2 ?side3 ?side4 ?side5 ?side6 A15.out).mono ?_); (case side1 => repeat (first | exact (Kd.C_below HR0_0.out HB.out) | (with_reducible refine Kd.C_alloc ?_ _) | (with_reducible refine Kd.C_drewN ?_ _) | (with_reducible refine Kd.C_drew ?_))); (case side2 => exact HC0_0.out); (case side3 => repeat (first | exact (Kd.C_below HR0_1.out HB.out) | (with_reducible refine Kd.C_alloc ?_ _) | (with_reducible refine Kd.C_drewN ?_ _) | (with_reducible refine Kd.C_drew ?_))); (case side4 => exact HC0_1.out); (case side5 => repeat (first | exact (Kd.C_below HR0_2.out HB.out) | (with_reducible refine Kd.C_alloc ?_ _) | (with_reducible refine Kd.C_drewN ?_ _) | (with_reducible refine Kd.C_drew ?_))); (case side6 => exact HC0_2.out); rintro e w78 ⟨rfl, hb⟩; refine ⟨_, rfl, ?_⟩; have n0_ := Aside0.mk (blk_below (g := gb553) (o := .cells #[.slice A0_0 l0_0.length c0_0, .slice A0_1 l0_1.length c0_1, .slice A0_2 l0_2.length c0_2] 26 (0, 0)) (by (with_reducible repeat (first | refine blk_drewN ?_ _ | refine blk_drew ?_ | refine blk_alloc ?_ _)); exact BK553.out) hb); have n1_ := Aside0.mk (below_step (by repeat (first | (with_reducible first | exact HB.out | apply below_alloc | apply pw_below_drewN | apply below_drew1 | refine below_set ?_ GE553.out) | exact HB.out)) hb); clear BK553; clear HB; have BK553 := n0_; have HB := n1_; clear n0_ n1_; (try clear hb); (try clear hb2); (try clear hk); (try clear hi)) | ((with_reducible refine gate_callee (f := 14) rfl ?_); refine goesL_ (some 44) rfl rfl Try.func14 (by kernel_rfl) rfl #[] rfl (by (try simp only [List.map_toArray, List.map_cons, List.map_nil]); first | done | rfl | (simp only [List.length_drop, List.length_take]; rfl)) ?_; (with_reducible refine (laganlaw04_matched.calls  true _ A74.out).mono ?_); rintro e w79 ⟨rfl, hb⟩; refine ⟨_, rfl, ?_⟩; have n0_ := Aside0.mk (blk_below (g := gb553) (o := .cells #[.slice A0_0 l0_0.length c0_0, .slice A0_1 l0_1.length c0_1, .slice A0_2 l0_2.length c0_2] 26 (0, 0)) (by (with_reducible repeat (first | refine blk_drewN ?_ _ | refine blk_drew ?_ | refine blk_alloc ?_ _)); exact BK553.out) hb); have n1_ := Aside0.mk (below_step (by repeat (first | (with_reducible first | exact HB.out | apply below_alloc | apply pw_below_drewN | apply below_drew1 | refine below_set ?_ GE553.out) | exact HB.out)) hb); clear BK553; clear HB; have BK553 := n0_; have HB := n1_; clear n0_ n1_; (try clear hb); (try clear hb2); (try clear hk); (try clear hi)))
       go_ret
       exact ⟨by first | rfl | (simp [errW_none, errW_some] <;> rfl) | (simp [*, errW_none, errW_some] <;> rfl), by repeat (first | (with_reducible first | exact HB.out | apply below_alloc | apply pw_below_drewN | apply below_drew1 | refine below_set ?_ GE553.out) | exact HB.out)⟩
      ·
       rw [if_neg c76] at H
       have c76b0 : (t556 == 0) = false := beq_eq_false_iff_ne.mpr c76
       have c76b1 : (t556 != 0) = true := bne_iff_ne.mpr c76
       obtain rfl := Option.some.inj H
       have hcz80_0 : wc.cell? ⟨gb553, 0, none⟩ = some (.slice A0_0 l0_0.length c0_0) := (blk_cell BK553.out 0).trans rfl
       have hcz80_1 : wc.cell? ⟨gb553, 1, none⟩ = some (.slice A0_1 l0_1.length c0_1) := (blk_cell BK553.out 1).trans rfl
       have hcz80_2 : wc.cell? ⟨gb553, 2, none⟩ = some (.slice A0_2 l0_2.length c0_2) := (blk_cell BK553.out 2).trans rfl
       have hfz80_0 := blk_frozen BK553.out 0
       have hfz80_1 := blk_frozen BK553.out 1
       have hfz80_2 := blk_frozen BK553.out 2
       go_wp2_with (first | ((with_reducible refine gate_callee (f := 18) rfl ?_); refine goesL_ (some 38) rfl rfl Try.func18 (by kernel_rfl) rfl #[.agg #[.slice A0_0 l0_0.length c0_0, .slice A0_1 l0_1.length c0_1, .slice A0_2 l0_2.length c0_2], .int .i64 a2] rfl (by (try simp only [List.map_toArray, List.map_cons, List.map_nil]); first | done | rfl | (simp only [List.length_drop, List.length_take]; rfl)) ?_; (with_reducible refine (match_Load.calls _ _ l0_0 _ _ l0_1 _ _ l0_2 a2 t556 t557 t558 _ ?side1 ?side2 ?side3 ?side4 ?side5 ?side6 A15.out).mono ?_); (case side1 => repeat (first | exact (Kd.C_below HR0_0.out HB.out) | (with_reducible refine Kd.C_alloc ?_ _) | (with_reducible refine Kd.C_drewN ?_ _) | (with_reducible refine Kd.C_drew ?_))); (case side2 => exact HC0_0.out); (case side3 => repeat (first | exact (Kd.C_below HR0_1.out HB.out) | (with_reducible refine Kd.C_alloc ?_ _) | (with_reducible refine Kd.C_drewN ?_ _) | (with_reducible refine Kd.C_drew ?_))); (case side4 => exact HC0_1.out); (case side5 => repeat (first | exact (Kd.C_below HR0_2.out HB.out) | (with_reducible refine Kd.C_alloc ?_ _) | (with_reducible refine Kd.C_drewN ?_ _) | (with_reducible refine Kd.C_drew ?_))); (case side6 => exact HC0_2.out); rintro e w81 ⟨rfl, hb⟩; refine ⟨_, rfl, ?_⟩; have n0_ := Aside0.mk (blk_below (g := gb553) (o := .cells #[.slice A0_0 l0_0.length c0_0, .slice A0_1 l0_1.length c0_1, .slice A0_2 l0_2.length c0_2] 26 (0, 0)) (by (with_reducible repeat (first | refine blk_drewN ?_ _ | refine blk_drew ?_ | refine blk_alloc ?_ _)); exact BK553.out) hb); have n1_ := Aside0.mk (below_step (by repeat (first | (with_reducible first | exact HB.out | apply below_alloc | apply pw_below_drewN | apply below_drew1 | refine below_set ?_ GE553.out) | exact HB.out)) hb); clear BK553; clear HB; have BK553 := n0_; have HB := n1_; clear n0_ n1_; (try clear hb); (try clear hb2); (try clear hk); (try clear hi)) | ((with_reducible refine gate_callee (f := 14) rfl ?_); refine goesL_ (some 44) rfl rfl Try.func14 (by kernel_rfl) rfl #[] rfl (by (try simp only [List.map_toArray, List.map_cons, List.map_nil]); first | done | rfl | (simp only [List.length_drop, List.length_take]; rfl)) ?_; (with_reducible refine (laganlaw04_matched.calls  true _ A74.out).mono ?_); rintro e w82 ⟨rfl, hb⟩; refine ⟨_, rfl, ?_⟩; have n0_ := Aside0.mk (blk_below (g := gb553) (o := .cells #[.slice A0_0 l0_0.length c0_0, .slice A0_1 l0_1.length c0_1, .slice A0_2 l0_2.length c0_2] 26 (0, 0)) (by (with_reducible repeat (first | refine blk_drewN ?_ _ | refine blk_drew ?_ | refine blk_alloc ?_ _)); exact BK553.out) hb); have n1_ := Aside0.mk (below_step (by repeat (first | (with_reducible first | exact HB.out | apply below_alloc | apply pw_below_drewN | apply below_drew1 | refine below_set ?_ GE553.out) | exact HB.out)) hb); clear BK553; clear HB; have BK553 := n0_; have HB := n1_; clear n0_ n1_; (try clear hb); (try clear hb2); (try clear hk); (try clear hi)))
       go_ret
       exact ⟨by first | rfl | (simp [errW_none, errW_some] <;> rfl) | (simp [*, errW_none, errW_some] <;> rfl), by repeat (first | (with_reducible first | exact HB.out | apply below_alloc | apply pw_below_drewN | apply below_drew1 | refine below_set ?_ GE553.out) | exact HB.out)⟩
     ·
      replace c75 := Bool.eq_false_iff.mpr c75
      subst c75
      have H1 : (some false) = some r := by rw [if_neg (show ¬ (false = true) by decide)] at H; exact H
      clear H
      have H := H1
      clear H1
      obtain rfl := Option.some.inj H
      have hcz83_0 : wc.cell? ⟨gb553, 0, none⟩ = some (.slice A0_0 l0_0.length c0_0) := (blk_cell BK553.out 0).trans rfl
      have hcz83_1 : wc.cell? ⟨gb553, 1, none⟩ = some (.slice A0_1 l0_1.length c0_1) := (blk_cell BK553.out 1).trans rfl
      have hcz83_2 : wc.cell? ⟨gb553, 2, none⟩ = some (.slice A0_2 l0_2.length c0_2) := (blk_cell BK553.out 2).trans rfl
      have hfz83_0 := blk_frozen BK553.out 0
      have hfz83_1 := blk_frozen BK553.out 1
      have hfz83_2 := blk_frozen BK553.out 2
      go_wp2_with (first | ((with_reducible refine gate_callee (f := 18) rfl ?_); refine goesL_ (some 38) rfl rfl Try.func18 (by kernel_rfl) rfl #[.agg #[.slice A0_0 l0_0.length c0_0, .slice A0_1 l0_1.length c0_1, .slice A0_2 l0_2.length c0_2], .int .i64 a2] rfl (by (try simp only [List.map_toArray, List.map_cons, List.map_nil]); first | done | rfl | (simp only [List.length_drop, List.length_take]; rfl)) ?_; (with_reducible refine (match_Load.calls _ _ l0_0 _ _ l0_1 _ _ l0_2 a2 t556 t557 t558 _ ?side1 ?side2 ?side3 ?side4 ?side5 ?side6 A15.out).mono ?_); (case side1 => repeat (first | exact (Kd.C_below HR0_0.out HB.out) | (with_reducible refine Kd.C_alloc ?_ _) | (with_reducible refine Kd.C_drewN ?_ _) | (with_reducible refine Kd.C_drew ?_))); (case side2 => exact HC0_0.out); (case side3 => repeat (first | exact (Kd.C_below HR0_1.out HB.out) | (with_reducible refine Kd.C_alloc ?_ _) | (with_reducible refine Kd.C_drewN ?_ _) | (with_reducible refine Kd.C_drew ?_))); (case side4 => exact HC0_1.out); (case side5 => repeat (first | exact (Kd.C_below HR0_2.out HB.out) | (with_reducible refine Kd.C_alloc ?_ _) | (with_reducible refine Kd.C_drewN ?_ _) | (with_reducible refine Kd.C_drew ?_))); (case side6 => exact HC0_2.out); rintro e w84 ⟨rfl, hb⟩; refine ⟨_, rfl, ?_⟩; have n0_ := Aside0.mk (blk_below (g := gb553) (o := .cells #[.slice A0_0 l0_0.length c0_0, .slice A0_1 l0_1.length c0_1, .slice A0_2 l0_2.length c0_2] 26 (0, 0)) (by (with_reducible repeat (first | refine blk_drewN ?_ _ | refine blk_drew ?_ | refine blk_alloc ?_ _)); exact BK553.out) hb); have n1_ := Aside0.mk (below_step (by repeat (first | (with_reducible first | exact HB.out | apply below_alloc | apply pw_below_drewN | apply below_drew1 | refine below_set ?_ GE553.out) | exact HB.out)) hb); clear BK553; clear HB; have BK553 := n0_; have HB := n1_; clear n0_ n1_; (try clear hb); (try clear hb2); (try clear hk); (try clear hi)) | ((with_reducible refine gate_callee (f := 14) rfl ?_); refine goesL_ (some 44) rfl rfl Try.func14 (by kernel_rfl) rfl #[] rfl (by (try simp only [List.map_toArray, List.map_cons, List.map_nil]); first | done | rfl | (simp only [List.length_drop, List.length_take]; rfl)) ?_; (with_reducible refine (laganlaw04_matched.calls  false _ A74.out).mono ?_); rintro e w85 ⟨rfl, hb⟩; refine ⟨_, rfl, ?_⟩; have n0_ := Aside0.mk (blk_below (g := gb553) (o := .cells #[.slice A0_0 l0_0.length c0_0, .slice A0_1 l0_1.length c0_1, .slice A0_2 l0_2.length c0_2] 26 (0, 0)) (by (with_reducible repeat (first | refine blk_drewN ?_ _ | refine blk_drew ?_ | refine blk_alloc ?_ _)); exact BK553.out) hb); have n1_ := Aside0.mk (below_step (by repeat (first | (with_reducible first | exact HB.out | apply below_alloc | apply pw_below_drewN | apply below_drew1 | refine below_set ?_ GE553.out) | exact HB.out)) hb); clear BK553; clear HB; have BK553 := n0_; have HB := n1_; clear n0_ n1_; (try clear hb); (try clear hb2); (try clear hk); (try clear hi)))
      go_ret
      exact ⟨by first | rfl | (simp [errW_none, errW_some] <;> rfl) | (simp [*, errW_none, errW_some] <;> rfl), by repeat (first | (with_reducible first | exact HB.out | apply below_alloc | apply pw_below_drewN | apply below_drew1 | refine below_set ?_ GE553.out) | exact HB.out)⟩
end Go.Proofs.Ytkmmihadcbfkoaa.PM
end

section
namespace Go.Proofs.Ytkmmihadcbfkoaa
open Go.RowKit Go.Proofs.YtkmmihadcbfkoaaW.PrintWords PM
set_option linter.unusedVariables false
set_option linter.unusedSimpArgs false
theorem ask_slot {F : List Int} {S : List S50} {T : List (List Int)} (hc : checkB F S T = 0) {slot : Int} (h0 : 0 ≤ slot) (h1 : slot < S.length) : askB F S T 0 slot true false = 0 := by
  unfold askB
  rw [if_neg (fun h => h hc)]
  have : inB slot 0 ((S.length : Int) - 1) = true := by
    unfold inB
    rw [Bool.and_eq_true, decide_eq_true_eq, decide_eq_true_eq]
    omega
  rw [this]
  rfl
section
variable {F : List Int} {S : List S50} {T : List (List Int)}
theorem load_is (hc : checkB F S T = 0) (his : isF F S T = true) {slot : Nat} (hs : slot < S.length) : ∃ lo hi : Int, match_Load.f F S T (slot : Int) = some (lo, hi, 0) ∧ 0 ≤ lo ∧ lo ≤ hi ∧ hi ≤ (rd_T50 S (slot : Int)).f2 ∧ ∀ l, AsgB S T l → lo ≤ ld l (slot : Int) ∧ ld l (slot : Int) ≤ hi := by
  have h0 : match_Load.f F S T (slot : Int) = some (((lowL F S T slot (highN S T slot) 0 : Nat) : Int), ((highN S T slot : Nat) : Int), 0) := by
    unfold match_Load.f
    rw [if_neg (fun h => h (ask_slot hc (by omega) (by omega))), if_neg (by rw [his]; simp), Int.toNat_natCast]
  have hle := (lowL_le F S T slot (highN S T slot) 0).1
  refine ⟨_, _, h0, by omega, by omega, ?_, fun l hl => load_between hc hl hs⟩
  have e1 : (rd_T50 S (slot : Int)).f2 = (S.getD slot z50).f2 := by rw [rd_S]
  rw [e1]
  exact high_room hc hs
theorem loads_l0 (l : List Int) (hl : l.length ≤ 9223372036854775806) (slot low high : Int) (m : Bool) (e : Int) (r : Bool)
    (hend : Ev (fun k => if e = 0 then (if m = true then (if ld l slot < low then (laganlaw04_MatchLoads.j3 k true F S T) else (laganlaw04_MatchLoads.j3 k (decide (ld l slot > high)) F S T)) else (laganlaw04_MatchLoads.j3 k false F S T)) else (laganlaw04_MatchLoads.j3 k true F S T)) r) (d : Nat) :
    ∀ i : Nat, l.length - i = d → i ≤ l.length → Ev (fun k => laganlaw04_MatchLoads.l0 k l slot low high m e (((l.take i).count slot : Nat) : Int) (i : Int) F S T) r := by
  induction d with
  | zero =>
    intro i hd hi
    have hi' : i = l.length := by omega
    subst hi'
    rw [List.take_length]
    rw [ld_cnt] at hend
    exact Ev.into (fun k => by rw [laganlaw04_MatchLoads.l0]) (Ev.neg (by omega) hend)
  | succ d ih =>
    intro i hd hi
    have hlt : i < l.length := by omega
    have hw := wrap_pm (i := (i : Int)) (by omega) (by omega)
    have hcnt : (l.take i).count slot ≤ i := Nat.le_trans List.count_le_length (by simp; omega)
    have hw2 := wrap_pm (i := (((l.take i).count slot : Nat) : Int)) (by omega) (by omega)
    have ih' := ih (i + 1) (by omega) (by omega)
    rw [take_step l i hlt slot] at ih'
    refine Ev.into (fun k => by rw [laganlaw04_MatchLoads.l0]) (Ev.pos (by omega) (Ev.pos (by omega) ?_))
    rw [hw.1, hw2.1, rd_nat, show (i : Int) + 1 = ((i + 1 : Nat) : Int) by omega]
    by_cases h : l.getD i 0 = slot
    · rw [if_pos h] at ih'
      exact Ev.pos h ih'
    · rw [if_neg h] at ih'
      exact Ev.neg h ih'
theorem loads_l2 (a : List Int) (ha : a.length ≤ 60) (sum slot low high e : Int) (r : Bool)
    (hend : Ev (fun k => if e = 0 then (if ld a slot < low then (some false) else (if ld a slot > high then (some false) else (laganlaw04_MatchLoads.l1 k a (wrap64 (sum + ld a slot)) (wrap64 (slot + 1)) F S T))) else (some false)) r) (d : Nat) :
    ∀ i : Nat, a.length - i = d → i ≤ a.length → Ev (fun k => laganlaw04_MatchLoads.l2 k a sum slot low high e (((a.take i).count slot : Nat) : Int) (i : Int) F S T) r := by
  induction d with
  | zero =>
    intro i hd hi
    have hi' : i = a.length := by omega
    subst hi'
    rw [List.take_length]
    rw [ld_cnt] at hend
    exact Ev.into (fun k => by rw [laganlaw04_MatchLoads.l2]) (Ev.neg (by omega) hend)
  | succ d ih =>
    intro i hd hi
    have hlt : i < a.length := by omega
    have hw := wrap_pm (i := (i : Int)) (by omega) (by omega)
    have hcnt : (a.take i).count slot ≤ i := Nat.le_trans List.count_le_length (by simp; omega)
    have hw2 := wrap_pm (i := (((a.take i).count slot : Nat) : Int)) (by omega) (by omega)
    have ih' := ih (i + 1) (by omega) (by omega)
    rw [take_step a i hlt slot] at ih'
    refine Ev.into (fun k => by rw [laganlaw04_MatchLoads.l2]) (Ev.pos (by omega) (Ev.pos (by omega) ?_))
    rw [hw.1, hw2.1, rd_nat, show (i : Int) + 1 = ((i + 1 : Nat) : Int) by omega]
    by_cases h : a.getD i 0 = slot
    · rw [if_pos h] at ih'
      exact Ev.pos h ih'
    · rw [if_neg h] at ih'
      exact Ev.neg h ih'
theorem psum_small {a : List Int} (ha : a.length ≤ 60) {s : Nat} (hs : s ≤ 200) : 0 ≤ psum a s ∧ psum a s ≤ 12000 := by
  obtain ⟨h0, h1⟩ := psum_bound a s
  refine ⟨h0, Int.le_trans h1 ?_⟩
  have : (a.length : Int) * (s : Int) ≤ 60 * 200 := by
    refine Int.mul_le_mul (by omega) (by omega) (by omega) (by omega)
  omega
theorem loads_l1 (hc : checkB F S T = 0) (his : isF F S T = true) {a : List Int} (ha : AsgB S T a) (d : Nat) :
    ∀ s : Nat, S.length - s = d → s ≤ S.length → Ev (fun k => laganlaw04_MatchLoads.l1 k a (psum a s) (s : Int) F S T) true := by
  have hk := bok_of_check hc
  have hns := hk.ns
  have hlen : a.length ≤ 60 := by have := ha.len; have := hk.nt; have := hk.nf; omega
  induction d with
  | zero =>
    intro s hd hs
    have hs' : s = S.length := by omega
    subst hs'
    refine Ev.into (fun k => by rw [laganlaw04_MatchLoads.l1]) (Ev.neg (by omega) ?_)
    refine Ev.bind (nobody_is F S T) (Ev.bind matched_is (Ev.pos rfl ?_))
    have e : nobodyP F S T = (nobodyFrom T 0, 0) := if_neg (fun h => h hc)
    rw [e]
    refine Ev.pos rfl ?_
    have hps := psum_all hc ha
    have hn : (nobodyFrom T 0).length = ((List.range T.length).filter fun j => decide (T.getD j [] = [])).length := by
      unfold nobodyFrom
      rw [List.length_map, List.drop_zero]
    have hw : wrap64 ((F.length : Int) - ((nobodyFrom T 0).length : Int)) = psum a S.length := by
      have hb := psum_small hlen hns
      rw [hn, ← hps]
      unfold wrap64
      omega
    show Ev (fun _ => some (psum a S.length == wrap64 ((F.length : Int) - ((nobodyFrom T 0).length : Int)))) true
    rw [hw]
    simpa using Ev.const true
  | succ d ih =>
    intro s hd hs
    have hlt : s < S.length := by omega
    have ih' := ih (s + 1) (by omega) (by omega)
    obtain ⟨lo, hi, hL, _, _, _, hall⟩ := load_is hc his hlt
    have hb := hall a ha
    refine Ev.into (fun k => by rw [laganlaw04_MatchLoads.l1]) (Ev.pos (by omega) (Ev.bind (Ev.same hL) ?_))
    have := loads_l2 (F := F) (S := S) (T := T) a hlen (psum a s) (s : Int) lo hi 0 true (by
      refine Ev.pos rfl (Ev.neg (by omega) (Ev.neg (by omega) ?_))
      have hp := psum_small hlen (show s ≤ 200 by omega)
      have hp2 := psum_small hlen (show s + 1 ≤ 200 by omega)
      rw [psum_step] at hp2
      have w1 : wrap64 (psum a s + ld a (s : Int)) = psum a (s + 1) := by
        rw [psum_step]
        unfold wrap64
        omega
      have w2 : wrap64 ((s : Int) + 1) = ((s + 1 : Nat) : Int) := by
        unfold wrap64
        omega
      rw [w1, w2]
      exact ih') a.length 0 (by omega) (by omega)
    simpa using this
theorem loads_j3 (hc : checkB F S T = 0) (his : isF F S T = true) : Ev (fun k => laganlaw04_MatchLoads.j3 k false F S T) true := by
  have hA : match_Assign.f F S T = some (firstF F S T, true, 0) := by
    unfold match_Assign.f
    rw [if_neg (fun h => h hc), if_neg (by rw [his]; simp)]
  refine Ev.into (fun k => by rw [laganlaw04_MatchLoads.j3]) (Ev.neg (by simp) (Ev.bind (Ev.same hA) (Ev.pos rfl ?_)))
  refine Ev.into (fun k => by rw [laganlaw04_MatchLoads.j4]) (Ev.neg (by simp) ?_)
  exact loads_l1 hc his (first_asg hc his) S.length 0 (by omega) (by omega)
theorem loads_j0 (l : List Int) (hl : l.length ≤ 9223372036854775806) (slot : Int) : ∀ x, Ev (fun k => laganlaw04_MatchLoads.j0 k l slot x F S T) true
  | true => Ev.into (fun k => by rw [laganlaw04_MatchLoads.j0]) (Ev.pos rfl (Ev.bind matched_is (Ev.const true)))
  | false => by
    refine Ev.into (fun k => by rw [laganlaw04_MatchLoads.j0]) (Ev.neg (by simp) ?_)
    have bad : ∀ e : Int, e ≠ 0 → match_Load.f F S T slot = some (0, 0, e) → ∀ G : Nat → Int × Int × Int → Option Bool,
        (∀ k, G k (0, 0, e) = laganlaw04_matched.f.bind fun t559 => (if t559 = true then some true else some false)) → Ev (fun k => (match_Load.f F S T slot).bind fun a => G k a) true := by
      intro e he h1 G hG
      refine Ev.bind (Ev.same h1) ?_
      exact Ev.congr (Ev.bind (g := fun _ t559 => (if t559 = true then some true else some false)) matched_is (Ev.pos rfl (Ev.const true))) hG
    by_cases hq : askB F S T 0 slot true false = 0
    · cases his : isF F S T with
      | false =>
        refine bad 40 (by decide) ?_ _ fun k => ?_
        · unfold match_Load.f
          rw [if_neg (fun h => h hq), if_pos his]
        · rw [if_neg (by decide)]
          rfl
      | true =>
        obtain ⟨hc, _, hsl⟩ := ask_parts hq
        have h2 := hsl rfl
        obtain ⟨s, rfl⟩ : ∃ s : Nat, slot = (s : Int) := ⟨slot.toNat, by omega⟩
        have hs : s < S.length := by omega
        obtain ⟨lo, hi, hL, k0, k1, k2, hall⟩ := load_is hc his hs
        refine Ev.bind (Ev.same hL) (Ev.pos rfl ?_)
        refine Ev.neg (show ¬ lo < 0 by omega) (Ev.neg (show ¬ lo > hi by omega) (Ev.pos h2.1 (Ev.pos h2.2 ?_)))
        rw [show decide (hi > (rd_T50 S (s : Int)).f2) = false from decide_eq_false (by omega)]
        refine Ev.into (fun k => by rw [laganlaw04_MatchLoads.j1]) (Ev.neg (by simp) (Ev.bind (meets_is F S T l) ?_))
        rw [show meetsP F S T l = (meetsB F S T l, 0) from if_neg (fun h => h hc)]
        have hj3 := loads_j3 hc his
        have := loads_l0 (F := F) (S := S) (T := T) l hl (s : Int) lo hi (meetsB F S T l) 0 true (by
          refine Ev.pos rfl ?_
          by_cases hm : meetsB F S T l = true
          · have hb := hall l ((meets_iff hc l).1 hm)
            refine Ev.pos hm (Ev.neg (by omega) ?_)
            rw [decide_eq_false (by omega)]
            exact hj3
          · exact Ev.neg hm hj3) l.length 0 (by omega) (by omega)
        simpa using this
    · refine bad (askB F S T 0 slot true false) hq ?_ _ fun k => ?_
      · unfold match_Load.f
        rw [if_pos hq]
      · rw [if_neg hq]
        rfl
theorem loads_is (hF : F.length ≤ 9223372036854775807) (hS : S.length ≤ 9223372036854775807) (hT : T.length ≤ 9223372036854775807) (hr : ∀ l, l ∈ T → l.length ≤ 9223372036854775807) (l : List Int) (slot : Int) (hl : l.length ≤ 9223372036854775807) : Ev (fun k => laganlaw04_MatchLoads.f k F S T l slot) true := by
  obtain ⟨b, hb⟩ := wide_is F S T hT
  refine Ev.bind hb ?_
  by_cases h2 : (l.length : Int) > 80
  · have hj : Ev (fun k => laganlaw04_MatchLoads.j0 k l slot true F S T) true := Ev.into (fun k => by rw [laganlaw04_MatchLoads.j0]) (Ev.pos rfl (Ev.bind matched_is (Ev.const true)))
    by_cases h : b = true
    · rw [decide_eq_true h2]
      exact Ev.pos h hj
    · exact Ev.neg h hj
  · have hj := loads_j0 (F := F) (S := S) (T := T) l (by omega) slot
    by_cases h : b = true
    · exact Ev.pos h (hj _)
    · exact Ev.neg h (hj _)
end
end Go.Proofs.Ytkmmihadcbfkoaa
end

section
namespace Go.Proofs.Ytkmmihadcbfkoaa
open Go.ChangeShapes Go.WideShapes Go.RowKit Go.Deep Go.Joins Go.Proofs.YtkmmihadcbfkoaaW.PrintWords PM
set_option linter.unusedVariables false
set_option linter.unusedSimpArgs false
section
variable {H : Type} {enc : TypeId × Value → H} {W : World} {base : Nat} {held : Bool}
theorem C_of_cells {A : Option Addr} {L C : Nat} {Z : List Int} (hl : L ≤ C) (hm : C ≤ maxLen) (hz : Z.length = C) (hn : A = none → C = 0) (hc : ∀ a, A = some a → ∀ c, c < C → W.cell? (a.add c) = some (.int .i64 (Z.getD c 0))) :
    (Z.take L).length = L ∧ Kd.C (Kd.int .i64) W A L (Z.take L) := by
  have hlen : (Z.take L).length = L := by rw [List.length_take]; omega
  have hmx : maxLen = 9223372036854775807 := rfl
  refine ⟨hlen, ?_⟩
  cases A with
  | none =>
    have h0 : L = 0 := by have := hn rfl; omega
    subst h0
    exact Kd.C_nil _ _
  | some a =>
    refine Kd.C_of_reads (enc := Value.int .i64) (d := (0 : Int)) (h1 := fun _ => rfl) ⟨hlen, by omega, fun _ => ⟨a, rfl, fun j hj => ?_⟩⟩
    rw [hc a rfl j (by omega)]
    simp [List.getD_eq_getElem?_getD, List.getElem?_take, hj]
theorem open_intsC {fuel : Nat} {cs : List Value} {x : DataW H × List MemPlace} (h : DataW.trod enc Try.prog W base (fun _ => true) held fuel 22 cs = some x) :
    ∃ A c F, cs = [.slice A F.length c] ∧ F.length ≤ c ∧ Kd.C (Kd.int .i64) W A F.length F := by
  rcases open_ints Try.underlying22 Try.underlying3 (by kernel_rfl) h with ⟨rfl, _⟩ | ⟨a, len, cap, zs, rfl, _, hl, hm, hz, _, hcell, _⟩
  · exact ⟨none, 0, [], rfl, Nat.zero_le _, Kd.C_nil _ _⟩
  · simp only [if_true] at hz
    obtain ⟨e, hC⟩ := C_of_cells (W := W) (A := some a) (L := len) (C := cap) (Z := zs) hl hm hz (fun k => by cases k) (fun a' k c hc => by cases k; exact hcell c (by omega))
    exact ⟨some a, cap, zs.take len, by rw [e], by rw [e]; exact hl, by rw [e]; exact hC⟩
theorem open_rowsC {fuel : Nat} {cs : List Value} {x : DataW H × List MemPlace} (h : DataW.trod enc Try.prog W base (fun _ => true) held fuel 24 cs = some x) :
    ∃ A c T, cs = [.slice A T.length c] ∧ T.length ≤ c ∧ Kd.C (Kd.slice 3 (Kd.int .i64)) W A T.length T := by
  rcases open_int_rows Try.underlying24 Try.underlying22 Try.underlying3 (by kernel_rfl) (by kernel_rfl) h with ⟨rfl, _⟩ | ⟨a, len, cap, A, L, C, Z, rfl, _, hl, hm, _, hr⟩
  · exact ⟨none, 0, [], rfl, Nat.zero_le _, Kd.C_nil _ _⟩
  · have hmx : maxLen = 9223372036854775807 := rfl
    have hlen : ((List.range len).map fun r => (Z r).take (L r)).length = len := by simp
    refine ⟨some a, cap, (List.range len).map fun r => (Z r).take (L r), by rw [hlen], by rw [hlen]; exact hl, ?_⟩
    rw [hlen]
    refine ⟨hlen, by omega, fun _ => ⟨a, rfl, fun j p hj => ?_⟩⟩
    obtain ⟨hjl, hp⟩ := List.getElem?_eq_some_iff.1 hj
    rw [hlen] at hjl
    rw [List.getElem_map, List.getElem_range] at hp
    obtain ⟨h1, h2, h3, h4, _, h6, h7⟩ := hr j (by omega)
    obtain ⟨e, hC⟩ := C_of_cells (W := W) (A := A j) h2 h3 h4 h6 (fun a' k => (h7 a' k).2)
    rw [hp] at e hC
    refine ⟨[.slice (A j) (L j) (C j)], rfl, ⟨A j, C j, by rw [e], by rw [e]; exact h2, by rw [e]; exact hC⟩, fun i u hu => ?_⟩
    cases i with
    | zero =>
      simp only [List.getElem?_cons_zero, Option.some.injEq] at hu
      subst hu
      show W.cell? (a.add (j * 1 + 0)) = _
      rw [Nat.mul_one, Nat.add_zero]
      exact h1
    | succ i => simp at hu
set_option maxRecDepth 100000 in
theorem open_slotsC {fuel : Nat} {cs : List Value} {x : DataW H × List MemPlace} (h : DataW.trod enc Try.prog W base (fun _ => true) held fuel 23 cs = some x) :
    ∃ A c S, cs = [.slice A S.length c] ∧ S.length ≤ c ∧ Kd.C k50 W A S.length S := by
  rcases open_slice Try.underlying23 h with ⟨rfl, _⟩ | ⟨a, len, cap, m, n, D, Pl, rfl, _, hl, hm, hmm, _, hx⟩
  · exact ⟨none, 0, [], rfl, Nat.zero_le _, Kd.C_nil _ _⟩
  · simp only [if_true] at hmm
    have hmx : maxLen = 9223372036854775807 := rfl
    have hsz : Try.prog.cellsOf 50 = 3 := by kernel_rfl
    have c3 : Try.prog.cellsOf 3 = 1 := by kernel_rfl
    rw [hsz] at hx
    have each : ∀ i, i < len → ∃ s : Int × Int × Int, W.cell? (a.add (i * 3 + 0)) = some (.int .i64 s.1) ∧ W.cell? (a.add (i * 3 + 1)) = some (.int .i64 s.2.1) ∧ W.cell? (a.add (i * 3 + 2)) = some (.int .i64 s.2.2) := fun i hi => by
      obtain ⟨cs', hcs, ht⟩ := hx i (by omega)
      obtain ⟨_, hlen, hcell⟩ := World.cells?_some hcs
      obtain ⟨y0, y1, y2, n', _, _, g0, g1, g2⟩ := trod_struct3 Try.underlying50 ht
      obtain ⟨u0, u1, u2, rfl⟩ : ∃ u0 u1 u2, cs' = [u0, u1, u2] := by
        match cs', hlen with
        | [u0, u1, u2], _ => exact ⟨u0, u1, u2, rfl⟩
      obtain ⟨n0, e0, _⟩ := DataW.trod_int Try.underlying3 g0
      obtain ⟨n1, e1, _⟩ := DataW.trod_int Try.underlying3 g1
      obtain ⟨n2, e2, _⟩ := DataW.trod_int Try.underlying3 g2
      rw [c3] at e0 e1 e2
      simp only [List.drop_zero, List.drop_succ_cons, List.take_succ_cons, List.take_zero, List.cons.injEq, and_true] at e0 e1 e2
      subst e0 e1 e2
      have k0 := hcell 0 (by omega)
      have k1 := hcell 1 (by omega)
      have k2 := hcell 2 (by omega)
      rw [Deep.add_add] at k0 k1 k2
      exact ⟨(n0, n1, n2), k0, k1, k2⟩
    obtain ⟨f, hf⟩ := choose_lt (α := Int × Int × Int) each
    have hlen : ((List.range len).map fun r => (⟨(f r).1, (f r).2.1, (f r).2.2⟩ : S50)).length = len := by simp
    refine ⟨some a, cap, (List.range len).map fun r => (⟨(f r).1, (f r).2.1, (f r).2.2⟩ : S50), by rw [hlen], by rw [hlen]; exact hl, ?_⟩
    rw [hlen]
    refine ⟨hlen, by omega, fun _ => ⟨a, rfl, fun j p hj => ?_⟩⟩
    obtain ⟨hjl, hp⟩ := List.getElem?_eq_some_iff.1 hj
    rw [hlen] at hjl
    rw [List.getElem_map, List.getElem_range] at hp
    obtain ⟨h0, h1, h2⟩ := hf j hjl
    refine ⟨[.int .i64 p.f0, .int .i64 p.f1, .int .i64 p.f2], rfl, k50_mk W p, fun i u hu => ?_⟩
    subst hp
    match i, hu with
    | 0, hu => simp only [List.getElem?_cons_zero, Option.some.injEq] at hu; subst hu; exact h0
    | 1, hu => simp only [List.getElem?_cons_succ, List.getElem?_cons_zero, Option.some.injEq] at hu; subst hu; exact h1
    | 2, hu => simp only [List.getElem?_cons_succ, List.getElem?_cons_zero, Option.some.injEq] at hu; subst hu; exact h2
    | i + 3, hu => simp at hu
set_option maxRecDepth 100000 in
/-- A list of numbers that came in. -/
theorem open_listV {r : Reach} {b0 : Nat} {v : Value} {d : DataW H} {p : List MemPlace} (hv : Value.okWide Try.prog W r b0 22 v) (h : DataW.Trod enc Try.prog W base (fun _ => true) held 22 v d p) :
    ∃ A c F, v = .slice A F.length c ∧ F.length ≤ c ∧ Kd.C (Kd.int .i64) W A F.length F := by
  obtain ⟨A, n, c, rfl⟩ := okWide_slice Try.underlying22 hv
  obtain ⟨fuel, hf⟩ := h
  obtain ⟨A', c', F, e, hl, hC⟩ := open_intsC hf
  simp only [Value.cells, List.cons.injEq, Value.slice.injEq, and_true] at e
  obtain ⟨rfl, rfl, rfl⟩ := e
  exact ⟨A, c, F, rfl, hl, hC⟩
set_option maxRecDepth 100000 in
/-- A board that came in. -/
theorem open_boardV {r : Reach} {b0 : Nat} {v : Value} {d : DataW H} {p : List MemPlace} (hv : Value.okWide Try.prog W r b0 26 v) (h : DataW.Trod enc Try.prog W base (fun _ => true) held 26 v d p) :
    ∃ A0 c0 F A1 c1 S A2 c2 T, v = .agg #[.slice A0 F.length c0, .slice A1 S.length c1, .slice A2 T.length c2] ∧ Kd.C (Kd.int .i64) W A0 F.length F ∧ F.length ≤ c0 ∧ Kd.C k50 W A1 S.length S ∧ S.length ≤ c1 ∧ Kd.C (Kd.slice 3 (Kd.int .i64)) W A2 T.length T ∧ T.length ≤ c2 := by
  obtain ⟨v0, v1, v2, y0, y1, y2, n, rfl, _, _, h0, h1, h2⟩ := open_agg3 Try.underlying26 (by kernel_rfl) (by kernel_rfl) hv h
  obtain ⟨A0, c0, F, e0, l0, C0⟩ := open_intsC h0
  obtain ⟨A1, c1, S, e1, l1, C1⟩ := open_slotsC h1
  obtain ⟨A2, c2, T, e2, l2, C2⟩ := open_rowsC h2
  simp only [List.cons.injEq, and_true] at e0 e1 e2
  subst e0 e1 e2
  exact ⟨A0, c0, F, A1, c1, S, A2, c2, T, rfl, C0, l0, C1, l1, C2, l2⟩
theorem rows_short {A : Option Addr} {T : List (List Int)} (h : Kd.C (Kd.slice 3 (Kd.int .i64)) W A T.length T) : ∀ l, l ∈ T → l.length ≤ 9223372036854775807 := by
  intro l hl
  obtain ⟨j, hj, he⟩ := List.getElem_of_mem hl
  obtain ⟨ad, _, hc⟩ := h.2.2 (by omega)
  obtain ⟨c, _, ⟨A', c', _, _, hC⟩, _⟩ := hc j l (by rw [List.getElem?_eq_getElem hj, he])
  exact hC.2.1
end
end Go.Proofs.Ytkmmihadcbfkoaa
end

section
namespace Go.Proofs.Ytkmmihadcbfkoaa
open Go.ChangeShapes Go.WideShapes Go.ChangeAt Go.RowKit Go.Proofs.YtkmmihadcbfkoaaW.PrintWords PM
set_option linter.unusedVariables false
set_option linter.unusedSimpArgs false
theorem matchLoads_own : ownKnob Try.prog.godebug = none := by kernel_rfl
theorem matchLoads_laid : laidOutB Try.prog = true := by kernel_rfl
set_option maxRecDepth 100000 in
theorem matchLoads_lifted (os : Os) (started : os.Started) (H : Type) (enc : TypeId × Value → H) :
    ReturnsInHanded {} Try.checked os 6 .any (Rows.matchLoadsSpec.pre6 enc Try.prog Try.f6 Rows.matchLoadsRow.domain false) (Rows.matchLoadsSpec.post enc Try.prog Try.f6 false true false false) := by
  refine returnsInHanded_of_change (C := Try.checked) matchLoads_own started (by kernel_rfl) Try.func6
    (ChangeSpec.witness6 (enc := enc) (C := Try.checked) false ⟨#[], #[.agg #[.slice none 0 0, .slice none 0 0, .slice none 0 0], .slice none 0 0, .int .i64 0], []⟩ 8 (by kernel_rfl) (by kernel_rfl) (by kernel_rfl) (by kernel_rfl)) ?_
  intro W base args ds gs before hval0 hW hcnd _
  have hval : ∀ (j : Nat) t v, Try.f6.params[j]? = some t → args[j]? = some v → Value.okWide Try.prog W .any base t v := hval0
  have hW' := hW
  obtain ⟨p, q, hA0, hV, rfl, hfz, hnd⟩ := hW
  have hA : DataW.TrodAll enc Try.prog W 0 (fun _ => true) true Try.f6.params.toList args.toList ds p := hA0
  rw [Try.params6] at hA hval
  obtain ⟨v0, vs0, d0, ds0, p0, q0, hargs, rfl, rfl, h0, r0⟩ := trodAll_cons hA
  obtain ⟨v1, vs1, d1, ds1, p1, q1, rfl, rfl, rfl, h1, r1⟩ := trodAll_cons r0
  obtain ⟨v2, vs2, d2, ds2, p2, q2, rfl, rfl, rfl, h2, r2⟩ := trodAll_cons r1
  obtain ⟨rfl, rfl, rfl⟩ := trodAll_nil r2
  obtain rfl : args = #[v0, v1, v2] := by cases args; simp_all
  obtain ⟨rfl, rfl⟩ := trodVars_none hV
  have k0 := h0
  have lt0 : ∀ x ∈ p0, x.block < W.heap.size := by obtain ⟨m, hm⟩ := k0; exact DataW.trod_lt m _ _ _ hm
  obtain ⟨A0a, c0a, F, A0b, c0b, S, A0c, c0c, T, rfl, Ca, la, Cb, lb, Cc, lc⟩ := open_boardV (hval 0 26 v0 rfl rfl) h0
  have k1 := h1
  have lt1 : ∀ x ∈ p1, x.block < W.heap.size := by obtain ⟨m, hm⟩ := k1; exact DataW.trod_lt m _ _ _ hm
  obtain ⟨A1, c1, x1, rfl, l1, C1⟩ := open_listV (hval 1 22 v1 rfl rfl) h1
  obtain ⟨x2, rfl, rfl, rfl, w2⟩ := open_int Try.underlying3 (hval 2 3 v2 rfl rfl) h2
  clear hA0 hval0
  obtain ⟨K, hK⟩ := loads_is (F := F) Ca.2.1 Cb.2.1 Cc.2.1 (rows_short Cc) x1 x2 C1.2.1
  refine (laganlaw04_MatchLoads.calls K A0a c0a F A0b c0b S A0c c0c T A1 c1 x1 x2 true W Ca la Cb lb Cc lc C1 l1 (hK K (Nat.le_refl _))).mono fun e W' ⟨he, bel⟩ => ?_
  subst he
  exact ⟨_, rfl, _, _, _, [], _, [], hW', trodAll_mk1 (shut_bool Try.underlying4 _), (trodAll_cons_mk (Below.trod matchLoads_laid (by kernel_rfl) (of_decide_eq_true (by kernel_rfl)) k0 bel lt0) (trodAll_cons_mk (Below.trod matchLoads_laid (by kernel_rfl) (of_decide_eq_true (by kernel_rfl)) k1 bel lt1) (trodAll_cons_mk (shut_int Try.underlying3 w2) trodAll_mk0))), rfl, bel.frame _, fun h => by cases h⟩
theorem matchLoads_holds : Rows.MatchLoadsSaid :=
  OpenClaim.holds_of_wide 6 Try.f6 rfl rfl rfl rfl rfl rfl rfl ⟨rfl, rfl, rfl, rfl, rfl⟩ rfl rfl rfl rfl rfl (by kernel_rfl) Try.func6 (by kernel_rfl)
    (of_decide_eq_true (by kernel_rfl)) (by unfold Func.isWrapper; first | (rw [if_pos (by decide +kernel)]; kernel_rfl) | (rw [if_neg (by decide +kernel)]; exact ⟨rfl, rfl⟩))
    (fun os started H enc _ => matchLoads_lifted os started H enc)
#print axioms matchLoads_holds
end Go.Proofs.Ytkmmihadcbfkoaa
end
