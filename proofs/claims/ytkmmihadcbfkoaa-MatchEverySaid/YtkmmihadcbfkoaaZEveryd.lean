/-
  MatchEvery holds: for every board, two lists and find, the law returns true and what it is given reads as it did. (part 4 of 4 of the texts that it stands on)
-/
import Derived.Lib.SmallJoins
import Derived.Deep.Matrix
import Derived.Deep.Slices
import Derived.Deep.Strs
import Derived.ChangeSlices
import Derived.ProofKit
import Derived.OpenShut
import Derived.ChangeOld
import Derived.Below
import Derived.WalkKit
import Derived.Test.YtkmmihadcbfkoaaRows
import Derived.Test.YtkmmihadcbfkoaaZEveryc
section
namespace Go.Proofs.Ytkmmihadcbfkoaa
open Go.RowKit Go.Proofs.YtkmmihadcbfkoaaW.PrintWords PM
set_option linter.unusedVariables false
set_option linter.unusedSimpArgs false
theorem fits2_world (w : World) (o : Obj) :
    ∃ W, (((((w.alloc o).alloc (.cells #[.int .i64 0] 3)).alloc (.cells #[.int .i64 0] 3)).alloc (.cells #[.int .i64 0, .int .i64 1] 3)).alloc
      (.cells #[.slice (some ⟨w.heap.size + 1, 0, none⟩) 1 1, .slice (some ⟨w.heap.size + 1 + 1, 0, none⟩) 1 1, .slice (some ⟨w.heap.size + 1 + 1 + 1, 0, none⟩) 2 2] 22)) = W ∧
      Below w.heap.size w W ∧ Kd.C (Kd.slice 3 (Kd.int .i64)) W (some ⟨w.heap.size + 1 + 1 + 1 + 1, 0, none⟩) bdT2.length bdT2 := by
  have hB : Below w.heap.size w (((((w.alloc o).alloc (.cells #[.int .i64 0] 3)).alloc (.cells #[.int .i64 0] 3)).alloc (.cells #[.int .i64 0, .int .i64 1] 3)).alloc
      (.cells #[.slice (some ⟨w.heap.size + 1, 0, none⟩) 1 1, .slice (some ⟨w.heap.size + 1 + 1, 0, none⟩) 1 1, .slice (some ⟨w.heap.size + 1 + 1 + 1, 0, none⟩) 2 2] 22)) := by
    repeat (first | exact Below.refl _ _ | refine below_alloc ?_ _)
  refine ⟨_, rfl, hB, ?_⟩
  obtain ⟨W, hW⟩ : ∃ W, (((((w.alloc o).alloc (.cells #[.int .i64 0] 3)).alloc (.cells #[.int .i64 0] 3)).alloc (.cells #[.int .i64 0, .int .i64 1] 3)).alloc
      (.cells #[.slice (some ⟨w.heap.size + 1, 0, none⟩) 1 1, .slice (some ⟨w.heap.size + 1 + 1, 0, none⟩) 1 1, .slice (some ⟨w.heap.size + 1 + 1 + 1, 0, none⟩) 2 2] 22)) = W := ⟨_, rfl⟩
  have e1 : W.heap[w.heap.size + 1]? = some (.cells #[.int .i64 0] 3 (0, 0)) := by
    rw [← hW]
    repeat (first | exact blk_new _ _ | (refine (congrArg _ ?_).trans (blk_new _ _); simp only [World.size_alloc]; done) | refine blk_alloc ?_ _)
  have e2 : W.heap[w.heap.size + 1 + 1]? = some (.cells #[.int .i64 0] 3 (0, 0)) := by
    rw [← hW]
    repeat (first | exact blk_new _ _ | (refine (congrArg _ ?_).trans (blk_new _ _); simp only [World.size_alloc]; done) | refine blk_alloc ?_ _)
  have e3 : W.heap[w.heap.size + 1 + 1 + 1]? = some (.cells #[.int .i64 0, .int .i64 1] 3 (0, 0)) := by
    rw [← hW]
    repeat (first | exact blk_new _ _ | (refine (congrArg _ ?_).trans (blk_new _ _); simp only [World.size_alloc]; done) | refine blk_alloc ?_ _)
  have e4 : W.heap[w.heap.size + 1 + 1 + 1 + 1]? = some (.cells #[.slice (some ⟨w.heap.size + 1, 0, none⟩) 1 1, .slice (some ⟨w.heap.size + 1 + 1, 0, none⟩) 1 1, .slice (some ⟨w.heap.size + 1 + 1 + 1, 0, none⟩) 2 2] 22 (0, 0)) := by
    rw [← hW]
    repeat (first | exact blk_new _ _ | (refine (congrArg _ ?_).trans (blk_new _ _); simp only [World.size_alloc]; done) | refine blk_alloc ?_ _)
  rw [hW]
  have r0 := rowC (l := [0]) e1 (by decide) (fun j v hv => by
    match j, hv with
    | 0, hv => have : (0 : Int) = v := by simpa using hv
               subst this; rfl)
  have r1 := rowC (l := [0]) e2 (by decide) (fun j v hv => by
    match j, hv with
    | 0, hv => have : (0 : Int) = v := by simpa using hv
               subst this; rfl)
  have r2 := rowC (l := [0, 1]) e3 (by decide) (fun j v hv => by
    match j, hv with
    | 0, hv => have : (0 : Int) = v := by simpa using hv
               subst this; rfl
    | 1, hv => have : (1 : Int) = v := by simpa using hv
               subst this; rfl)
  refine rowsC e4 (by decide) (fun j v hv => ?_)
  match j, hv with
  | 0, hv => have : ([0] : List Int) = v := by simpa [bdT2] using hv
             subst this; exact ⟨_, _, rfl, by decide, r0⟩
  | 1, hv => have : ([0] : List Int) = v := by simpa [bdT2] using hv
             subst this; exact ⟨_, _, rfl, by decide, r1⟩
  | 2, hv => have : ([0, 1] : List Int) = v := by simpa [bdT2] using hv
             subst this; exact ⟨_, _, rfl, by decide, r2⟩
  | n + 3, hv => simp [bdT2] at hv
/-- A list as said, beside a new one of the same numbers. -/
theorem same_calls {A : Option Addr} {c : Nat} {l : List Int} {w : World} (hr : Kd.C (Kd.int .i64) w A l.length l) (hc : l.length ≤ c) (hf : laganref04_SameInts.f 5 l l = some true) (hl : l.length ≤ 100) :
    Calls Try.prog 22 #[.slice A l.length c, .slice (some ⟨w.heap.size, 0, none⟩) l.length l.length] (w.alloc (.cells (l.map (Value.int .i64)).toArray 3)) fun e w' => e = .returned (.bool true) ∧ Below w.heap.size w w' := by
  have hb := (Below.refl w.heap.size w).alloc (Nat.le_refl _) (.cells (l.map (Value.int .i64)).toArray 3)
  refine (laganref04_SameInts.calls 5 A c l (some ⟨w.heap.size, 0, none⟩) l.length l true _ (Kd.C_below hr hb) hc (rowC (World.alloc_heap_new w _) (by omega) (fun j v hv => by simp [hv])) (Nat.le_refl _) hf).mono ?_
  rintro e w' ⟨rfl, hd⟩
  exact ⟨rfl, hb.trans (hd.below.mono hb.size)⟩
set_option maxRecDepth 100000 in
set_option maxHeartbeats 8000000 in
theorem matched_walk (w : World) : Calls Try.prog 14 #[] w fun e w' => e = .returned (.bool true) ∧ Below w.heap.size w w' := by
  go_enter Try.func14, Try.ntmps14
  go_wp2_with fail
  refine (board_calls 1 _).mono ?_
  rintro e w1 ⟨A0, c0, A1, c1, A2, c2, rfl, hc0, hc1, hc2, h0, h1, h2, hb1⟩
  have AC := PM.match_Assign.calls A0 c0 bdF A1 c1 (bdS 1) A2 c2 bdT _ _ _ w1 h0 hc0 h1 hc1 h2 hc2 bd_assign
  have HB1 := Go.Lib.hid hb1
  clear hc0 hc1 hc2 h0 h1 h2 hb1
  go_wp2_with fail
  refine AC.mono ?_
  clear AC
  rintro e w2 ⟨va, rfl, hRa, hb2⟩
  obtain ⟨Aa, ca, rfl, hla, hCa⟩ := Kd.R_reads hRa
  have HB2 := Go.Lib.hid (HB1.out.trans (hb2.mono HB1.out.size))
  have HCa := Go.Lib.hid hCa
  clear hRa hb2 hCa HB1
  go_wp2_with fail
  refine (board_calls 1 _).mono ?_
  rintro e w3 ⟨A0, c0, A1, c1, A2, c2, rfl, hc0, hc1, hc2, h0, h1, h2, hb3⟩
  have MC := PM.match_Must.calls 5 A0 c0 bdF A1 c1 (bdS 1) A2 c2 bdT _ _ w3 h0 hc0 h1 hc1 h2 hc2 bd_must1
  have HB3 := Go.Lib.hid (HB2.out.trans (hb3.mono HB2.out.size))
  have HCa3 := Go.Lib.hid (Kd.C_below HCa.out hb3)
  clear hc0 hc1 hc2 h0 h1 h2 hb3 HB2 HCa
  go_wp2_with fail
  refine MC.mono ?_
  clear MC
  rintro e w4 ⟨vb, rfl, hRb, hb4⟩
  obtain ⟨Ab, cb, rfl, hlb, hCb⟩ := Kd.R_reads hRb
  have HB4 := Go.Lib.hid (HB3.out.trans (hb4.mono HB3.out.size))
  have HCa4 := Go.Lib.hid (Kd.C_below HCa3.out hb4)
  have HCb4 := Go.Lib.hid hCb
  clear hRb hb4 hCb HB3 HCa3
  go_wp2_with fail
  refine (board_calls 2 _).mono ?_
  rintro e w5 ⟨A0, c0, A1, c1, A2, c2, rfl, hc0, hc1, hc2, h0, h1, h2, hb5⟩
  have MC := PM.match_Must.calls 5 A0 c0 bdF A1 c1 (bdS 2) A2 c2 bdT _ _ w5 h0 hc0 h1 hc1 h2 hc2 bd_must2
  have HB5 := Go.Lib.hid (HB4.out.trans (hb5.mono HB4.out.size))
  have HCa5 := Go.Lib.hid (Kd.C_below HCa4.out hb5)
  have HCb5 := Go.Lib.hid (Kd.C_below HCb4.out hb5)
  clear hc0 hc1 hc2 h0 h1 h2 hb5 HB4 HCa4 HCb4
  go_wp2_with fail
  refine MC.mono ?_
  clear MC
  rintro e w6 ⟨vc, rfl, hRc, hb6⟩
  obtain ⟨Ac, cc, rfl, hlc, hCc⟩ := Kd.R_reads hRc
  have HB6 := Go.Lib.hid (HB5.out.trans (hb6.mono HB5.out.size))
  have HCa6 := Go.Lib.hid (Kd.C_below HCa5.out hb6)
  have HCb6 := Go.Lib.hid (Kd.C_below HCb5.out hb6)
  have HCc6 := Go.Lib.hid hCc
  clear hRc hb6 hCc HB5 HCa5 HCb5
  go_wp2_with fail
  refine (board_calls 1 _).mono ?_
  rintro e w7 ⟨A0, c0, A1, c1, A2, c2, rfl, hc0, hc1, hc2, h0, h1, h2, hb7⟩
  have RC := PM.match_Refuse.calls A0 c0 bdF A1 c1 (bdS 1) A2 c2 bdT 2 1 _ _ _ w7 h0 hc0 h1 hc1 h2 hc2 bd_refuse
  have HB7 := Go.Lib.hid (HB6.out.trans (hb7.mono HB6.out.size))
  have HCa7 := Go.Lib.hid (Kd.C_below HCa6.out hb7)
  have HCb7 := Go.Lib.hid (Kd.C_below HCb6.out hb7)
  have HCc7 := Go.Lib.hid (Kd.C_below HCc6.out hb7)
  clear hc0 hc1 hc2 h0 h1 h2 hb7 HB6 HCa6 HCb6 HCc6
  go_wp2_with fail
  refine RC.mono ?_
  clear RC
  rintro e w8 ⟨vd, rfl, hRd, hb8⟩
  obtain ⟨Ad, cd, rfl, hld, hCd⟩ := Kd.R_reads hRd
  have HB8 := Go.Lib.hid (HB7.out.trans (hb8.mono HB7.out.size))
  have HC8 := Go.Lib.hid (And.intro (Kd.C_below HCa7.out hb8) (And.intro (Kd.C_below HCb7.out hb8) (And.intro (Kd.C_below HCc7.out hb8) hCd)))
  clear hRd hb8 hCd HB7 HCa7 HCb7 HCc7
  go_wp2_with fail
  refine (board_calls 2 _).mono ?_
  rintro e w9 ⟨A0, c0, A1, c1, A2, c2, rfl, hc0, hc1, hc2, h0, h1, h2, hb9⟩
  have LC := PM.match_Load.calls A0 c0 bdF A1 c1 (bdS 2) A2 c2 bdT 0 _ _ _ w9 h0 hc0 h1 hc1 h2 hc2 bd_load
  have HB9 := Go.Lib.hid (HB8.out.trans (hb9.mono HB8.out.size))
  have HC9 := Go.Lib.hid (And.intro (Kd.C_below HC8.out.1 hb9) (And.intro (Kd.C_below HC8.out.2.1 hb9) (And.intro (Kd.C_below HC8.out.2.2.1 hb9) (Kd.C_below HC8.out.2.2.2 hb9))))
  clear hc0 hc1 hc2 h0 h1 h2 hb9 HB8 HC8
  go_wp2_with fail
  refine LC.mono ?_
  clear LC
  rintro e w10 ⟨rfl, hb10⟩
  have HB10 := Go.Lib.hid (HB9.out.trans (hb10.mono HB9.out.size))
  have HC10 := Go.Lib.hid (And.intro (Kd.C_below HC9.out.1 hb10) (And.intro (Kd.C_below HC9.out.2.1 hb10) (And.intro (Kd.C_below HC9.out.2.2.1 hb10) (Kd.C_below HC9.out.2.2.2 hb10))))
  clear hb10 HB9 HC9
  go_wp2_with fail
  refine (board_calls 1 _).mono ?_
  rintro e w11 ⟨A0, c0, A1, c1, A2, c2, rfl, hc0, hc1, hc2, h0, h1, h2, hb11⟩
  have HB11 := Go.Lib.hid (HB10.out.trans (hb11.mono HB10.out.size))
  have HC11 := Go.Lib.hid (And.intro (Kd.C_below HC10.out.1 hb11) (And.intro (Kd.C_below HC10.out.2.1 hb11) (And.intro (Kd.C_below HC10.out.2.2.1 hb11) (Kd.C_below HC10.out.2.2.2 hb11))))
  have HD := Go.Lib.hid (And.intro h0 h1)
  clear hc2 h0 h1 h2 hb11 HB10 HC10
  go_wp2_with fail
  obtain ⟨W12, hW12, hb12, hT2⟩ := fits2_world w11 (.cells #[.slice A0 bdF.length c0, .slice A1 (bdS 1).length c1, .slice (some ⟨w11.heap.size + 1 + 1 + 1 + 1, 0, none⟩) 3 3] 26)
  rw [hW12]
  have HC := PM.match_Hall.calls A0 c0 bdF A1 c1 (bdS 1) _ 3 bdT2 _ _ _ W12 (Kd.C_below HD.out.1 hb12) hc0 (Kd.C_below HD.out.2 hb12) hc1 hT2 (by decide) bd_hall
  have HB12 := Go.Lib.hid (HB11.out.trans (hb12.mono HB11.out.size))
  have HC12 := Go.Lib.hid (And.intro (Kd.C_below HC11.out.1 hb12) (And.intro (Kd.C_below HC11.out.2.1 hb12) (And.intro (Kd.C_below HC11.out.2.2.1 hb12) (Kd.C_below HC11.out.2.2.2 hb12))))
  clear hW12 hb12 hT2 HD HB11 HC11 hc0 hc1
  refine HC.mono ?_
  clear HC
  rintro e w13 ⟨vk, rfl, hRk, hb13⟩
  obtain ⟨Ak, ck, rfl, hlk, _⟩ := Kd.R_reads hRk
  have HB13 := Go.Lib.hid (HB12.out.trans (hb13.mono HB12.out.size))
  have HC13 := Go.Lib.hid (And.intro (Kd.C_below HC12.out.1 hb13) (And.intro (Kd.C_below HC12.out.2.1 hb13) (And.intro (Kd.C_below HC12.out.2.2.1 hb13) (Kd.C_below HC12.out.2.2.2 hb13))))
  clear hRk hb13 HB12 HC12
  have SA := same_calls HC13.out.1 hla (by kernel_rfl) (by decide)
  go_wp2_with fail
  refine SA.mono ?_
  clear SA
  rintro e w14 ⟨rfl, hb14⟩
  have HB14 := Go.Lib.hid (HB13.out.trans (hb14.mono HB13.out.size))
  have SB := same_calls (Kd.C_below HC13.out.2.1 hb14) hlb (by kernel_rfl) (by decide)
  have HC14 := Go.Lib.hid (And.intro (Kd.C_below HC13.out.2.2.1 hb14) (Kd.C_below HC13.out.2.2.2 hb14))
  clear hb14 HB13 HC13
  go_wp2_with fail
  refine SB.mono ?_
  clear SB
  rintro e w15 ⟨rfl, hb15⟩
  have HB15 := Go.Lib.hid (HB14.out.trans (hb15.mono HB14.out.size))
  have SC := same_calls (Kd.C_below HC14.out.1 hb15) hlc (by kernel_rfl) (by decide)
  have HC15 := Go.Lib.hid (Kd.C_below HC14.out.2 hb15)
  clear hb15 HB14 HC14
  go_wp2_with fail
  refine SC.mono ?_
  clear SC
  rintro e w16 ⟨rfl, hb16⟩
  have HB16 := Go.Lib.hid (HB15.out.trans (hb16.mono HB15.out.size))
  have SD := same_calls (Kd.C_below HC15.out hb16) hld (by kernel_rfl) (by decide)
  clear hb16 HB15 HC15
  go_wp2_with fail
  refine SD.mono ?_
  clear SD
  rintro e w17 ⟨rfl, hb17⟩
  have HB17 := Go.Lib.hid (HB16.out.trans (hb17.mono HB16.out.size))
  clear hb17 HB16
  go_wp2_with fail
  go_ret
  exact ⟨rfl, HB17.out⟩
end Go.Proofs.Ytkmmihadcbfkoaa
end

section
namespace Go.Proofs.Ytkmmihadcbfkoaa
open Go.RowKit Go.Proofs.YtkmmihadcbfkoaaW.PrintWords PM
set_option linter.unusedVariables false
set_option linter.unusedSimpArgs false
theorem Ev.same {α : Type} {x : Option α} {r : α} (h : x = some r) : Ev (fun _ => x) r := ⟨0, fun _ _ => h⟩
theorem ask_slot {F : List Int} {S : List S50} {T : List (List Int)} (hc : checkB F S T = 0) {slot : Int} (h0 : 0 ≤ slot) (h1 : slot < S.length) : askB F S T 0 slot true false = 0 := by
  unfold askB
  rw [if_neg (fun h => h hc)]
  have : inB slot 0 ((S.length : Int) - 1) = true := by
    unfold inB
    rw [Bool.and_eq_true, decide_eq_true_eq, decide_eq_true_eq]
    omega
  rw [this]
  rfl
end Go.Proofs.Ytkmmihadcbfkoaa
end

section
namespace Go.Proofs.Ytkmmihadcbfkoaa
open Go.RowKit Go.Proofs.YtkmmihadcbfkoaaW.PrintWords PM
set_option linter.unusedVariables false
set_option linter.unusedSimpArgs false
/-- The one chance that there is alone, of each find. -/
def mustL (L : List (List Int)) : List Int := L.map fun c => if c.length = 1 then c.getD 0 0 else -1
section
variable {F : List Int} {S : List S50} {T : List (List Int)}
theorem must_ev (L : List (List Int)) (hL : L.length ≤ 1000) (m : Nat) : ∀ (i : Nat) (acc : List Int), L.length - i = m → i ≤ L.length → acc.length ≤ i → Ev (fun k => match_Must.l0 k acc L (L.length : Int) (i : Int)) (acc ++ mustL (L.drop i), 0) := by
  induction m with
  | zero =>
    intro i acc hm hi ha
    rw [List.drop_of_length_le (by omega)]
    exact Ev.into (fun k => by rw [match_Must.l0]) (Ev.neg (by omega) (by simpa [mustL] using Ev.const (acc, (0 : Int))))
  | succ m ih =>
    intro i acc hm hi ha
    have hlt : i < L.length := by omega
    have hw := wrap_pm (i := (i : Int)) (by omega) (by omega)
    have hrd : rd_L1 L (i : Int) = L[i] := by simp [rd_L1, List.getD_eq_getElem?_getD, List.getElem?_eq_getElem hlt]
    have hacc : acc.length < 17592186044416 := by omega
    have hi7 : (i : Int) + 1 = ((i + 1 : Nat) : Int) := by omega
    rw [List.drop_eq_getElem_cons hlt]
    have hcons : mustL (L[i] :: L.drop (i + 1)) = (if L[i].length = 1 then L[i].getD 0 0 else -1) :: mustL (L.drop (i + 1)) := rfl
    rw [hcons]
    refine Ev.into (fun k => by rw [match_Must.l0]) (Ev.pos (by omega) (Ev.pos (by omega) (Ev.pos (by omega) ?_)))
    rw [hrd, hw.1, hi7]
    have step : ∀ x : Int, Ev (fun k => match_Must.l0 k (acc ++ [x]) L (L.length : Int) ((i + 1 : Nat) : Int)) (acc ++ x :: mustL (L.drop (i + 1)), 0) := fun x => by
      have := ih (i + 1) (acc ++ [x]) (by omega) (by omega) (by simp; omega)
      rwa [List.append_assoc] at this
    by_cases h : L[i].length = 1
    · rw [if_pos h]
      exact Ev.pos (by omega) (Ev.pos (by omega) (Ev.pos hacc (step _)))
    · rw [if_neg h]
      exact Ev.neg (by omega) (Ev.pos hacc (step _))
theorem must_is (hc : checkB F S T = 0) (his : isF F S T = true) : Ev (fun k => match_Must.f k F S T) (mustL (allChances F S T), 0) := by
  have hC : match_Chances.f F S T = some (allChances F S T, 0) := by
    unfold match_Chances.f
    rw [if_neg (fun h => h hc), if_neg (by rw [his]; simp)]
  have hl : (allChances F S T).length ≤ 1000 := by
    have := (bok_of_check hc).nf
    simp [allChances]; omega
  refine Ev.bind (Ev.same hC) (Ev.pos rfl ?_)
  have := must_ev (allChances F S T) hl (allChances F S T).length 0 [] (by omega) (by omega) (by simp)
  simpa using this
theorem must_bad {e : Int} (he : e ≠ 0) (h : match_Chances.f F S T = some ([], e)) : Ev (fun k => match_Must.f k F S T) ([], e) :=
  Ev.bind (Ev.same h) (Ev.neg he (Ev.const _))
end
end Go.Proofs.Ytkmmihadcbfkoaa
end

section
namespace Go.Proofs.Ytkmmihadcbfkoaa
open Go.RowKit Go.Proofs.YtkmmihadcbfkoaaW.PrintWords PM
set_option linter.unusedVariables false
set_option linter.unusedSimpArgs false
section
variable {F : List Int} {S : List S50} {T : List (List Int)}
theorem ask_bad (hq : checkB F S T ≠ 0) (find slot : Int) (g0 g1 : Bool) : askB F S T find slot g0 g1 = checkB F S T := by
  unfold askB
  rw [if_pos hq]
theorem ask_out (hc : checkB F S T = 0) {slot : Int} (h : slot < 0 ∨ slot ≥ (S.length : Int)) : askB F S T 0 slot true false = 1 := by
  unfold askB
  rw [if_neg (fun k => k hc)]
  have : inB slot 0 ((S.length : Int) - 1) = false := by
    unfold inB
    rcases h with h | h
    · rw [decide_eq_false (show ¬ 0 ≤ slot by omega)]; rfl
    · rw [decide_eq_false (show ¬ slot ≤ (S.length : Int) - 1 by omega), Bool.and_false]
  rw [this]
  rfl
theorem all_A (hq : checkB F S T ≠ 0) (slot : Int) : match_Assign.f F S T = some ([], false, checkB F S T) ∧ match_Chances.f F S T = some ([], checkB F S T) ∧ (∃ K, match_Must.f K F S T = some ([], checkB F S T)) ∧ match_Load.f F S T slot = some (0, 0, checkB F S T) := by
  have hC : match_Chances.f F S T = some ([], checkB F S T) := if_pos hq
  obtain ⟨K, hK⟩ := must_bad hq hC
  refine ⟨if_pos hq, hC, ⟨K, hK K (Nat.le_refl _)⟩, ?_⟩
  unfold match_Load.f
  rw [ask_bad hq, if_pos hq]
theorem all_B (hc : checkB F S T = 0) (his : isF F S T = false) (slot : Int) : match_Assign.f F S T = some ([], false, 0) ∧ match_Chances.f F S T = some ([], 40) ∧ (∃ K, match_Must.f K F S T = some ([], 40)) ∧
    ∃ h, match_Load.f F S T slot = some (0, 0, h) ∧ (slot < 0 ∨ slot ≥ (S.length : Int) → h = 1) ∧ (¬ (slot < 0 ∨ slot ≥ (S.length : Int)) → h = 40) := by
  have hC : match_Chances.f F S T = some ([], 40) := by
    unfold match_Chances.f
    rw [if_neg (fun k => k hc), if_pos his]
  obtain ⟨K, hK⟩ := must_bad (by decide) hC
  refine ⟨?_, hC, ⟨K, hK K (Nat.le_refl _)⟩, ?_⟩
  · unfold match_Assign.f
    rw [if_neg (fun k => k hc), if_pos his]
  · by_cases ho : slot < 0 ∨ slot ≥ (S.length : Int)
    · refine ⟨1, ?_, fun _ => rfl, fun k => absurd ho k⟩
      unfold match_Load.f
      rw [ask_out hc ho, if_pos (by decide)]
    · refine ⟨40, ?_, fun k => absurd k ho, fun _ => rfl⟩
      unfold match_Load.f
      rw [ask_slot hc (by omega) (by omega), if_neg (fun k => k rfl), if_pos his]
theorem all_C (hc : checkB F S T = 0) (his : isF F S T = true) (slot : Int) : match_Assign.f F S T = some (firstF F S T, true, 0) ∧ match_Chances.f F S T = some (allChances F S T, 0) ∧ (∃ K, match_Must.f K F S T = some (mustL (allChances F S T), 0)) ∧
    ∃ lo hi h, match_Load.f F S T slot = some (lo, hi, h) ∧ (slot < 0 ∨ slot ≥ (S.length : Int) → lo = 0 ∧ hi = 0 ∧ h = 1) ∧
      (¬ (slot < 0 ∨ slot ≥ (S.length : Int)) → h = 0 ∧ minc (allB S T) slot (allB S T).length = lo ∧ maxc (allB S T) slot (allB S T).length = hi) := by
  obtain ⟨K, hK⟩ := must_is hc his
  refine ⟨?_, ?_, ⟨K, hK K (Nat.le_refl _)⟩, ?_⟩
  · unfold match_Assign.f
    rw [if_neg (fun h => h hc), if_neg (by rw [his]; simp)]
  · unfold match_Chances.f
    rw [if_neg (fun h => h hc), if_neg (by rw [his]; simp)]
  · by_cases ho : slot < 0 ∨ slot ≥ (S.length : Int)
    · refine ⟨0, 0, 1, ?_, fun _ => ⟨rfl, rfl, rfl⟩, fun k => absurd ho k⟩
      unfold match_Load.f
      rw [ask_out hc ho, if_pos (by decide)]
    · obtain ⟨s, rfl⟩ : ∃ s : Nat, slot = (s : Int) := ⟨slot.toNat, by omega⟩
      have hs : s < S.length := by omega
      obtain ⟨e1, e2⟩ := load_eq hc his hs
      refine ⟨_, _, 0, ?_, fun k => absurd k ho, fun _ => ⟨rfl, e1, e2⟩⟩
      unfold match_Load.f
      rw [if_neg (fun h => h (ask_slot hc (by omega) (by omega))), if_neg (by rw [his]; simp), Int.toNat_natCast]
theorem chances_small (hc : checkB F S T = 0) : (allChances F S T).length = F.length ∧ (∀ l, l ∈ allChances F S T → l.length ≤ 9223372036854775807) := by
  have hk := bok_of_check hc
  refine ⟨by simp [allChances], fun l hl => ?_⟩
  unfold allChances at hl
  obtain ⟨f, hf, rfl⟩ := List.mem_map.1 hl
  have h1 := List.mem_range.1 hf
  have := hk.row f (by rw [hk.nt]; exact h1)
  unfold chancesF
  exact Nat.le_trans (List.length_filter_le _ _) (by omega)
theorem must_at (L : List (List Int)) {i : Nat} (h : i < L.length) : (mustL L).getD i 0 = if (L.getD i []).length = 1 then (L.getD i []).getD 0 0 else -1 := by
  unfold mustL
  rw [List.getD_eq_getElem?_getD, List.getElem?_map, List.getElem?_eq_getElem h]
  have e : L.getD i [] = L[i] := by rw [List.getD_eq_getElem?_getD, List.getElem?_eq_getElem h]; rfl
  rw [e]
  rfl
end
end Go.Proofs.Ytkmmihadcbfkoaa
end

section
namespace Go.Proofs.Ytkmmihadcbfkoaa
open Go.RowKit Go.Proofs.YtkmmihadcbfkoaaW.PrintWords PM
set_option linter.unusedVariables false
set_option linter.unusedSimpArgs false
def PM.match_Through.f (F : List Int) (S : List S50) (T : List (List Int)) (find slot : Int) : Option (List Int × Bool × Int) :=
  if askB F S T find slot false false ≠ 0 then some ([], false, askB F S T find slot false false)
  else if isF F S T = false then some ([], false, 40)
  else some ((withF T (rooms S) S.length (hasF F S T) find.toNat slot).has, (withF T (rooms S) S.length (hasF F S T) find.toNat slot).ok, 0)
set_option maxRecDepth 100000 in
set_option maxHeartbeats 8000000 in
theorem through_walk (A0 : Option Addr) (c0 : Nat) (F : List Int) (A1 : Option Addr) (c1 : Nat) (S : List S50) (A2 : Option Addr) (c2 : Nat) (T : List (List Int)) (find slot : Int) (r1 : List Int) (r2 : Bool) (r3 : Int) (w : World)
    (hr0 : Kd.C (Kd.int .i64) w A0 F.length F) (hc0 : F.length ≤ c0) (hr1 : Kd.C k50 w A1 S.length S) (hr2 : Kd.C (Kd.slice 3 (Kd.int .i64)) w A2 T.length T) (h : match_Through.f F S T find slot = some (r1, r2, r3)) :
    Calls Try.prog 30 #[.agg #[.slice A0 F.length c0, .slice A1 S.length c1, .slice A2 T.length c2], .int .i64 find, .int .i64 slot] w (LBE r1 r2 r3 w) := by
  have hB0 := (Below.refl w.heap.size w).alloc (Nat.le_refl _) (.cells #[.slice A0 F.length c0, .slice A1 S.length c1, .slice A2 T.length c2] 26)
  have CB := both_calls A0 c0 F A1 c1 S A2 c2 T find slot _ (Kd.C_below hr0 hB0) hc0 (Kd.C_below hr1 hB0) (Kd.C_below hr2 hB0)
  unfold match_Through.f at h
  obtain ⟨q, hq⟩ : ∃ q, askB F S T find slot false false = q := ⟨_, rfl⟩
  rw [hq] at h CB
  have HB0 := Go.Lib.hid hB0
  have HR := Go.Lib.hid (And.intro hr1 hr2)
  have HQ := Go.Lib.hid hq
  have HH := Go.Lib.hid h
  clear hr0 hr1 hr2 hB0 hq h
  go_enter Try.func30, Try.ntmps30
  go_wp2_with fail
  refine CB.mono ?_
  clear CB
  rintro e w1 ⟨rfl, hB1⟩
  have b1 : w1.heap[w.heap.size]? = some (.cells #[.slice A0 F.length c0, .slice A1 S.length c1, .slice A2 T.length c2] 26 (0, 0)) := by
    rw [hB1.block w.heap.size (by simp)]
    exact World.alloc_heap_new w _
  have hW1 : Below w.heap.size w w1 := HB0.out.trans (hB1.mono HB0.out.size)
  have k0 := cell_of_heap b1 (j := 0) rfl
  have k1 := cell_of_heap b1 (j := 1) rfl
  have k2 := cell_of_heap b1 (j := 2) rfl
  have HW1 := Go.Lib.hid hW1
  have BX1 := Go.Lib.hid b1
  clear hB1 b1 hW1
  by_cases hq0 : q = 0
  · subst hq0
    obtain ⟨hcb, hfd, hsl⟩ := ask_parts HQ.out
    obtain ⟨hfd0, hfd1⟩ := hfd rfl
    obtain ⟨hsl0, hsl1⟩ := hsl rfl
    have hk := bok_of_check hcb
    have hfd2 : find < (T.length : Int) := by rw [hk.nt]; exact hfd1
    have hf := HH.out
    rw [if_neg (by simp)] at hf
    have HK := Go.Lib.hid hk
    have HCB := Go.Lib.hid hcb
    clear HH HQ hk hcb
    cases hok : isF F S T with
    | false =>
      have MC := matched_no A0 c0 F A1 c1 S A2 c2 T w1 HK.out (Kd.C_below HR.out.1 HW1.out) (Kd.C_below HR.out.2 HW1.out) hok
      rw [if_pos hok] at hf
      injection hf with hf
      injection hf with hf1 hf
      injection hf with hf2 hf3
      subst hf1 hf2 hf3
      clear hok
      go_wp2_with fail
      refine MC.mono ?_
      clear MC
      rintro e w2 ⟨rfl, hB2⟩
      have HB2 := Go.Lib.hid (HW1.out.trans (hB2.mono HW1.out.size))
      clear hB2
      go_wp2_with fail
      go_ret3
      exact ⟨_, rfl, R_nil _ _, HB2.out⟩
    | true =>
      have MC := matched_yes A0 c0 F A1 c1 S A2 c2 T w1 HK.out (Kd.C_below HR.out.1 HW1.out) (Kd.C_below HR.out.2 HW1.out) hok
      rw [if_neg (by rw [hok]; simp)] at hf
      injection hf with hf
      obtain ⟨fn, rfl⟩ : ∃ fn : Nat, find = (fn : Int) := ⟨find.toNat, by omega⟩
      rw [Int.toNat_natCast] at hf
      obtain ⟨rr, hrr⟩ : ∃ rr, withF T (rooms S) S.length (hasF F S T) fn slot = rr := ⟨_, rfl⟩
      rw [hrr] at hf
      injection hf with hf1 hf
      injection hf with hf2 hf3
      subst hf1 hf2 hf3
      have HRR := Go.Lib.hid hrr
      clear hok hrr
      go_wp2_with fail
      refine MC.mono ?_
      clear MC
      rintro e w2 ⟨t, rfl, en1, enh, es0, hT, hB2⟩
      have hW2 := HW1.out.trans (hB2.mono HW1.out.size)
      have hG := good_of_in HCB.out hT en1 es0
      have WC := with_calls t T (rooms S) (hasF F S T) fn slot w2 (by omega) hG
      rw [en1, HRR.out] at WC
      unfold WithPost at WC
      have HW2 := Go.Lib.hid hW2
      clear hB2 hW2 hG hT en1 enh es0
      go_wp2_with fail
      refine WC.mono ?_
      clear WC
      rintro e w3 ⟨v, rfl, hR, hB3⟩
      have HB3 := Go.Lib.hid (HW2.out.trans (hB3.mono HW2.out.size))
      have HR3 := Go.Lib.hid (Kd.R_lower hR HW2.out.size)
      clear hR hB3
      go_wp2_with fail
      go_ret3
      exact ⟨v, rfl, HR3.out, HB3.out⟩
  · have g9 : decide (q = 0) = false := by simpa using hq0
    have hf := HH.out
    rw [if_pos hq0] at hf
    injection hf with hf
    injection hf with hf1 hf
    injection hf with hf2 hf3
    subst hf1 hf2 hf3
    go_wp2_with fail
    go_ret3
    exact ⟨_, rfl, R_nil _ _, HW1.out⟩
theorem PM.match_Through.calls (A0 : Option Addr) (c0 : Nat) (F : List Int) (A1 : Option Addr) (c1 : Nat) (S : List S50) (A2 : Option Addr) (c2 : Nat) (T : List (List Int)) (find slot : Int) (r1 : List Int) (r2 : Bool) (r3 : Int) (w : World)
    (hr0 : Kd.C (Kd.int .i64) w A0 F.length F) (hc0 : F.length ≤ c0) (hr1 : Kd.C k50 w A1 S.length S) (hc1 : S.length ≤ c1) (hr2 : Kd.C (Kd.slice 3 (Kd.int .i64)) w A2 T.length T) (hc2 : T.length ≤ c2) (h : match_Through.f F S T find slot = some (r1, r2, r3)) :
    Calls Try.prog 30 #[.agg #[.slice A0 F.length c0, .slice A1 S.length c1, .slice A2 T.length c2], .int .i64 find, .int .i64 slot] w (LBE r1 r2 r3 w) := through_walk A0 c0 F A1 c1 S A2 c2 T find slot r1 r2 r3 w hr0 hc0 hr1 hr2 h
end Go.Proofs.Ytkmmihadcbfkoaa
end

section
namespace Go.Proofs.Ytkmmihadcbfkoaa.PM
open Go.RowKit Go.Proofs.YtkmmihadcbfkoaaW.PrintWords Go.Proofs.YtkmmihadcbfkoaaW.PrintLast Go.Proofs.YtkmmihadcbfkoaaW.PrintMore
set_option linter.unusedVariables false
set_option linter.unusedSimpArgs false
def match_May.f (l0_0 : List Int) (l0_1 : List (S50)) (l0_2 : List (List Int)) (a1 : Int) (a2 : Int) : Option (Bool × Int) := (match_Through.f l0_0 l0_1 l0_2 a1 a2).bind fun bt396 => (some (bt396.2.1, bt396.2.2))
set_option maxHeartbeats 8000000 in
set_option maxRecDepth 100000 in
theorem match_May.calls (A0_0 : Option Addr) (c0_0 : Nat) (l0_0 : List Int) (A0_1 : Option Addr) (c0_1 : Nat) (l0_1 : List (S50)) (A0_2 : Option Addr) (c0_2 : Nat) (l0_2 : List (List Int)) (a1 : Int) (a2 : Int) (r1 : Bool) (r2 : Int) (w : World) (hr0_0 : Kd.C (Kd.int .i64) w A0_0 l0_0.length l0_0) (hc0_0 : l0_0.length ≤ c0_0) (hr0_1 : Kd.C k50 w A0_1 l0_1.length l0_1) (hc0_1 : l0_1.length ≤ c0_1) (hr0_2 : Kd.C (Kd.slice 3 (Kd.int .i64)) w A0_2 l0_2.length l0_2) (hc0_2 : l0_2.length ≤ c0_2) (h : match_May.f l0_0 l0_1 l0_2 a1 a2 = some (r1, r2)) :
  Calls Try.prog 29 #[.agg #[.slice A0_0 l0_0.length c0_0, .slice A0_1 l0_1.length c0_1, .slice A0_2 l0_2.length c0_2], .int .i64 a1, .int .i64 a2] w fun e w' => e = .returned (.tuple #[.bool r1, .int .i64 r2]) ∧ Below w.heap.size w w' := by
 have hu26 := Try.underlying26
 have HR0_0 := Aside0.mk hr0_0
 have HC0_0 := Aside0.mk hc0_0
 clear hr0_0 hc0_0
 have HR0_1 := Aside0.mk hr0_1
 have HC0_1 := Aside0.mk hc0_1
 clear hr0_1 hc0_1
 have HR0_2 := Aside0.mk hr0_2
 have HC0_2 := Aside0.mk hc0_2
 clear hr0_2 hc0_2
 have HB := Aside0.mk (Below.refl w.heap.size w)
 have H : ((match_Through.f l0_0 l0_1 l0_2 a1 a2).bind fun bt396 => (some (bt396.2.1, bt396.2.2))) = some (r1, r2) := h
 clear h
 replace H := Option.bind_eq_some_iff.mp H
 obtain ⟨⟨t396, t399, t400⟩, A40, H⟩ := H
 replace H : (some (t399, t400)) = some (r1, r2) := H
 have A4 := Aside0.mk A40
 clear A40
 simp only [Option.some.injEq, Prod.mk.injEq] at H
 obtain ⟨rfl, rfl⟩ := H
 go_enter Try.func29, Try.ntmps29
 go_wp2_with (first | ((with_reducible refine gate_dst (N := 3) rfl ?_); refine box_event ?hg (N := 3) ?hd (cs := #[.slice A0_0 l0_0.length c0_0, .slice A0_1 l0_1.length c0_1, .slice A0_2 l0_2.length c0_2]) (t := 26) ?hr ?_; (case hd => rfl); (case hg => rfl); (case hr => first | (go_simp; done) | (go_simp; rfl)); intro gb395 hg w5 hbox hb; have n0_ := Aside0.mk (below_step (by repeat (first | (with_reducible first | exact HB.out | apply below_alloc | apply pw_below_drewN | apply below_drew1) | exact HB.out)) hb); have n1_ := Aside0.mk (hbox); have n2_ := Aside0.mk ((by rw [hg]; exact (below_size (by repeat (first | (with_reducible first | exact HB.out | apply below_alloc | apply pw_below_drewN | apply below_drew1) | exact HB.out))) : w.heap.size ≤ gb395)); have n3_ := Aside0.mk ((by rw [hg]; exact (below_size (by repeat (first | (with_reducible first | exact HB.out | apply below_alloc | apply pw_below_drewN | apply below_drew1) | exact HB.out))) : w.heap.size ≤ gb395)); clear HB; have HB := n0_; have BK395 := n1_; have GW395 := n2_; have GE395 := n3_; clear n0_ n1_ n2_ n3_; clear hb hbox hg; have hcz6_0 : w5.cell? ⟨gb395, 0, none⟩ = some (.slice A0_0 l0_0.length c0_0) := (blk_cell BK395.out 0).trans rfl; have hcz6_1 : w5.cell? ⟨gb395, 1, none⟩ = some (.slice A0_1 l0_1.length c0_1) := (blk_cell BK395.out 1).trans rfl; have hcz6_2 : w5.cell? ⟨gb395, 2, none⟩ = some (.slice A0_2 l0_2.length c0_2) := (blk_cell BK395.out 2).trans rfl; have hfz6_0 := blk_frozen BK395.out 0; have hfz6_1 := blk_frozen BK395.out 1; have hfz6_2 := blk_frozen BK395.out 2) | ((with_reducible refine gate_callee (f := 30) rfl ?_); refine goesL_ (some 15) rfl rfl Try.func30 (by kernel_rfl) rfl #[.agg #[.slice A0_0 l0_0.length c0_0, .slice A0_1 l0_1.length c0_1, .slice A0_2 l0_2.length c0_2], .int .i64 a1, .int .i64 a2] rfl (by (try simp only [List.map_toArray, List.map_cons, List.map_nil]); first | done | rfl | (simp only [List.length_drop, List.length_take]; rfl)) ?_; (with_reducible refine (match_Through.calls _ _ l0_0 _ _ l0_1 _ _ l0_2 a1 a2 t396 t399 t400 _ ?side1 ?side2 ?side3 ?side4 ?side5 ?side6 A4.out).mono ?_); (case side1 => repeat (first | exact (Kd.C_below HR0_0.out HB.out) | (with_reducible refine Kd.C_alloc ?_ _) | (with_reducible refine Kd.C_drewN ?_ _) | (with_reducible refine Kd.C_drew ?_))); (case side2 => exact HC0_0.out); (case side3 => repeat (first | exact (Kd.C_below HR0_1.out HB.out) | (with_reducible refine Kd.C_alloc ?_ _) | (with_reducible refine Kd.C_drewN ?_ _) | (with_reducible refine Kd.C_drew ?_))); (case side4 => exact HC0_1.out); (case side5 => repeat (first | exact (Kd.C_below HR0_2.out HB.out) | (with_reducible refine Kd.C_alloc ?_ _) | (with_reducible refine Kd.C_drewN ?_ _) | (with_reducible refine Kd.C_drew ?_))); (case side6 => exact HC0_2.out); rintro e w7 ⟨v397, rfl, ho0, hb⟩; refine ⟨_, rfl, ?_⟩; have n0_ := Aside0.mk (Kd.R_lower ho0 (below_size (by repeat (first | (with_reducible first | exact HB.out | apply below_alloc | apply pw_below_drewN | apply below_drew1 | refine below_set ?_ GE395.out) | exact HB.out)))); have n1_ := Aside0.mk (blk_below (g := gb395) (o := .cells #[.slice A0_0 l0_0.length c0_0, .slice A0_1 l0_1.length c0_1, .slice A0_2 l0_2.length c0_2] 26 (0, 0)) (by (with_reducible repeat (first | refine blk_drewN ?_ _ | refine blk_drew ?_ | refine blk_alloc ?_ _)); exact BK395.out) hb); have n2_ := Aside0.mk (below_step (by repeat (first | (with_reducible first | exact HB.out | apply below_alloc | apply pw_below_drewN | apply below_drew1 | refine below_set ?_ GE395.out) | exact HB.out)) hb); clear BK395; clear HB; have HO398 := n0_; have BK395 := n1_; have HB := n2_; clear n0_ n1_ n2_; (try clear hb); (try clear hb2); (try clear hk); (try clear hi); (try clear ho0)))
 go_ret2
 exact ⟨by first | rfl | (simp [errW_none, errW_some] <;> rfl) | (simp [*, errW_none, errW_some] <;> rfl), by repeat (first | (with_reducible first | exact HB.out | apply below_alloc | apply pw_below_drewN | apply below_drew1 | refine below_set ?_ GE395.out) | exact HB.out)⟩
end Go.Proofs.Ytkmmihadcbfkoaa.PM
end

section
namespace Go.Proofs.Ytkmmihadcbfkoaa
open Go.RowKit Go.Proofs.YtkmmihadcbfkoaaW.PrintWords PM
set_option linter.unusedVariables false
set_option linter.unusedSimpArgs false
section
variable {F : List Int} {S : List S50} {T : List (List Int)}
/-- What Through and Refuse come to on a board with an assignment. -/
structure Shown (F : List Int) (S : List S50) (T : List (List Int)) (fn : Nat) (slot : Int) (t r : List Int) (may : Bool) : Prop where
  through : match_Through.f F S T (fn : Int) slot = some (t, may, 0)
  refuse : match_Refuse.f F S T (fn : Int) slot = some (r, !may, 0)
  can : may = true ↔ CanB S T fn slot
  yes : may = true → AsgB S T t ∧ t.getD fn 0 = slot ∧ r = []
  no : may = false → t = [] ∧ refuseP F S T (fn : Int) slot r = (true, 0)
theorem shown_is {fn : Nat} {slot : Int} (hq : askB F S T (fn : Int) slot false false = 0) (his : isF F S T = true) : ∃ t r may, Shown F S T fn slot t r may := by
  obtain ⟨hc, hfd, hsl⟩ := ask_parts hq
  have h1 := hfd rfl
  have h2 := hsl rfl
  have hnt := (bok_of_check hc).nt
  have hft : fn < T.length := by omega
  obtain ⟨w1, w2⟩ := withB_spec hc his hft h2.1
  have wi := withB_iff hc his hft h2.1
  have hT : match_Through.f F S T (fn : Int) slot = some ((withF T (rooms S) S.length (hasF F S T) fn slot).has, (withF T (rooms S) S.length (hasF F S T) fn slot).ok, 0) := by
    unfold match_Through.f
    rw [if_neg (fun h => h hq), if_neg (by rw [his]; simp), Int.toNat_natCast]
  by_cases hin : slot ∈ T.getD fn []
  · have hR : match_Refuse.f F S T (fn : Int) slot = some ((hallR F S T (fn : Int) (roomsLess S slot)).hall, !(hallR F S T (fn : Int) (roomsLess S slot)).ok, 0) := by
      unfold match_Refuse.f
      rw [if_neg (fun h => h hq), if_neg (by rw [his]; simp), Int.toNat_natCast, if_neg (fun h => h hin)]
    have hnn := less_nn hc h2.1 h2.2
    have hiff : (hallR F S T (fn : Int) (roomsLess S slot)).ok = true ↔ CanB S T fn slot := (hallR_iff hc hnn).trans (canB_iff hc hft hin).symm
    have hsame : (hallR F S T (fn : Int) (roomsLess S slot)).ok = (withF T (rooms S) S.length (hasF F S T) fn slot).ok := by
      cases e : (withF T (rooms S) S.length (hasF F S T) fn slot).ok with
      | true => exact hiff.2 (wi.1 e)
      | false =>
        cases e2 : (hallR F S T (fn : Int) (roomsLess S slot)).ok with
        | false => rfl
        | true => exact absurd (hiff.1 e2) (w2 e).2
    rw [hsame] at hR
    refine ⟨_, _, _, hT, hR, wi, fun h => ⟨(w1 h).1, (w1 h).2, hallR_yes hc hnn (hsame.trans h)⟩, fun h => ⟨(w2 h).1, ?_⟩⟩
    unfold refuseP
    rw [if_neg (fun h => h hq), Int.toNat_natCast, if_neg (fun h => h hin)]
    have := (crowded_deny hc h2.1 h2.2).2 (hallR_no hc hnn (hsame.trans h))
    rw [this]
  · have hR : match_Refuse.f F S T (fn : Int) slot = some ([], true, 0) := by
      unfold match_Refuse.f
      rw [if_neg (fun h => h hq), if_neg (by rw [his]; simp), Int.toNat_natCast, if_pos hin]
    have hf : (withF T (rooms S) S.length (hasF F S T) fn slot).ok = false := by
      cases e : (withF T (rooms S) S.length (hasF F S T) fn slot).ok with
      | false => rfl
      | true => exact absurd (can_in hft h2.1 (wi.1 e)) hin
    rw [hf] at hT wi w2
    refine ⟨_, _, _, hT, hR, wi, fun h => (by cases h), fun _ => ⟨(w2 rfl).1, ?_⟩⟩
    unfold refuseP
    rw [if_neg (fun h => h hq), Int.toNat_natCast, if_pos hin]
    rfl
theorem shown_may {fn : Nat} {slot : Int} {t r : List Int} {may : Bool} (h : Shown F S T fn slot t r may) : match_May.f F S T (fn : Int) slot = some (may, 0) := by
  unfold match_May.f
  rw [h.through]
  rfl
end
end Go.Proofs.Ytkmmihadcbfkoaa
end

section
namespace Go.Proofs.Ytkmmihadcbfkoaa
open Go.RowKit Go.Proofs.YtkmmihadcbfkoaaW.PrintWords PM
set_option linter.unusedVariables false
set_option linter.unusedSimpArgs false
/-- The closure asks whether a slot is none of these. -/
theorem notin_calls (s : Int) (B : Nat) (A : Option Addr) (c : Nat) (l : List Int) (w : World) (hb : w.cell? ⟨B, 0, none⟩ = some (.slice A l.length c)) (hr : Kd.C (Kd.int .i64) w A l.length l) (hc : l.length ≤ c) :
    Calls Try.prog 70 #[.int .i64 s, .pointer (some ⟨B, 0, none⟩)] w fun e w' => e = .returned (.bool (!decide (s ∈ l))) ∧ Drawn0 w w' := by
  have RC := contains_calls A c l s w hr hc
  have l9 := hr.2.1
  clear hr
  go_enter Try.func70, Try.ntmps70
  go_wp2_with fail
  refine RC.mono ?_
  clear RC
  rintro e w' ⟨rfl, hd⟩
  go_wp2_with fail
  go_ret
  exact ⟨rfl, hd⟩
def IdxPost2 (p : Int → Bool) (l : List Int) (w : World) (e : Ending) (w' : World) : Prop := ∃ r : Int, e = .returned (.int .i64 r) ∧ decide (r ≥ 0) = !(l.all p) ∧ Drawn0 w w'
set_option maxRecDepth 100000 in
set_option maxHeartbeats 2000000 in
theorem idxfunc2_calls (A2 : Option Addr) (c2 : Nat) (l : List Int) (B : Nat) (A : Option Addr) (c : Nat) (sl : List Int) (w : World) (hb : w.cell? ⟨B, 0, none⟩ = some (.slice A sl.length c)) (hs : Kd.C (Kd.int .i64) w A sl.length sl) (hc : sl.length ≤ c) (hr : Kd.C (Kd.int .i64) w A2 l.length l) (hl : l.length ≤ 1000000) :
    Calls Try.prog 91 #[.slice A2 l.length c2, .func (.func 70) #[] #[.pointer (some ⟨B, 0, none⟩)]] w (IdxPost2 (fun s => decide (s ∈ sl)) l w) := by
  have HR := Go.Lib.hid (And.intro hr (And.intro hs hc))
  have HB := Go.Lib.hid hb
  clear hr hb hs hc
  go_enter Try.func91, Try.ntmps91
  go_wp2_with fail
  go_loopw [8] (fun i wr => ∃ k : Nat, k ≤ l.length ∧ i = .int .i64 k ∧ Hid ((l.take k).all (fun s => decide (s ∈ sl)) = true ∧ Drawn0 w wr)) (fun i _ => l.length - (intOf i).toNat)
  case atStart => exact ⟨0, Nat.zero_le _, rfl, rfl, Drawn0.refl _⟩
  case round =>
    obtain ⟨k, hk, rfl, HID⟩ := hrel
    obtain ⟨hall, hd⟩ := HID.out
    by_cases hlt : k < l.length
    · have hbl := hd.below
      obtain ⟨a, e2, hx⟩ := Kd.at_int (Kd.C_below HR.out.1 hbl) (k : Int) (by omega) (by omega)
      rw [Int.toNat_natCast, show rd l (k : Int) = l.getD k 0 from by simp [rd]] at hx
      obtain ⟨x, hxe⟩ : ∃ x, l.getD k 0 = x := ⟨_, rfl⟩
      rw [hxe] at hx
      have NR := notin_calls x B A c sl wr ((hbl.cell (World.block_lt_of_cell? w _ HB.out)).trans HB.out) (Kd.C_below HR.out.2.1 hbl) HR.out.2.2
      have htk : l.take (k + 1) = l.take k ++ [x] := by
        rw [List.take_succ_eq_append_getElem hlt, ← hxe]
        simp [List.getD_eq_getElem?_getD, List.getElem?_eq_getElem hlt]
      have HTK := Go.Lib.hid htk
      have HXE := Go.Lib.hid hxe
      have HAL := Go.Lib.hid hall
      have HD := Go.Lib.hid hd
      have e2' := e2
      clear htk hxe hall hd hbl HID
      subst e2'
      go_wp2_with fail
      refine NR.mono ?_
      clear NR
      rintro e w1 ⟨rfl, hd1⟩
      have HD1 := Go.Lib.hid (Drawn0.trans' HD.out hd1)
      clear hd1
      cases hrs : decide (x ∈ sl) with
      | true =>
        have HRS := Go.Lib.hid hrs
        rw [Bool.not_true]
        clear hrs
        go_wp2_with fail
        go_roundw
        case rel => exact ⟨k + 1, by omega, by simp, by rw [HTK.out, List.all_append, HAL.out]; simp only [List.all_cons, List.all_nil, HRS.out]; rfl, HD1.out⟩
        case measure => simp [intOf]; omega
      | false =>
        have HRS := Go.Lib.hid hrs
        rw [Bool.not_false]
        clear hrs
        go_wp2_with fail
        go_ret
        refine ⟨(k : Int), rfl, ?_, HD1.out⟩
        have hf : l.all (fun s => decide (s ∈ sl)) = false := by
          rw [List.all_eq_false]
          refine ⟨x, ?_, by rw [HRS.out]; simp⟩
          rw [← HXE.out, List.getD_eq_getElem?_getD, List.getElem?_eq_getElem hlt]
          exact List.getElem_mem hlt
        rw [hf]
        simp
    · obtain rfl : k = l.length := by omega
      rw [List.take_length] at hall
      have HAL := Go.Lib.hid hall
      have HD := Go.Lib.hid hd
      clear hall hd HID
      go_wp2_with fail
      go_ret
      exact ⟨-1, rfl, by rw [HAL.out]; rfl, HD.out⟩
theorem contfunc2_calls (A2 : Option Addr) (c2 : Nat) (l : List Int) (B : Nat) (A : Option Addr) (c : Nat) (sl : List Int) (w : World) (hb : w.cell? ⟨B, 0, none⟩ = some (.slice A sl.length c)) (hs : Kd.C (Kd.int .i64) w A sl.length sl) (hc : sl.length ≤ c) (hr : Kd.C (Kd.int .i64) w A2 l.length l) (hl : l.length ≤ 1000000) :
    Calls Try.prog 69 #[.slice A2 l.length c2, .func (.func 70) #[] #[.pointer (some ⟨B, 0, none⟩)]] w fun e w' => e = .returned (.bool (!(l.all fun s => decide (s ∈ sl)))) ∧ Drawn0 w w' := by
  have IC := idxfunc2_calls A2 c2 l B A c sl w hb hs hc hr hl
  clear hr hs hb
  go_enter Try.func69, Try.ntmps69
  go_wp2_with fail
  refine IC.mono ?_
  clear IC
  rintro e w' ⟨r, rfl, hr, hd⟩
  go_wp2_with fail
  go_ret
  exact ⟨rfl, hd⟩
/-- What Within comes to. -/
def withinP (F : List Int) (S : List S50) (T : List (List Int)) (find : Int) (sl : List Int) : Bool × Int :=
  if askB F S T find 0 false true ≠ 0 then (false, askB F S T find 0 false true)
  else if risB sl 0 ((S.length : Int) - 1) = false then (false, 1)
  else if isF F S T = false then (false, 40)
  else (decide (((chancesF T (rooms S) S.length (hasF F S T) find.toNat).length : Int) > 0) && (chancesF T (rooms S) S.length (hasF F S T) find.toNat).all fun s => decide (s ∈ sl), 0)
set_option maxRecDepth 100000 in
set_option maxHeartbeats 8000000 in
theorem within_calls (A0 : Option Addr) (c0 : Nat) (F : List Int) (A1 : Option Addr) (c1 : Nat) (S : List S50) (A2 : Option Addr) (c2 : Nat) (T : List (List Int)) (find : Int) (A3 : Option Addr) (c3 : Nat) (sl : List Int) (w : World)
    (hr0 : Kd.C (Kd.int .i64) w A0 F.length F) (hc0 : F.length ≤ c0) (hr1 : Kd.C k50 w A1 S.length S) (hc1 : S.length ≤ c1) (hr2 : Kd.C (Kd.slice 3 (Kd.int .i64)) w A2 T.length T) (hc2 : T.length ≤ c2) (hr3 : Kd.C (Kd.int .i64) w A3 sl.length sl) (hc3 : sl.length ≤ c3) :
    Calls Try.prog 32 #[.agg #[.slice A0 F.length c0, .slice A1 S.length c1, .slice A2 T.length c2], .int .i64 find, .slice A3 sl.length c3] w fun e w' => e = .returned (.tuple #[.bool (withinP F S T find sl).1, .int .i64 (withinP F S T find sl).2]) ∧ Below w.heap.size w w' := by
  have hB0 := (Below.refl w.heap.size w).alloc (Nat.le_refl _) (.cells #[.slice A0 F.length c0, .slice A1 S.length c1, .slice A2 T.length c2] 26)
  have CB := asked_boxed A0 c0 F A1 c1 S A2 c2 T find 0 false true _ (Kd.C_below hr0 hB0) hc0 (Kd.C_below hr1 hB0) (Kd.C_below hr2 hB0) (.cells #[.slice A3 sl.length c3] 22)
  rw [show (w.alloc (.cells #[.slice A0 F.length c0, .slice A1 S.length c1, .slice A2 T.length c2] 26)).heap.size = w.heap.size + 1 from by simp] at CB
  have l3 := hr3.2.1
  have lS := hr1.2.1
  obtain ⟨res, hres⟩ : ∃ res, withinP F S T find sl = res := ⟨_, rfl⟩
  rw [hres]
  unfold withinP at hres
  obtain ⟨q, hq⟩ : ∃ q, askB F S T find 0 false true = q := ⟨_, rfl⟩
  rw [hq] at hres CB
  have HB0 := Go.Lib.hid hB0
  have HR := Go.Lib.hid (And.intro hr1 (And.intro hr2 (And.intro hr3 hc3)))
  have HQ := Go.Lib.hid hq
  have HH := Go.Lib.hid hres
  clear hr0 hr1 hr2 hr3 hB0 hq hres
  go_enter Try.func32, Try.ntmps32
  go_wp2_with fail
  refine CB.mono ?_
  clear CB
  rintro e w1 ⟨⟨rfl, hB1⟩, bS⟩
  have hW1 : Below w.heap.size w w1 := HB0.out.trans (hB1.mono HB0.out.size)
  have b1 : w1.heap[w.heap.size]? = some (.cells #[.slice A0 F.length c0, .slice A1 S.length c1, .slice A2 T.length c2] 26 (0, 0)) := by
    rw [hB1.block w.heap.size (by simp)]
    exact World.alloc_heap_new w _
  have k0 := cell_of_heap b1 (j := 0) rfl
  have k1 := cell_of_heap b1 (j := 1) rfl
  have k2 := cell_of_heap b1 (j := 2) rfl
  have k3 := cell_of_heap bS (j := 0) rfl
  have HW1 := Go.Lib.hid hW1
  have BX1 := Go.Lib.hid (And.intro b1 bS)
  clear hB1 b1 bS hW1
  by_cases hq0 : q = 0
  · subst hq0
    obtain ⟨hcb, hfd, _⟩ := ask_parts HQ.out
    have hfd := hfd rfl
    have hk := bok_of_check hcb
    have hnt := hk.nt
    have hf := HH.out
    rw [if_neg (by simp)] at hf
    have RC := rising_calls A3 c3 sl 0 ((S.length : Int) - 1) w1 (Kd.C_below HR.out.2.2.1 HW1.out) HR.out.2.2.2 l3
    have hsl : S.length ≤ 200 := hk.ns
    have HF := Go.Lib.hid hf
    have HK := Go.Lib.hid (And.intro hcb (And.intro hk (And.intro hfd hnt)))
    clear HH HQ hcb hk hf hfd hnt
    obtain ⟨ri, hri⟩ : ∃ ri, risB sl 0 ((S.length : Int) - 1) = ri := ⟨_, rfl⟩
    have hf := HF.out
    rw [hri] at RC hf
    have HF2 := Go.Lib.hid hf
    clear HF hri hf
    go_wp2_with fail
    refine RC.mono ?_
    clear RC
    rintro e w2 ⟨rfl, hd2⟩
    have hb2 := hd2.below
    have b2 := (hb2.block w.heap.size (Array.getElem?_eq_some_iff.1 BX1.out.1).1).trans BX1.out.1
    have bS2 := (hb2.block (w.heap.size + 1) (Array.getElem?_eq_some_iff.1 BX1.out.2).1).trans BX1.out.2
    have HW2 := Go.Lib.hid (HW1.out.trans (hb2.mono HW1.out.size))
    clear k0 k1 k2 k3 hd2 hb2 HW1 BX1
    have k0 := cell_of_heap b2 (j := 0) rfl
    have k1 := cell_of_heap b2 (j := 1) rfl
    have k2 := cell_of_heap b2 (j := 2) rfl
    have k3 := cell_of_heap bS2 (j := 0) rfl
    have BX2 := Go.Lib.hid (And.intro b2 bS2)
    clear b2 bS2
    cases ri with
    | false =>
      have hf := HF2.out
      rw [if_pos rfl] at hf
      subst hf
      clear HF2
      go_wp2_with fail
      go_ret2
      exact ⟨rfl, HW2.out⟩
    | true =>
      have hf := HF2.out
      rw [if_neg (by simp)] at hf
      clear HF2
      cases hok : isF F S T with
      | false =>
        have MC := matched_no A0 c0 F A1 c1 S A2 c2 T w2 HK.out.2.1 (Kd.C_below HR.out.1 HW2.out) (Kd.C_below HR.out.2.1 HW2.out) hok
        rw [if_pos hok] at hf
        subst hf
        clear hok
        go_wp2_with fail
        refine MC.mono ?_
        clear MC
        rintro e w3 ⟨rfl, hB3⟩
        have HB3 := Go.Lib.hid (HW2.out.trans (hB3.mono HW2.out.size))
        clear hB3
        go_wp2_with fail
        go_ret2
        exact ⟨rfl, HB3.out⟩
      | true =>
        have MC := matched_yes A0 c0 F A1 c1 S A2 c2 T w2 HK.out.2.1 (Kd.C_below HR.out.1 HW2.out) (Kd.C_below HR.out.2.1 HW2.out) hok
        rw [if_neg (by rw [hok]; simp)] at hf
        have HF := Go.Lib.hid hf
        clear hok hf
        go_wp2_with fail
        refine MC.mono ?_
        clear MC
        rintro e w3 ⟨t, rfl, en1, enh, es0, hT, hB3⟩
        have bS3 := (hB3.block (w.heap.size + 1) (Array.getElem?_eq_some_iff.1 BX2.out.2).1).trans BX2.out.2
        have hG := good_of_in HK.out.1 hT en1 es0
        have CH := chances_calls t T (rooms S) (hasF F S T) find.toNat w3 (by have := HK.out.2.2.1; omega) hG
        rw [en1, Int.toNat_of_nonneg HK.out.2.2.1.1] at CH
        have hcl : (chancesF T (rooms S) S.length (hasF F S T) find.toNat).length ≤ 1000 := by
          have h1 := HK.out.2.1.row find.toNat (by have := HK.out.2.2.1; have := HK.out.2.2.2; omega)
          unfold chancesF
          exact Nat.le_trans (List.length_filter_le _ _) h1
        have hf := HF.out
        obtain ⟨cl, ecl⟩ : ∃ cl, chancesF T (rooms S) S.length (hasF F S T) find.toNat = cl := ⟨_, rfl⟩
        rw [ecl] at CH hcl hf
        have HF3 := Go.Lib.hid hf
        have HW3 := Go.Lib.hid (HW2.out.trans (hB3.mono HW2.out.size))
        have BX3 := Go.Lib.hid bS3
        clear k0 k1 k2 k3 BX2 HW2 hB3 bS3 hG hT en1 enh es0 HF hf ecl
        go_wp2_with fail
        refine CH.mono ?_
        clear CH
        rintro e w4 ⟨v, rfl, hRv, hB4⟩
        obtain ⟨Av, cv, rfl, hlv, hCv⟩ := Kd.R_reads hRv
        have bS4 := (hB4.block (w.heap.size + 1) (Array.getElem?_eq_some_iff.1 BX3.out).1).trans BX3.out
        have hW4 := HW3.out.trans (hB4.mono HW3.out.size)
        have k3 := cell_of_heap bS4 (j := 0) rfl
        have IC := contfunc2_calls Av cv cl (w.heap.size + 1) A3 c3 sl w4 k3 (Kd.C_below HR.out.2.2.1 hW4) HR.out.2.2.2 hCv (by omega)
        have HW4 := Go.Lib.hid hW4
        have hf := HF3.out
        clear hRv hlv hCv hB4 bS4 hW4 HW3 HF3 BX3 k3
        by_cases hp : (cl.length : Int) > 0
        · have g1 : decide ((cl.length : Int) > 0) = true := decide_eq_true hp
          have g2 : 0 < cl.length := by omega
          have g3 : (cl = []) = False := eq_false (fun e => by rw [e] at g2; exact absurd g2 (by simp))
          rw [g1, Bool.true_and] at hf
          have HF := Go.Lib.hid hf
          clear hf hp
          go_wp2_with fail
          refine IC.mono ?_
          clear IC
          rintro e w5 ⟨rfl, hd5⟩
          have HB5 := Go.Lib.hid (HW4.out.trans (hd5.below.mono HW4.out.size))
          clear hd5
          go_wp2_with fail
          go_ret2
          refine ⟨?_, HB5.out⟩
          rw [← HF.out]
          simp
        · have g1 : decide ((cl.length : Int) > 0) = false := decide_eq_false hp
          have g2 : ¬ 0 < cl.length := by omega
          have g3 : cl = [] := List.length_eq_zero_iff.1 (by omega)
          subst g3
          rw [g1, Bool.false_and] at hf
          subst hf
          clear hp g2 IC
          go_wp2_with fail
          go_ret2
          exact ⟨rfl, HW4.out⟩
  · have g9 : decide (q = 0) = false := by simpa using hq0
    have hf := HH.out
    rw [if_pos hq0] at hf
    subst hf
    go_wp2_with fail
    go_ret2
    exact ⟨rfl, HW1.out⟩
end Go.Proofs.Ytkmmihadcbfkoaa
end

section
namespace Go.Proofs.Ytkmmihadcbfkoaa
open Go.RowKit Go.Proofs.YtkmmihadcbfkoaaW.PrintWords PM
set_option linter.unusedVariables false
set_option linter.unusedSimpArgs false
structure LAt (w0 : World) (A0 : Option Addr) (c0 : Nat) (F : List Int) (A1 : Option Addr) (c1 : Nat) (S : List S50) (A2 : Option Addr) (c2 : Nat) (T : List (List Int)) (w : World) : Prop where
  box : w.heap[w0.heap.size]? = some (.cells #[.slice A0 F.length c0, .slice A1 S.length c1, .slice A2 T.length c2] 26 (0, 0))
  B : Below w0.heap.size w0 w
  C0 : Kd.C (Kd.int .i64) w A0 F.length F
  l0 : F.length ≤ c0
  C1 : Kd.C k50 w A1 S.length S
  l1 : S.length ≤ c1
  C2 : Kd.C (Kd.slice 3 (Kd.int .i64)) w A2 T.length T
  l2 : T.length ≤ c2
section
variable {w0 w w' : World} {A0 : Option Addr} {c0 : Nat} {F : List Int} {A1 : Option Addr} {c1 : Nat} {S : List S50} {A2 : Option Addr} {c2 : Nat} {T : List (List Int)}
theorem LAt.start (C0 : Kd.C (Kd.int .i64) w0 A0 F.length F) (l0 : F.length ≤ c0) (C1 : Kd.C k50 w0 A1 S.length S) (l1 : S.length ≤ c1) (C2 : Kd.C (Kd.slice 3 (Kd.int .i64)) w0 A2 T.length T) (l2 : T.length ≤ c2) :
    LAt w0 A0 c0 F A1 c1 S A2 c2 T (w0.alloc (.cells #[.slice A0 F.length c0, .slice A1 S.length c1, .slice A2 T.length c2] 26)) := by
  have hB := (Below.refl w0.heap.size w0).alloc (Nat.le_refl _) (.cells #[.slice A0 F.length c0, .slice A1 S.length c1, .slice A2 T.length c2] 26)
  exact ⟨World.alloc_heap_new w0 _, hB, Kd.C_below C0 hB, l0, Kd.C_below C1 hB, l1, Kd.C_below C2 hB, l2⟩
theorem LAt.later (h : LAt w0 A0 c0 F A1 c1 S A2 c2 T w) (hb : Below w.heap.size w w') : LAt w0 A0 c0 F A1 c1 S A2 c2 T w' :=
  ⟨(hb.block w0.heap.size (Array.getElem?_eq_some_iff.1 h.box).1).trans h.box, h.B.trans (hb.mono h.B.size), Kd.C_below h.C0 hb, h.l0, Kd.C_below h.C1 hb, h.l1, Kd.C_below h.C2 hb, h.l2⟩
theorem LAt.k0 (h : LAt w0 A0 c0 F A1 c1 S A2 c2 T w) : w.cell? ⟨w0.heap.size, 0, none⟩ = some (.slice A0 F.length c0) := cell_of_heap h.box (j := 0) rfl
theorem LAt.k1 (h : LAt w0 A0 c0 F A1 c1 S A2 c2 T w) : w.cell? ⟨w0.heap.size, 1, none⟩ = some (.slice A1 S.length c1) := cell_of_heap h.box (j := 1) rfl
theorem LAt.k2 (h : LAt w0 A0 c0 F A1 c1 S A2 c2 T w) : w.cell? ⟨w0.heap.size, 2, none⟩ = some (.slice A2 T.length c2) := cell_of_heap h.box (j := 2) rfl
theorem LAt.rows (h : LAt w0 A0 c0 F A1 c1 S A2 c2 T w) : ∀ l, l ∈ T → l.length ≤ 9223372036854775807 := by
  intro l hl
  obtain ⟨j, hj, he⟩ := List.getElem_of_mem hl
  obtain ⟨ad, _, hc⟩ := h.C2.2.2 (by omega)
  obtain ⟨c, _, ⟨A', c', _, _, hC⟩, _⟩ := hc j l (by rw [List.getElem?_eq_getElem hj, he])
  exact hC.2.1
end
end Go.Proofs.Ytkmmihadcbfkoaa
end

section
namespace Go.Proofs.Ytkmmihadcbfkoaa
open Go.RowKit Go.Proofs.YtkmmihadcbfkoaaW.PrintWords PM
set_option linter.unusedVariables false
set_option linter.unusedSimpArgs false
section
variable {F : List Int} {S : List S50} {T : List (List Int)}
theorem chances_bad (h : ¬ (checkB F S T = 0 ∧ isF F S T = true)) : ∃ e : Int, e ≠ 0 ∧ match_Chances.f F S T = some ([], e) ∧ ∃ K, match_Must.f K F S T = some ([], e) := by
  by_cases hc : checkB F S T = 0
  · have his : isF F S T = false := by
      cases e : isF F S T with
      | false => rfl
      | true => exact absurd ⟨hc, e⟩ h
    obtain ⟨_, h2, h3, _⟩ := all_B hc his 0
    exact ⟨40, by decide, h2, h3⟩
  · obtain ⟨_, h2, h3, _⟩ := all_A hc 0
    exact ⟨_, hc, h2, h3⟩
theorem chances_row (F : List Int) (S : List S50) (T : List (List Int)) {i : Nat} (hi : i < F.length) : (allChances F S T).getD i [] = chancesF T (rooms S) S.length (hasF F S T) i := by
  unfold allChances
  rw [List.getD_eq_getElem?_getD, List.getElem?_map, List.getElem?_range hi]
  rfl
theorem every_at (hc : checkB F S T = 0) (his : isF F S T = true) {l : List Int} {i : Nat} (hi : i < F.length) : (((allChances F S T).getD i []).length = 1 → 0 ≤ (mustL (allChances F S T)).getD i 0) ∧
    (meetsB F S T l = true → i < l.length ∧ (0 ≤ (mustL (allChances F S T)).getD i 0 → l.getD i 0 = (mustL (allChances F S T)).getD i 0) ∧ (0 ≤ l.getD i 0 → l.getD i 0 ∈ (allChances F S T).getD i [])) := by
  have hnt := (bok_of_check hc).nt
  have hiT : i < T.length := by omega
  have hma := must_at (allChances F S T) (i := i) (by rw [(chances_small hc).1]; exact hi)
  have hmem : ∀ x, x ∈ (allChances F S T).getD i [] ↔ 0 ≤ x ∧ CanB S T i x := fun x => by
    rw [chances_row F S T hi]
    exact mem_chances hc his hiT
  obtain ⟨row, erow⟩ : ∃ row, (allChances F S T).getD i [] = row := ⟨_, rfl⟩
  rw [erow] at hma hmem ⊢
  have h0 : row.length = 1 → row.getD 0 0 ∈ row := fun h => by
    rw [List.getD_eq_getElem?_getD, List.getElem?_eq_getElem (show 0 < row.length by omega)]
    exact List.getElem_mem _
  refine ⟨fun h => ?_, fun hm => ?_⟩
  · rw [hma, if_pos h]
    exact ((hmem _).1 (h0 h)).1
  · have ha := (meets_iff hc l).1 hm
    refine ⟨by rw [ha.len]; exact hiT, fun hk => ?_, fun hk => (hmem _).2 ⟨hk, l, ha, rfl⟩⟩
    rw [hma] at hk ⊢
    by_cases h : row.length = 1
    · rw [if_pos h] at hk ⊢
      obtain ⟨_, l2, ha2, hl2⟩ := (hmem _).1 (h0 h)
      have hne : T.getD i [] ≠ [] := fun e => by
        have := ha2.none i hiT (Or.inl e)
        omega
      have hin := ha.some i hiT hne (by omega)
      have hl0 := (fitsok_of hc i hiT _ hin).1
      have hmr := (hmem (l.getD i 0)).2 ⟨hl0, l, ha, rfl⟩
      obtain ⟨x, ex⟩ : ∃ x, row = [x] := List.length_eq_one_iff.1 h
      rw [ex] at hmr ⊢
      exact List.mem_singleton.1 hmr
    · rw [if_neg h] at hk
      omega
theorem every_may (hc : checkB F S T = 0) (his : isF F S T = true) {fn s : Nat} (hf : fn < F.length) (hs : s < S.length) : match_May.f F S T (fn : Int) (s : Int) = some (decide ((s : Int) ∈ (allChances F S T).getD fn []), 0) := by
  have hnt := (bok_of_check hc).nt
  have hq : askB F S T (fn : Int) (s : Int) false false = 0 := by
    unfold askB
    rw [if_neg (fun k => k hc)]
    have h1 : inB (fn : Int) 0 ((F.length : Int) - 1) = true := by unfold inB; rw [Bool.and_eq_true, decide_eq_true_eq, decide_eq_true_eq]; omega
    have h2 : inB (s : Int) 0 ((S.length : Int) - 1) = true := by unfold inB; rw [Bool.and_eq_true, decide_eq_true_eq, decide_eq_true_eq]; omega
    rw [h1, h2]
    rfl
  obtain ⟨t, r, may, h⟩ := shown_is hq his
  rw [shown_may h, chances_row F S T hf]
  congr 2
  have := h.can
  have hm := mem_chances (F := F) hc his (f := fn) (by omega) (x := (s : Int))
  cases may with
  | true => exact (decide_eq_true (hm.2 ⟨by omega, this.1 rfl⟩)).symm
  | false =>
    refine (decide_eq_false fun k => ?_).symm
    have := this.2 (hm.1 k).2
    cases this
theorem every_ask (hc : checkB F S T = 0) {fn : Nat} (hf : fn < F.length) : askB F S T (fn : Int) 0 false true = 0 := by
  unfold askB
  rw [if_neg (fun k => k hc)]
  have h1 : inB (fn : Int) 0 ((F.length : Int) - 1) = true := by unfold inB; rw [Bool.and_eq_true, decide_eq_true_eq, decide_eq_true_eq]; omega
  rw [h1]
  rfl
/-- What Within comes to for a find that there is, on a board with an assignment. -/
theorem every_within (hc : checkB F S T = 0) (his : isF F S T = true) {fn : Nat} (hf : fn < F.length) (sl : List Int) :
    withinP F S T (fn : Int) sl = if risB sl 0 ((S.length : Int) - 1) = false then (false, 1) else (decide ((((allChances F S T).getD fn []).length : Int) > 0) && ((allChances F S T).getD fn []).all fun s => decide (s ∈ sl), 0) := by
  unfold withinP
  rw [if_neg (fun k => k (every_ask hc hf)), if_neg (show ¬ isF F S T = false by rw [his]; simp), Int.toNat_natCast, chances_row F S T hf]
end
theorem all_take_step (row sl : List Int) (i : Nat) (h : i < row.length) : (row.take (i + 1)).all (fun s => decide (s ∈ sl)) = ((row.take i).all (fun s => decide (s ∈ sl)) && decide (row.getD i 0 ∈ sl)) := by
  rw [List.take_add_one, List.all_append, List.getElem?_eq_getElem h, List.getD_eq_getElem?_getD, List.getElem?_eq_getElem h]
  simp
/-- What stands in the loops of MatchEvery. -/
structure EvI (w0 : World) (A0 : Option Addr) (c0 : Nat) (F : List Int) (A1 : Option Addr) (c1 : Nat) (S : List S50) (A2 : Option Addr) (c2 : Nat) (T : List (List Int)) (Am : Option Addr) (cm : Nat) (ml : List Int) (Ac : Option Addr) (cc : Nat) (ch : List (List Int)) (A3 : Option Addr) (c3 : Nat) (l : List Int) (A4 : Option Addr) (c4 : Nat) (sl : List Int) (w : World) : Prop where
  a : LAt w0 A0 c0 F A1 c1 S A2 c2 T w
  hm : Kd.C (Kd.int .i64) w Am ml.length ml
  lm : ml.length ≤ cm
  hc : Kd.C (Kd.slice 3 (Kd.int .i64)) w Ac ch.length ch
  lc : ch.length ≤ cc
  hl : Kd.C (Kd.int .i64) w A3 l.length l
  ll : l.length ≤ c3
  hs : Kd.C (Kd.int .i64) w A4 sl.length sl
  ls : sl.length ≤ c4
theorem EvI.later {w0 : World} {A0 : Option Addr} {c0 : Nat} {F : List Int} {A1 : Option Addr} {c1 : Nat} {S : List S50} {A2 : Option Addr} {c2 : Nat} {T : List (List Int)} {Am : Option Addr} {cm : Nat} {ml : List Int} {Ac : Option Addr} {cc : Nat} {ch : List (List Int)} {A3 : Option Addr} {c3 : Nat} {l : List Int} {A4 : Option Addr} {c4 : Nat} {sl : List Int} {w w' : World}
    (h : EvI w0 A0 c0 F A1 c1 S A2 c2 T Am cm ml Ac cc ch A3 c3 l A4 c4 sl w) (hb : Below w.heap.size w w') : EvI w0 A0 c0 F A1 c1 S A2 c2 T Am cm ml Ac cc ch A3 c3 l A4 c4 sl w' :=
  ⟨h.a.later hb, Kd.C_below h.hm hb, h.lm, Kd.C_below h.hc hb, h.lc, Kd.C_below h.hl hb, h.ll, Kd.C_below h.hs hb, h.ls⟩
/-- Has of a list that has it, in whatever world is reached. -/
theorem has_any {A : Option Addr} {c : Nat} {l : List Int} {x : Int} {w : World} (hr : Kd.C (Kd.int .i64) w A l.length l) (hc : l.length ≤ c) (h : x ∈ l) (W : World) (hb : Below w.heap.size w W) :
    Calls Try.prog 33 #[.slice A l.length c, .int .i64 x] W fun e w' => e = .returned (.bool true) ∧ Drawn0 W w' := by
  obtain ⟨K, hK⟩ := has_is l x hr.2.1
  have h1 := hK K (Nat.le_refl _)
  rw [decide_eq_true h] at h1
  exact laganref04_Has.calls K A c l x true W (Kd.C_below hr hb) hc h1
end Go.Proofs.Ytkmmihadcbfkoaa
end

section
namespace Go.Proofs.Ytkmmihadcbfkoaa
open Go.RowKit Go.Proofs.YtkmmihadcbfkoaaW.PrintWords PM
set_option linter.unusedVariables false
set_option linter.unusedSimpArgs false
set_option maxRecDepth 100000 in
set_option maxHeartbeats 8000000 in
theorem every_walk (A0 : Option Addr) (c0 : Nat) (F : List Int) (A1 : Option Addr) (c1 : Nat) (S : List S50) (A2 : Option Addr) (c2 : Nat) (T : List (List Int)) (A3 : Option Addr) (c3 : Nat) (l : List Int) (A4 : Option Addr) (c4 : Nat) (sl : List Int) (find : Int) (w : World)
    (hr0 : Kd.C (Kd.int .i64) w A0 F.length F) (hc0 : F.length ≤ c0) (hr1 : Kd.C k50 w A1 S.length S) (hc1 : S.length ≤ c1) (hr2 : Kd.C (Kd.slice 3 (Kd.int .i64)) w A2 T.length T) (hc2 : T.length ≤ c2) (hr3 : Kd.C (Kd.int .i64) w A3 l.length l) (hc3 : l.length ≤ c3) (hr4 : Kd.C (Kd.int .i64) w A4 sl.length sl) (hc4 : sl.length ≤ c4) :
    Calls Try.prog 8 #[.agg #[.slice A0 F.length c0, .slice A1 S.length c1, .slice A2 T.length c2], .slice A3 l.length c3, .slice A4 sl.length c4, .int .i64 find] w fun e w' => e = .returned (.bool true) ∧ Below w.heap.size w w' := by
  have HA := Go.Lib.hid (LAt.start hr0 hc0 hr1 hc1 hr2 hc2)
  have hB0 := (Below.refl w.heap.size w).alloc (Nat.le_refl _) (.cells #[.slice A0 F.length c0, .slice A1 S.length c1, .slice A2 T.length c2] 26)
  have Hl := Go.Lib.hid (And.intro hc3 (Kd.C_below hr3 hB0))
  have l3 := hr3.2.1
  have Hsl := Go.Lib.hid (And.intro hc4 (Kd.C_below hr4 hB0))
  have l4 := hr4.2.1
  have HS := Go.Lib.hid (And.intro hr0.2.1 (And.intro hr1.2.1 (And.intro hr2.2.1 HA.out.rows)))
  clear hr0 hc0 hr1 hc1 hr2 hc2 hB0 hr3 hc3 hr4 hc4
  obtain ⟨b, K, hK⟩ := wide_is F S T HS.out.2.2.1
  have HK := Go.Lib.hid (hK K (Nat.le_refl _))
  clear hK
  go_enter Try.func8, Try.ntmps8
  have k0 := HA.out.k0
  have k1 := HA.out.k1
  have k2 := HA.out.k2
  have CC := laganlaw04_wide.calls K A0 c0 F A1 c1 S A2 c2 T b _ HA.out.C0 HA.out.l0 HA.out.C1 HA.out.l1 HA.out.C2 HA.out.l2 HK.out
  go_wp2_with fail
  clear k0 k1 k2
  refine CC.mono ?_
  clear CC
  rintro e w1 ⟨rfl, hB⟩
  replace Hl := Go.Lib.hid (And.intro Hl.out.1 (Kd.C_below Hl.out.2 hB))
  replace Hsl := Go.Lib.hid (And.intro Hsl.out.1 (Kd.C_below Hsl.out.2 hB))
  replace HA := Go.Lib.hid (HA.out.later hB)
  have k0 := HA.out.k0
  have k1 := HA.out.k1
  have k2 := HA.out.k2
  clear hB
  clear HK
  cases b with
  | false =>
    have CC := matched_walk w1
    go_wp2_with fail
    clear k0 k1 k2
    refine CC.mono ?_
    clear CC
    rintro e w2 ⟨rfl, hB⟩
    replace Hl := Go.Lib.hid (And.intro Hl.out.1 (Kd.C_below Hl.out.2 hB))
    replace Hsl := Go.Lib.hid (And.intro Hsl.out.1 (Kd.C_below Hsl.out.2 hB))
    replace HA := Go.Lib.hid (HA.out.later hB)
    have k0 := HA.out.k0
    have k1 := HA.out.k1
    have k2 := HA.out.k2
    clear hB
    go_wp2_with fail
    go_ret
    exact ⟨rfl, HA.out.B⟩
  | true =>
    by_cases h3 : (l.length : Int) > 80
    · have g3 : decide ((l.length : Int) > 80) = true := decide_eq_true h3
      have CC := matched_walk w1
      go_wp2_with fail
      clear k0 k1 k2
      refine CC.mono ?_
      clear CC
      rintro e w2 ⟨rfl, hB⟩
      replace Hl := Go.Lib.hid (And.intro Hl.out.1 (Kd.C_below Hl.out.2 hB))
      replace Hsl := Go.Lib.hid (And.intro Hsl.out.1 (Kd.C_below Hsl.out.2 hB))
      replace HA := Go.Lib.hid (HA.out.later hB)
      have k0 := HA.out.k0
      have k1 := HA.out.k1
      have k2 := HA.out.k2
      clear hB
      go_wp2_with fail
      go_ret
      exact ⟨rfl, HA.out.B⟩
    · have g3 : decide ((l.length : Int) > 80) = false := decide_eq_false h3
      by_cases h4 : (sl.length : Int) > 50
      · have g4 : decide ((sl.length : Int) > 50) = true := decide_eq_true h4
        have CC := matched_walk w1
        go_wp2_with fail
        clear k0 k1 k2
        refine CC.mono ?_
        clear CC
        rintro e w2 ⟨rfl, hB⟩
        replace Hl := Go.Lib.hid (And.intro Hl.out.1 (Kd.C_below Hl.out.2 hB))
        replace Hsl := Go.Lib.hid (And.intro Hsl.out.1 (Kd.C_below Hsl.out.2 hB))
        replace HA := Go.Lib.hid (HA.out.later hB)
        have k0 := HA.out.k0
        have k1 := HA.out.k1
        have k2 := HA.out.k2
        clear hB
        go_wp2_with fail
        go_ret
        exact ⟨rfl, HA.out.B⟩
      · have g4 : decide ((sl.length : Int) > 50) = false := decide_eq_false h4
        by_cases hg : checkB F S T = 0 ∧ isF F S T = true
        rotate_left
        · obtain ⟨e, he, h1, KM, h2⟩ := chances_bad hg
          have HCh := Go.Lib.hid h1
          have HMu := Go.Lib.hid h2
          clear h1 h2 hg
          have CC := match_Chances.calls A0 c0 F A1 c1 S A2 c2 T _ _ w1 HA.out.C0 HA.out.l0 HA.out.C1 HA.out.l1 HA.out.C2 HA.out.l2 HCh.out
          go_wp2_with fail
          clear k0 k1 k2
          refine CC.mono ?_
          clear CC
          rintro e w2 ⟨v, rfl, hRv, hB⟩
          obtain ⟨Ac, cc, rfl, hl9, hC9⟩ := Kd.R_reads (Kd.S_R hRv)
          have Hc := Go.Lib.hid (And.intro hl9 hC9)
          clear hRv hl9 hC9
          replace Hl := Go.Lib.hid (And.intro Hl.out.1 (Kd.C_below Hl.out.2 hB))
          replace Hsl := Go.Lib.hid (And.intro Hsl.out.1 (Kd.C_below Hsl.out.2 hB))
          replace HA := Go.Lib.hid (HA.out.later hB)
          have k0 := HA.out.k0
          have k1 := HA.out.k1
          have k2 := HA.out.k2
          clear hB
          have CC := match_Must.calls KM A0 c0 F A1 c1 S A2 c2 T _ _ w2 HA.out.C0 HA.out.l0 HA.out.C1 HA.out.l1 HA.out.C2 HA.out.l2 HMu.out
          go_wp2_with fail
          clear k0 k1 k2
          refine CC.mono ?_
          clear CC
          rintro e w3 ⟨v, rfl, hRv, hB⟩
          obtain ⟨Am, cm, rfl, hl9, hC9⟩ := Kd.R_reads hRv
          have Hm := Go.Lib.hid (And.intro hl9 hC9)
          clear hRv hl9 hC9
          replace Hl := Go.Lib.hid (And.intro Hl.out.1 (Kd.C_below Hl.out.2 hB))
          replace Hsl := Go.Lib.hid (And.intro Hsl.out.1 (Kd.C_below Hsl.out.2 hB))
          replace Hc := Go.Lib.hid (And.intro Hc.out.1 (Kd.C_below Hc.out.2 hB))
          replace HA := Go.Lib.hid (HA.out.later hB)
          have k0 := HA.out.k0
          have k1 := HA.out.k1
          have k2 := HA.out.k2
          clear hB
          clear HCh HMu
          have g5 : decide (e = 0) = false := decide_eq_false he
          have CC := matched_walk w3
          go_wp2_with fail
          clear k0 k1 k2
          refine CC.mono ?_
          clear CC
          rintro e w4 ⟨rfl, hB⟩
          replace Hl := Go.Lib.hid (And.intro Hl.out.1 (Kd.C_below Hl.out.2 hB))
          replace Hsl := Go.Lib.hid (And.intro Hsl.out.1 (Kd.C_below Hsl.out.2 hB))
          replace Hc := Go.Lib.hid (And.intro Hc.out.1 (Kd.C_below Hc.out.2 hB))
          replace Hm := Go.Lib.hid (And.intro Hm.out.1 (Kd.C_below Hm.out.2 hB))
          replace HA := Go.Lib.hid (HA.out.later hB)
          have k0 := HA.out.k0
          have k1 := HA.out.k1
          have k2 := HA.out.k2
          clear hB
          go_wp2_with fail
          go_ret
          exact ⟨rfl, HA.out.B⟩
        · obtain ⟨hc, his⟩ := hg
          obtain ⟨_, h1, ⟨KM, h2⟩, _⟩ := all_C hc his 0
          obtain ⟨hcl, _⟩ := chances_small (F := F) (S := S) (T := T) hc
          have hml : (mustL (allChances F S T)).length = F.length := by unfold mustL; rw [List.length_map]; exact hcl
          have hat := fun i (h : i < F.length) => every_at hc his (l := l) h
          have hma := fun i h => must_at (allChances F S T) (i := i) h
          have hmay := fun fn s (h : fn < F.length) (k : s < S.length) => every_may hc his h k
          have hwi := fun fn (h : fn < F.length) => every_within hc his h sl
          have hf60 := (bok_of_check hc).nf
          have hs200 := (bok_of_check hc).ns
          have hMt : match_Meets.f 0 F S T l = some (meetsB F S T l, 0) := if_neg (fun h => h hc)
          obtain ⟨ch, ech⟩ : ∃ ch, allChances F S T = ch := ⟨_, rfl⟩
          obtain ⟨mt, emt⟩ : ∃ mt, meetsB F S T l = mt := ⟨_, rfl⟩
          rw [ech] at h1 h2 hcl hml
          simp only [ech] at hat hma hmay hwi
          rw [emt] at hMt
          simp only [emt] at hat
          obtain ⟨ml, eml⟩ : ∃ ml, mustL ch = ml := ⟨_, rfl⟩
          rw [eml] at h2 hml
          simp only [eml] at hat hma
          have HCh := Go.Lib.hid h1
          have HMu := Go.Lib.hid h2
          have HAt := Go.Lib.hid hat
          have HMa := Go.Lib.hid hma
          have HMay := Go.Lib.hid hmay
          have HWi := Go.Lib.hid hwi
          have HMt := Go.Lib.hid hMt
          have HN := Go.Lib.hid (And.intro hcl (And.intro hml (And.intro hf60 hs200)))
          clear h1 h2 hat hma hmay hwi hMt hcl hml hf60 hs200 hc his ech emt eml
          have CC := match_Chances.calls A0 c0 F A1 c1 S A2 c2 T _ _ w1 HA.out.C0 HA.out.l0 HA.out.C1 HA.out.l1 HA.out.C2 HA.out.l2 HCh.out
          go_wp2_with fail
          clear k0 k1 k2
          refine CC.mono ?_
          clear CC
          rintro e w2 ⟨v, rfl, hRv, hB⟩
          obtain ⟨Ac, cc, rfl, hl9, hC9⟩ := Kd.R_reads (Kd.S_R hRv)
          have Hc := Go.Lib.hid (And.intro hl9 hC9)
          clear hRv hl9 hC9
          replace Hl := Go.Lib.hid (And.intro Hl.out.1 (Kd.C_below Hl.out.2 hB))
          replace Hsl := Go.Lib.hid (And.intro Hsl.out.1 (Kd.C_below Hsl.out.2 hB))
          replace HA := Go.Lib.hid (HA.out.later hB)
          have k0 := HA.out.k0
          have k1 := HA.out.k1
          have k2 := HA.out.k2
          clear hB
          have CC := match_Must.calls KM A0 c0 F A1 c1 S A2 c2 T _ _ w2 HA.out.C0 HA.out.l0 HA.out.C1 HA.out.l1 HA.out.C2 HA.out.l2 HMu.out
          go_wp2_with fail
          clear k0 k1 k2
          refine CC.mono ?_
          clear CC
          rintro e w3 ⟨v, rfl, hRv, hB⟩
          obtain ⟨Am, cm, rfl, hl9, hC9⟩ := Kd.R_reads hRv
          have Hm := Go.Lib.hid (And.intro hl9 hC9)
          clear hRv hl9 hC9
          replace Hl := Go.Lib.hid (And.intro Hl.out.1 (Kd.C_below Hl.out.2 hB))
          replace Hsl := Go.Lib.hid (And.intro Hsl.out.1 (Kd.C_below Hsl.out.2 hB))
          replace Hc := Go.Lib.hid (And.intro Hc.out.1 (Kd.C_below Hc.out.2 hB))
          replace HA := Go.Lib.hid (HA.out.later hB)
          have k0 := HA.out.k0
          have k1 := HA.out.k1
          have k2 := HA.out.k2
          clear hB
          clear HCh HMu
          have CC := match_Meets.calls 0 A0 c0 F A1 c1 S A2 c2 T _ _ l _ _ w3 HA.out.C0 HA.out.l0 HA.out.C1 HA.out.l1 HA.out.C2 HA.out.l2 Hl.out.2 Hl.out.1 HMt.out
          go_wp2_with fail
          clear k0 k1 k2
          refine CC.mono ?_
          clear CC
          rintro e w4 ⟨rfl, hB⟩
          replace Hl := Go.Lib.hid (And.intro Hl.out.1 (Kd.C_below Hl.out.2 hB))
          replace Hsl := Go.Lib.hid (And.intro Hsl.out.1 (Kd.C_below Hsl.out.2 hB))
          replace Hc := Go.Lib.hid (And.intro Hc.out.1 (Kd.C_below Hc.out.2 hB))
          replace Hm := Go.Lib.hid (And.intro Hm.out.1 (Kd.C_below Hm.out.2 hB))
          replace HA := Go.Lib.hid (HA.out.later hB)
          have k0 := HA.out.k0
          have k1 := HA.out.k1
          have k2 := HA.out.k2
          clear hB
          clear HMt
          have e1 : ml.length = F.length := HN.out.2.1
          have e2 : ch.length = F.length := HN.out.1
          have g5 : ((ch.length : Int) != (F.length : Int)) = false := by rw [e2]; simp
          have g6 : ((ml.length : Int) != (F.length : Int)) = false := by rw [e1]; simp
          clear e1 e2
          go_wp2_with fail
          clear k0 k1 k2 g5 g6
          go_loopw [15] (fun i wr => ∃ k : Nat, k ≤ ch.length ∧ i = .int .i64 k ∧ Hid (EvI w A0 c0 F A1 c1 S A2 c2 T Am cm ml Ac cc ch A3 c3 l A4 c4 sl wr)) (fun i _ => ch.length - (intOf i).toNat)
          case atStart => exact ⟨0, Nat.zero_le _, rfl, HA.out, Hm.out.2, Hm.out.1, Hc.out.2, Hc.out.1, Hl.out.2, Hl.out.1, Hsl.out.2, Hsl.out.1⟩
          case round =>
            obtain ⟨k, hk, rfl, HI⟩ := hrel
            clear Hm Hc Hl Hsl HA
            have h60 : ch.length ≤ 60 := by rw [HN.out.1]; exact HN.out.2.2.1
            by_cases hlt : k < ch.length
            · have hkF : k < F.length := by rw [← HN.out.1]; exact hlt
              have hkm : k < ml.length := by rw [HN.out.2.1]; exact hkF
              have hma := HMa.out k hlt
              obtain ⟨hp1, hat⟩ := HAt.out k hkF
              obtain ⟨ad, Ar, cr, ead, hcell, hlr, hCr⟩ := rows_at HI.out.hc (k : Int) (by omega) (by omega)
              obtain ⟨am, eam, hcm⟩ := Kd.at_int HI.out.hm (k : Int) (by omega) (by omega)
              rw [Int.toNat_natCast] at hcell hlr hCr hcm
              rw [rd_nat] at hcm
              obtain ⟨row, erow⟩ : ∃ row, ch.getD k [] = row := ⟨_, rfl⟩
              obtain ⟨mk, emk⟩ : ∃ mk, ml.getD k 0 = mk := ⟨_, rfl⟩
              obtain ⟨lk, elk⟩ : ∃ lk, l.getD k 0 = lk := ⟨_, rfl⟩
              rw [erow] at hcell hlr hCr hma hp1 hat
              rw [emk] at hma hcm hp1 hat
              rw [elk] at hat
              cases ead
              cases eam
              have HCr := Go.Lib.hid (And.intro hlr hCr)
              have HK2 := Go.Lib.hid (And.intro hp1 hat)
              have HElk := Go.Lib.hid elk
              clear hCr hlr erow emk elk hp1 hat
              by_cases h1 : row.length = 1
              · obtain ⟨a1, ea1, hc1⟩ := Kd.at_int HCr.out.2 0 (by omega) (by omega)
                rw [if_pos h1] at hma
                rw [show ((0 : Int)).toNat = 0 from rfl] at hc1
                rw [Addr.add_zero'] at hc1
                have er : rd row 0 = mk := by rw [hma]; rfl
                rw [er] at hc1
                cases ea1
                have hmp := HK2.out.1 h1
                have g7 : decide (mk ≥ 0) = true := decide_eq_true hmp
                have HCr1 := Go.Lib.hid HCr.out
                rw [h1] at hcell
                have REL := Go.Lib.hid HI.out
                clear hma er HCr
                cases mt with
                | false =>
                  clear HI HCr1 HK2 h1
                  go_wp2_with fail
                  go_quiet (fail)
                  go_wp2_with fail
                  go_quiet (fail)
                  go_wp2_with fail
                  go_roundw
                  case rel => exact ⟨k + 1, by omega, by simp, REL.out.later (by repeat (first | exact Below.refl _ _ | refine pw_below_drewN ?_ _))⟩
                  case measure => simp [intOf]; omega
                | true =>
                  have hll := (HK2.out.2 rfl).1
                  obtain ⟨al, eal, hcl⟩ := Kd.at_int HI.out.hl (k : Int) (by omega) (by omega)
                  rw [Int.toNat_natCast] at hcl
                  rw [rd_nat, HElk.out] at hcl
                  cases eal
                  have elm : lk = mk := (HK2.out.2 rfl).2.1 hmp
                  have hin : mk ∈ row := by rw [← elm]; exact (HK2.out.2 rfl).2.2 (by rw [elm]; exact hmp)
                  rw [elm] at hcl
                  have HQ := has_any HCr1.out.2 HCr1.out.1 hin
                  rw [h1] at HQ
                  clear elm hin HI HCr1 HK2 h1 HElk
                  go_wp2_with fail
                  go_quiet (fail)
                  go_wp2_with fail
                  go_quiet (first | (go_at_call 33; refine (HQ _ (by repeat (first | exact Below.refl _ _ | refine pw_below_drewN ?_ _))).mono ?_; rintro e w' ⟨rfl, ⟨nd, rfl⟩⟩; first | exact ⟨rfl, _, rfl⟩ | exact ⟨rfl, _, World.drewN_drewN _ _ _⟩ | exact ⟨rfl, _, Eq.trans (World.drewN_drewN _ _ _) (congrArg (World.drewN _) (Nat.add_assoc _ _ _))⟩))
                  go_wp2_with fail
                  go_roundw
                  case rel => exact ⟨k + 1, by omega, by simp, REL.out.later (by repeat (first | exact Below.refl _ _ | refine pw_below_drewN ?_ _))⟩
                  case measure => simp [intOf]; omega
              · rw [if_neg h1] at hma
                have g6 : decide ((row.length : Int) = 1) = false := decide_eq_false (by omega)
                have g7 : ((row.length : Int) != 1) = true := by simp; omega
                have g6b : ((row.length : Int) == 1) = false := by simp; omega
                subst hma
                have REL := Go.Lib.hid HI.out
                cases mt with
                | false =>
                  clear HI HCr HK2
                  go_wp2_with fail
                  go_quiet (fail)
                  go_wp2_with fail
                  go_quiet (fail)
                  go_wp2_with fail
                  go_roundw
                  case rel => exact ⟨k + 1, by omega, by simp, REL.out.later (by repeat (first | exact Below.refl _ _ | refine pw_below_drewN ?_ _))⟩
                  case measure => simp [intOf]; omega
                | true =>
                  have hll := (HK2.out.2 rfl).1
                  obtain ⟨al, eal, hcl⟩ := Kd.at_int HI.out.hl (k : Int) (by omega) (by omega)
                  rw [Int.toNat_natCast] at hcl
                  rw [rd_nat, HElk.out] at hcl
                  cases eal
                  by_cases hlp : 0 ≤ lk
                  · have hin : lk ∈ row := (HK2.out.2 rfl).2.2 hlp
                    have g8 : decide (lk ≥ 0) = true := decide_eq_true hlp
                    have HQ := has_any HCr.out.2 HCr.out.1 hin
                    clear hin HI HCr HK2 HElk
                    go_wp2_with fail
                    go_quiet (fail)
                    go_wp2_with fail
                    go_quiet (first | (go_at_call 33; refine (HQ _ (by repeat (first | exact Below.refl _ _ | refine pw_below_drewN ?_ _))).mono ?_; rintro e w' ⟨rfl, ⟨nd, rfl⟩⟩; first | exact ⟨rfl, _, rfl⟩ | exact ⟨rfl, _, World.drewN_drewN _ _ _⟩ | exact ⟨rfl, _, Eq.trans (World.drewN_drewN _ _ _) (congrArg (World.drewN _) (Nat.add_assoc _ _ _))⟩))
                    go_wp2_with fail
                    go_roundw
                    case rel => exact ⟨k + 1, by omega, by simp, REL.out.later (by repeat (first | exact Below.refl _ _ | refine pw_below_drewN ?_ _))⟩
                    case measure => simp [intOf]; omega
                  · have g8 : decide (lk ≥ 0) = false := decide_eq_false (by omega)
                    clear HI HCr HK2 HElk
                    go_wp2_with fail
                    go_quiet (fail)
                    go_wp2_with fail
                    go_quiet (fail)
                    go_wp2_with fail
                    go_roundw
                    case rel => exact ⟨k + 1, by omega, by simp, REL.out.later (by repeat (first | exact Below.refl _ _ | refine pw_below_drewN ?_ _))⟩
                    case measure => simp [intOf]; omega
            · obtain rfl : k = ch.length := by omega
              have HA := Go.Lib.hid HI.out.a
              clear HMa HAt hk h60 hlt
              have k0 := HA.out.k0
              have k1 := HA.out.k1
              have k2 := HA.out.k2
              by_cases o1 : find < 0
              · have g5 : decide (find < 0) = true := decide_eq_true o1
                have CC := matched_walk wr
                go_wp2_with fail
                clear k0 k1 k2
                refine CC.mono ?_
                clear CC
                rintro e w5 ⟨rfl, hB⟩
                replace HA := Go.Lib.hid (HA.out.later hB)
                have k0 := HA.out.k0
                have k1 := HA.out.k1
                have k2 := HA.out.k2
                clear hB
                go_wp2_with fail
                go_ret
                exact ⟨rfl, HA.out.B⟩
              · have g5 : decide (find < 0) = false := decide_eq_false o1
                by_cases o2 : find ≥ (ch.length : Int)
                · have g6 : decide (find ≥ (ch.length : Int)) = true := decide_eq_true o2
                  have CC := matched_walk wr
                  go_wp2_with fail
                  clear k0 k1 k2
                  refine CC.mono ?_
                  clear CC
                  rintro e w5 ⟨rfl, hB⟩
                  replace HA := Go.Lib.hid (HA.out.later hB)
                  have k0 := HA.out.k0
                  have k1 := HA.out.k1
                  have k2 := HA.out.k2
                  clear hB
                  go_wp2_with fail
                  go_ret
                  exact ⟨rfl, HA.out.B⟩
                · have g6 : decide (find ≥ (ch.length : Int)) = false := decide_eq_false o2
                  obtain ⟨fn, rfl⟩ : ∃ fn : Nat, find = (fn : Int) := ⟨find.toNat, by omega⟩
                  have hfc : fn < ch.length := by omega
                  have hfF : fn < F.length := by rw [← HN.out.1]; exact hfc
                  have hwi := HWi.out fn hfF
                  have hmay := fun s k => HMay.out fn s hfF k
                  obtain ⟨row, erow⟩ : ∃ row, ch.getD fn [] = row := ⟨_, rfl⟩
                  have hrl : ∀ w', EvI w A0 c0 F A1 c1 S A2 c2 T Am cm ml Ac cc ch A3 c3 l A4 c4 sl w' → ∃ ad Ar cr, Ac = some ad ∧ w'.cell? (ad.add fn) = some (.slice Ar row.length cr) ∧ row.length ≤ cr ∧ Kd.C (Kd.int .i64) w' Ar row.length row := fun w' hw => by
                    obtain ⟨ad, Ar, cr, ead, hcell, hlr, hCr⟩ := rows_at hw.hc (fn : Int) (by omega) (by omega)
                    rw [Int.toNat_natCast, erow] at hcell hlr hCr
                    exact ⟨ad, Ar, cr, ead, hcell, hlr, hCr⟩
                  simp only [erow] at hwi hmay
                  have HWi2 := Go.Lib.hid hwi
                  have HMay2 := Go.Lib.hid hmay
                  have HRl := Go.Lib.hid hrl
                  have HFn := Go.Lib.hid (And.intro hfc hfF)
                  have g6c : decide (ch.length ≤ fn) = false := decide_eq_false (by omega)
                  clear hwi hmay hrl erow HWi HMay o1 o2 hfF
                  obtain ⟨ad, Ar0, cr0, ead, hc9, hl9, hC9⟩ := HRl.out _ HI.out
                  clear hc9 hl9 hC9
                  subst ead
                  have q0 : (0 ≤ (fn : Int)) = True := eq_true (by omega)
                  have q1 : ((fn : Int) < (ch.length : Int)) = True := eq_true (by omega)
                  go_wp2_with fail
                  clear k0 k1 k2 HA
                  go_loopw [16] (fun i wr => ∃ k : Nat, k ≤ S.length ∧ i = .int .i64 k ∧ Hid (EvI w A0 c0 F A1 c1 S A2 c2 T Am cm ml (some ad) cc ch A3 c3 l A4 c4 sl wr)) (fun i _ => S.length - (intOf i).toNat)
                  case atStart => exact ⟨0, Nat.zero_le _, rfl, HI.out⟩
                  case round =>
                    clear HI
                    obtain ⟨k, hk, rfl, HI⟩ := hrel
                    have h200 : S.length ≤ 200 := HN.out.2.2.2
                    have HA := Go.Lib.hid HI.out.a
                    have k0 := HA.out.k0
                    have k1 := HA.out.k1
                    have k2 := HA.out.k2
                    by_cases hlt : k < S.length
                    · have hm := HMay2.out k hlt
                      obtain ⟨mb, emb⟩ : ∃ mb, decide ((k : Int) ∈ row) = mb := ⟨_, rfl⟩
                      rw [emb] at hm
                      have HM := Go.Lib.hid hm
                      have HMb := Go.Lib.hid emb
                      clear hm emb
                      have CC := match_May.calls A0 c0 F A1 c1 S A2 c2 T (fn : Int) (k : Int) _ _ wr HA.out.C0 HA.out.l0 HA.out.C1 HA.out.l1 HA.out.C2 HA.out.l2 HM.out
                      go_wp2_with fail
                      clear k0 k1 k2
                      refine CC.mono ?_
                      clear CC
                      rintro e w2 ⟨rfl, hB⟩
                      have HI2 := Go.Lib.hid (HI.out.later hB)
                      clear hB HI HA HM
                      obtain ⟨ad9, Ar, cr, ead, hcell, hlr, hCr⟩ := HRl.out _ HI2.out
                      cases ead
                      obtain ⟨K2, hK2⟩ := has_is row (k : Int) hCr.2.1
                      have hh := hK2 K2 (Nat.le_refl _)
                      rw [HMb.out] at hh
                      have CC := laganref04_Has.calls K2 Ar cr row (k : Int) mb w2 hCr hlr hh
                      have lrow := hCr.2.1
                      clear hK2 hh hCr hlr
                      cases mb with
                      | true =>
                        go_wp2_with fail
                        refine CC.mono ?_
                        clear CC
                        rintro e w3 ⟨rfl, hd⟩
                        have HI3 := Go.Lib.hid (HI2.out.later hd.below)
                        clear hd HI2
                        go_wp2_with fail
                        go_roundw
                        case rel => exact ⟨k + 1, by omega, by simp, HI3.out⟩
                        case measure => simp [intOf]; omega
                      | false =>
                        go_wp2_with fail
                        refine CC.mono ?_
                        clear CC
                        rintro e w3 ⟨rfl, hd⟩
                        have HI3 := Go.Lib.hid (HI2.out.later hd.below)
                        clear hd HI2
                        go_wp2_with fail
                        go_roundw
                        case rel => exact ⟨k + 1, by omega, by simp, HI3.out⟩
                        case measure => simp [intOf]; omega
                    · obtain rfl : k = S.length := by omega
                      clear hk h200 hlt HMay2
                      have CC := within_calls A0 c0 F A1 c1 S A2 c2 T (fn : Int) A4 c4 sl wr HA.out.C0 HA.out.l0 HA.out.C1 HA.out.l1 HA.out.C2 HA.out.l2 HI.out.hs HI.out.ls
                      rw [HWi2.out] at CC
                      cases hr : risB sl 0 ((S.length : Int) - 1) with
                      | false =>
                        rw [if_pos hr] at CC
                        clear hr
                        go_wp2_with fail
                        clear k0 k1 k2
                        refine CC.mono ?_
                        clear CC
                        rintro e w2 ⟨rfl, hB⟩
                        replace HA := Go.Lib.hid (HA.out.later hB)
                        have k0 := HA.out.k0
                        have k1 := HA.out.k1
                        have k2 := HA.out.k2
                        clear hB HI
                        have CC := matched_walk w2
                        go_wp2_with fail
                        clear k0 k1 k2
                        refine CC.mono ?_
                        clear CC
                        rintro e w5 ⟨rfl, hB⟩
                        replace HA := Go.Lib.hid (HA.out.later hB)
                        have k0 := HA.out.k0
                        have k1 := HA.out.k1
                        have k2 := HA.out.k2
                        clear hB
                        go_wp2_with fail
                        go_ret
                        exact ⟨rfl, HA.out.B⟩
                      | true =>
                        rw [if_neg (by rw [hr]; simp)] at CC
                        clear hr
                        obtain ⟨yes, eyes⟩ : ∃ yes, (decide ((row.length : Int) > 0) && row.all fun s => decide (s ∈ sl)) = yes := ⟨_, rfl⟩
                        rw [eyes] at CC
                        have HY := Go.Lib.hid eyes
                        clear eyes HWi2
                        go_wp2_with fail
                        clear k0 k1 k2
                        refine CC.mono ?_
                        clear CC
                        rintro e w2 ⟨rfl, hB⟩
                        have HI2 := Go.Lib.hid (HI.out.later hB)
                        clear hB HI HA
                        obtain ⟨ad8, Ar, cr, ead, hcell, hlr, hCr⟩ := HRl.out _ HI2.out
                        cases ead
                        have HR9 := Go.Lib.hid (And.intro hlr hCr)
                        have lrow := hCr.2.1
                        clear hlr hCr
                        have HC2 := Go.Lib.hid hcell
                        obtain ⟨p, ep⟩ : ∃ p, decide ((row.length : Int) > 0) = p := ⟨_, rfl⟩
                        have hpn : decide ((row.length : Int) > 0) = p := ep
                        have hy2 := HY.out
                        rw [ep] at hy2
                        replace HY := Go.Lib.hid hy2
                        clear hy2
                        by_cases hrp : (row.length : Int) > 0
                        · have ep2 : p = true := by rw [← ep]; exact decide_eq_true hrp
                          have g7 : 0 < row.length := by omega
                          have g8 : (row = []) = False := eq_false (fun e => by rw [e] at g7; exact absurd g7 (by simp))
                          have g9 : decide ((row.length : Int) > 0) = true := decide_eq_true hrp
                          clear ep hpn hrp
                          subst ep2
                          go_wp2_with fail
                          go_loopw [21, 22] (fun y i wr => ∃ k : Nat, k ≤ row.length ∧ i = .int .i64 k ∧ (∃ yb, y = .bool yb ∧ Hid ((row.take k).all (fun s => decide (s ∈ sl)) = yb)) ∧ Hid (EvI w A0 c0 F A1 c1 S A2 c2 T Am cm ml (some ad) cc ch A3 c3 l A4 c4 sl wr)) (fun _ i _ => row.length - (intOf i).toNat)
                          case atStart => exact ⟨0, Nat.zero_le _, rfl, ⟨true, rfl, rfl⟩, HI2.out⟩
                          case round =>
                            clear HI2 hcell HC2 HR9
                            obtain ⟨k, hk, rfl, ⟨yb, rfl, HYb⟩, HI⟩ := hrel
                            obtain ⟨ad9, Ar9, cr9, ead9, hcell, hlr, hCr⟩ := HRl.out _ HI.out
                            cases ead9
                            by_cases hlt : k < row.length
                            · obtain ⟨ax, eax, hx⟩ := Kd.at_int hCr (k : Int) (by omega) (by omega)
                              rw [Int.toNat_natCast] at hx
                              rw [rd_nat] at hx
                              have hst := all_take_step row sl k hlt
                              obtain ⟨x, ex⟩ : ∃ x, row.getD k 0 = x := ⟨_, rfl⟩
                              rw [ex] at hx hst
                              cases eax
                              rw [HYb.out] at hst
                              have HSt := Go.Lib.hid hst
                              clear hst ex hlr hCr
                              cases yb with
                              | false =>
                                go_wp2_with fail
                                go_roundw
                                case rel => exact ⟨k + 1, by omega, by simp, ⟨false, by simp, by rw [HSt.out]; rfl⟩, HI.out⟩
                                case measure => simp [intOf]; omega
                              | true =>
                                obtain ⟨hb, ehb⟩ : ∃ hb, decide (x ∈ sl) = hb := ⟨_, rfl⟩
                                obtain ⟨K2, hK2⟩ := has_is sl x HI.out.hs.2.1
                                have hh := hK2 K2 (Nat.le_refl _)
                                rw [ehb] at hh
                                have CC := laganref04_Has.calls K2 A4 c4 sl x hb wr HI.out.hs HI.out.ls hh
                                have hst := HSt.out
                                rw [ehb, Bool.true_and] at hst
                                replace HSt := Go.Lib.hid hst
                                clear hst ehb hh hK2
                                go_wp2_with fail
                                refine CC.mono ?_
                                clear CC
                                rintro e w3 ⟨rfl, hd⟩
                                have HI3 := Go.Lib.hid (HI.out.later hd.below)
                                clear hd HI
                                cases hb with
                                | true =>
                                  go_wp2_with fail
                                  go_roundw
                                  case rel => exact ⟨k + 1, by omega, by simp, ⟨true, by simp, HSt.out⟩, HI3.out⟩
                                  case measure => simp [intOf]; omega
                                | false =>
                                  go_wp2_with fail
                                  go_roundw
                                  case rel => exact ⟨k + 1, by omega, by simp, ⟨false, by simp, HSt.out⟩, HI3.out⟩
                                  case measure => simp [intOf]; omega
                            · obtain rfl : k = row.length := by omega
                              have hyb := HYb.out
                              rw [List.take_length] at hyb
                              have hy4 := HY.out
                              rw [Bool.true_and, hyb] at hy4
                              subst hy4
                              clear hyb HY HYb hlr hCr
                              have CC := matched_walk wr
                              cases yb with
                              | false =>
                                go_wp2_with fail
                                refine CC.mono ?_
                                clear CC
                                rintro e w3 ⟨rfl, hB⟩
                                have HB := Go.Lib.hid (HI.out.a.B.trans (hB.mono HI.out.a.B.size))
                                clear hB
                                go_wp2_with fail
                                go_ret
                                exact ⟨rfl, HB.out⟩
                              | true =>
                                go_wp2_with fail
                                refine CC.mono ?_
                                clear CC
                                rintro e w3 ⟨rfl, hB⟩
                                have HB := Go.Lib.hid (HI.out.a.B.trans (hB.mono HI.out.a.B.size))
                                clear hB
                                go_wp2_with fail
                                go_ret
                                exact ⟨rfl, HB.out⟩
                        · have ep2 : p = false := by rw [← ep]; exact decide_eq_false hrp
                          have g7 : row = [] := List.length_eq_zero_iff.1 (by omega)
                          clear ep hpn hrp
                          subst ep2
                          subst g7
                          have hy3 := HY.out
                          rw [Bool.false_and] at hy3
                          subst hy3
                          go_wp2_with fail
                          go_loopw [21, 22] (fun y i wr => i = .int .i64 0 ∧ y = .bool false ∧ Hid (EvI w A0 c0 F A1 c1 S A2 c2 T Am cm ml (some ad) cc ch A3 c3 l A4 c4 sl wr)) (fun _ i _ => 0)
                          case atStart => exact ⟨rfl, rfl, HI2.out⟩
                          case round =>
                            clear HI2 hcell HC2 HR9
                            obtain ⟨rfl, rfl, HI⟩ := hrel
                            obtain ⟨ad9, Ar9, cr9, ead9, hcell, hlr, hCr⟩ := HRl.out _ HI.out
                            cases ead9
                            clear hlr hCr
                            have CC := matched_walk wr
                            go_wp2_with fail
                            refine CC.mono ?_
                            clear CC
                            rintro e w3 ⟨rfl, hB⟩
                            have HB := Go.Lib.hid (HI.out.a.B.trans (hB.mono HI.out.a.B.size))
                            clear hB
                            go_wp2_with fail
                            go_ret
                            exact ⟨rfl, HB.out⟩
end Go.Proofs.Ytkmmihadcbfkoaa
end

section
namespace Go.Proofs.Ytkmmihadcbfkoaa
open Go.ChangeShapes Go.WideShapes Go.RowKit Go.Deep Go.Joins Go.Proofs.YtkmmihadcbfkoaaW.PrintWords PM
set_option linter.unusedVariables false
set_option linter.unusedSimpArgs false
section
variable {H : Type} {enc : TypeId × Value → H} {W : World} {base : Nat} {held : Bool}
theorem C_of_cells {A : Option Addr} {L C : Nat} {Z : List Int} (hl : L ≤ C) (hm : C ≤ maxLen) (hz : Z.length = C) (hn : A = none → C = 0) (hc : ∀ a, A = some a → ∀ c, c < C → W.cell? (a.add c) = some (.int .i64 (Z.getD c 0))) :
    (Z.take L).length = L ∧ Kd.C (Kd.int .i64) W A L (Z.take L) := by
  have hlen : (Z.take L).length = L := by rw [List.length_take]; omega
  have hmx : maxLen = 9223372036854775807 := rfl
  refine ⟨hlen, ?_⟩
  cases A with
  | none =>
    have h0 : L = 0 := by have := hn rfl; omega
    subst h0
    exact Kd.C_nil _ _
  | some a =>
    refine Kd.C_of_reads (enc := Value.int .i64) (d := (0 : Int)) (h1 := fun _ => rfl) ⟨hlen, by omega, fun _ => ⟨a, rfl, fun j hj => ?_⟩⟩
    rw [hc a rfl j (by omega)]
    simp [List.getD_eq_getElem?_getD, List.getElem?_take, hj]
theorem open_intsC {fuel : Nat} {cs : List Value} {x : DataW H × List MemPlace} (h : DataW.trod enc Try.prog W base (fun _ => true) held fuel 22 cs = some x) :
    ∃ A c F, cs = [.slice A F.length c] ∧ F.length ≤ c ∧ Kd.C (Kd.int .i64) W A F.length F := by
  rcases open_ints Try.underlying22 Try.underlying3 (by kernel_rfl) h with ⟨rfl, _⟩ | ⟨a, len, cap, zs, rfl, _, hl, hm, hz, _, hcell, _⟩
  · exact ⟨none, 0, [], rfl, Nat.zero_le _, Kd.C_nil _ _⟩
  · simp only [if_true] at hz
    obtain ⟨e, hC⟩ := C_of_cells (W := W) (A := some a) (L := len) (C := cap) (Z := zs) hl hm hz (fun k => by cases k) (fun a' k c hc => by cases k; exact hcell c (by omega))
    exact ⟨some a, cap, zs.take len, by rw [e], by rw [e]; exact hl, by rw [e]; exact hC⟩
theorem open_rowsC {fuel : Nat} {cs : List Value} {x : DataW H × List MemPlace} (h : DataW.trod enc Try.prog W base (fun _ => true) held fuel 24 cs = some x) :
    ∃ A c T, cs = [.slice A T.length c] ∧ T.length ≤ c ∧ Kd.C (Kd.slice 3 (Kd.int .i64)) W A T.length T := by
  rcases open_int_rows Try.underlying24 Try.underlying22 Try.underlying3 (by kernel_rfl) (by kernel_rfl) h with ⟨rfl, _⟩ | ⟨a, len, cap, A, L, C, Z, rfl, _, hl, hm, _, hr⟩
  · exact ⟨none, 0, [], rfl, Nat.zero_le _, Kd.C_nil _ _⟩
  · have hmx : maxLen = 9223372036854775807 := rfl
    have hlen : ((List.range len).map fun r => (Z r).take (L r)).length = len := by simp
    refine ⟨some a, cap, (List.range len).map fun r => (Z r).take (L r), by rw [hlen], by rw [hlen]; exact hl, ?_⟩
    rw [hlen]
    refine ⟨hlen, by omega, fun _ => ⟨a, rfl, fun j p hj => ?_⟩⟩
    obtain ⟨hjl, hp⟩ := List.getElem?_eq_some_iff.1 hj
    rw [hlen] at hjl
    rw [List.getElem_map, List.getElem_range] at hp
    obtain ⟨h1, h2, h3, h4, _, h6, h7⟩ := hr j (by omega)
    obtain ⟨e, hC⟩ := C_of_cells (W := W) (A := A j) h2 h3 h4 h6 (fun a' k => (h7 a' k).2)
    rw [hp] at e hC
    refine ⟨[.slice (A j) (L j) (C j)], rfl, ⟨A j, C j, by rw [e], by rw [e]; exact h2, by rw [e]; exact hC⟩, fun i u hu => ?_⟩
    cases i with
    | zero =>
      simp only [List.getElem?_cons_zero, Option.some.injEq] at hu
      subst hu
      show W.cell? (a.add (j * 1 + 0)) = _
      rw [Nat.mul_one, Nat.add_zero]
      exact h1
    | succ i => simp at hu
set_option maxRecDepth 100000 in
theorem open_slotsC {fuel : Nat} {cs : List Value} {x : DataW H × List MemPlace} (h : DataW.trod enc Try.prog W base (fun _ => true) held fuel 23 cs = some x) :
    ∃ A c S, cs = [.slice A S.length c] ∧ S.length ≤ c ∧ Kd.C k50 W A S.length S := by
  rcases open_slice Try.underlying23 h with ⟨rfl, _⟩ | ⟨a, len, cap, m, n, D, Pl, rfl, _, hl, hm, hmm, _, hx⟩
  · exact ⟨none, 0, [], rfl, Nat.zero_le _, Kd.C_nil _ _⟩
  · simp only [if_true] at hmm
    have hmx : maxLen = 9223372036854775807 := rfl
    have hsz : Try.prog.cellsOf 50 = 3 := by kernel_rfl
    have c3 : Try.prog.cellsOf 3 = 1 := by kernel_rfl
    rw [hsz] at hx
    have each : ∀ i, i < len → ∃ s : Int × Int × Int, W.cell? (a.add (i * 3 + 0)) = some (.int .i64 s.1) ∧ W.cell? (a.add (i * 3 + 1)) = some (.int .i64 s.2.1) ∧ W.cell? (a.add (i * 3 + 2)) = some (.int .i64 s.2.2) := fun i hi => by
      obtain ⟨cs', hcs, ht⟩ := hx i (by omega)
      obtain ⟨_, hlen, hcell⟩ := World.cells?_some hcs
      obtain ⟨y0, y1, y2, n', _, _, g0, g1, g2⟩ := trod_struct3 Try.underlying50 ht
      obtain ⟨u0, u1, u2, rfl⟩ : ∃ u0 u1 u2, cs' = [u0, u1, u2] := by
        match cs', hlen with
        | [u0, u1, u2], _ => exact ⟨u0, u1, u2, rfl⟩
      obtain ⟨n0, e0, _⟩ := DataW.trod_int Try.underlying3 g0
      obtain ⟨n1, e1, _⟩ := DataW.trod_int Try.underlying3 g1
      obtain ⟨n2, e2, _⟩ := DataW.trod_int Try.underlying3 g2
      rw [c3] at e0 e1 e2
      simp only [List.drop_zero, List.drop_succ_cons, List.take_succ_cons, List.take_zero, List.cons.injEq, and_true] at e0 e1 e2
      subst e0 e1 e2
      have k0 := hcell 0 (by omega)
      have k1 := hcell 1 (by omega)
      have k2 := hcell 2 (by omega)
      rw [Deep.add_add] at k0 k1 k2
      exact ⟨(n0, n1, n2), k0, k1, k2⟩
    obtain ⟨f, hf⟩ := choose_lt (α := Int × Int × Int) each
    have hlen : ((List.range len).map fun r => (⟨(f r).1, (f r).2.1, (f r).2.2⟩ : S50)).length = len := by simp
    refine ⟨some a, cap, (List.range len).map fun r => (⟨(f r).1, (f r).2.1, (f r).2.2⟩ : S50), by rw [hlen], by rw [hlen]; exact hl, ?_⟩
    rw [hlen]
    refine ⟨hlen, by omega, fun _ => ⟨a, rfl, fun j p hj => ?_⟩⟩
    obtain ⟨hjl, hp⟩ := List.getElem?_eq_some_iff.1 hj
    rw [hlen] at hjl
    rw [List.getElem_map, List.getElem_range] at hp
    obtain ⟨h0, h1, h2⟩ := hf j hjl
    refine ⟨[.int .i64 p.f0, .int .i64 p.f1, .int .i64 p.f2], rfl, k50_mk W p, fun i u hu => ?_⟩
    subst hp
    match i, hu with
    | 0, hu => simp only [List.getElem?_cons_zero, Option.some.injEq] at hu; subst hu; exact h0
    | 1, hu => simp only [List.getElem?_cons_succ, List.getElem?_cons_zero, Option.some.injEq] at hu; subst hu; exact h1
    | 2, hu => simp only [List.getElem?_cons_succ, List.getElem?_cons_zero, Option.some.injEq] at hu; subst hu; exact h2
    | i + 3, hu => simp at hu
set_option maxRecDepth 100000 in
/-- A list of numbers that came in. -/
theorem open_listV {r : Reach} {b0 : Nat} {v : Value} {d : DataW H} {p : List MemPlace} (hv : Value.okWide Try.prog W r b0 22 v) (h : DataW.Trod enc Try.prog W base (fun _ => true) held 22 v d p) :
    ∃ A c F, v = .slice A F.length c ∧ F.length ≤ c ∧ Kd.C (Kd.int .i64) W A F.length F := by
  obtain ⟨A, n, c, rfl⟩ := okWide_slice Try.underlying22 hv
  obtain ⟨fuel, hf⟩ := h
  obtain ⟨A', c', F, e, hl, hC⟩ := open_intsC hf
  simp only [Value.cells, List.cons.injEq, Value.slice.injEq, and_true] at e
  obtain ⟨rfl, rfl, rfl⟩ := e
  exact ⟨A, c, F, rfl, hl, hC⟩
set_option maxRecDepth 100000 in
/-- A board that came in. -/
theorem open_boardV {r : Reach} {b0 : Nat} {v : Value} {d : DataW H} {p : List MemPlace} (hv : Value.okWide Try.prog W r b0 26 v) (h : DataW.Trod enc Try.prog W base (fun _ => true) held 26 v d p) :
    ∃ A0 c0 F A1 c1 S A2 c2 T, v = .agg #[.slice A0 F.length c0, .slice A1 S.length c1, .slice A2 T.length c2] ∧ Kd.C (Kd.int .i64) W A0 F.length F ∧ F.length ≤ c0 ∧ Kd.C k50 W A1 S.length S ∧ S.length ≤ c1 ∧ Kd.C (Kd.slice 3 (Kd.int .i64)) W A2 T.length T ∧ T.length ≤ c2 := by
  obtain ⟨v0, v1, v2, y0, y1, y2, n, rfl, _, _, h0, h1, h2⟩ := open_agg3 Try.underlying26 (by kernel_rfl) (by kernel_rfl) hv h
  obtain ⟨A0, c0, F, e0, l0, C0⟩ := open_intsC h0
  obtain ⟨A1, c1, S, e1, l1, C1⟩ := open_slotsC h1
  obtain ⟨A2, c2, T, e2, l2, C2⟩ := open_rowsC h2
  simp only [List.cons.injEq, and_true] at e0 e1 e2
  subst e0 e1 e2
  exact ⟨A0, c0, F, A1, c1, S, A2, c2, T, rfl, C0, l0, C1, l1, C2, l2⟩
end
end Go.Proofs.Ytkmmihadcbfkoaa
end

section
namespace Go.Proofs.Ytkmmihadcbfkoaa
open Go.ChangeShapes Go.WideShapes Go.ChangeAt Go.RowKit Go.Proofs.YtkmmihadcbfkoaaW.PrintWords PM
set_option linter.unusedVariables false
set_option linter.unusedSimpArgs false
theorem matchEvery_own : ownKnob Try.prog.godebug = none := by kernel_rfl
theorem matchEvery_laid : laidOutB Try.prog = true := by kernel_rfl
set_option maxRecDepth 100000 in
theorem matchEvery_lifted (os : Os) (started : os.Started) (H : Type) (enc : TypeId × Value → H) :
    ReturnsInHanded {} Try.checked os 8 .any (Rows.matchEverySpec.pre6 enc Try.prog Try.f8 Rows.matchEveryRow.domain false) (Rows.matchEverySpec.post enc Try.prog Try.f8 false true false false) := by
  refine returnsInHanded_of_change (C := Try.checked) matchEvery_own started (by kernel_rfl) Try.func8
    (ChangeSpec.witness6 (enc := enc) (C := Try.checked) false ⟨#[], #[.agg #[.slice none 0 0, .slice none 0 0, .slice none 0 0], .slice none 0 0, .slice none 0 0, .int .i64 0], []⟩ 8 (by kernel_rfl) (by kernel_rfl) (by kernel_rfl) (by kernel_rfl)) ?_
  intro W base args ds gs before hval0 hW hcnd _
  have hval : ∀ (j : Nat) t v, Try.f8.params[j]? = some t → args[j]? = some v → Value.okWide Try.prog W .any base t v := hval0
  have hW' := hW
  obtain ⟨p, q, hA0, hV, rfl, hfz, hnd⟩ := hW
  have hA : DataW.TrodAll enc Try.prog W 0 (fun _ => true) true Try.f8.params.toList args.toList ds p := hA0
  rw [Try.params8] at hA hval
  obtain ⟨v0, vs0, d0, ds0, p0, q0, hargs, rfl, rfl, h0, r0⟩ := trodAll_cons hA
  obtain ⟨v1, vs1, d1, ds1, p1, q1, rfl, rfl, rfl, h1, r1⟩ := trodAll_cons r0
  obtain ⟨v2, vs2, d2, ds2, p2, q2, rfl, rfl, rfl, h2, r2⟩ := trodAll_cons r1
  obtain ⟨v3, vs3, d3, ds3, p3, q3, rfl, rfl, rfl, h3, r3⟩ := trodAll_cons r2
  obtain ⟨rfl, rfl, rfl⟩ := trodAll_nil r3
  obtain rfl : args = #[v0, v1, v2, v3] := by cases args; simp_all
  obtain ⟨rfl, rfl⟩ := trodVars_none hV
  have k0 := h0
  have lt0 : ∀ x ∈ p0, x.block < W.heap.size := by obtain ⟨m, hm⟩ := k0; exact DataW.trod_lt m _ _ _ hm
  obtain ⟨A0a, c0a, F, A0b, c0b, S, A0c, c0c, T, rfl, Ca, la, Cb, lb, Cc, lc⟩ := open_boardV (hval 0 26 v0 rfl rfl) h0
  have k1 := h1
  have lt1 : ∀ x ∈ p1, x.block < W.heap.size := by obtain ⟨m, hm⟩ := k1; exact DataW.trod_lt m _ _ _ hm
  obtain ⟨A1, c1, x1, rfl, l1, C1⟩ := open_listV (hval 1 22 v1 rfl rfl) h1
  have k2 := h2
  have lt2 : ∀ x ∈ p2, x.block < W.heap.size := by obtain ⟨m, hm⟩ := k2; exact DataW.trod_lt m _ _ _ hm
  obtain ⟨A2, c2, x2, rfl, l2, C2⟩ := open_listV (hval 2 22 v2 rfl rfl) h2
  obtain ⟨x3, rfl, rfl, rfl, w3⟩ := open_int Try.underlying3 (hval 3 3 v3 rfl rfl) h3
  clear hA0 hval0
  refine (every_walk A0a c0a F A0b c0b S A0c c0c T A1 c1 x1 A2 c2 x2 x3 W Ca la Cb lb Cc lc C1 l1 C2 l2).mono fun e W' ⟨he, bel⟩ => ?_
  subst he
  exact ⟨_, rfl, _, _, _, [], _, [], hW', trodAll_mk1 (shut_bool Try.underlying4 _), (trodAll_cons_mk (Below.trod matchEvery_laid (by kernel_rfl) (of_decide_eq_true (by kernel_rfl)) k0 bel lt0) (trodAll_cons_mk (Below.trod matchEvery_laid (by kernel_rfl) (of_decide_eq_true (by kernel_rfl)) k1 bel lt1) (trodAll_cons_mk (Below.trod matchEvery_laid (by kernel_rfl) (of_decide_eq_true (by kernel_rfl)) k2 bel lt2) (trodAll_cons_mk (shut_int Try.underlying3 w3) trodAll_mk0)))), rfl, bel.frame _, fun h => by cases h⟩
theorem matchEvery_holds : Rows.MatchEverySaid :=
  OpenClaim.holds_of_wide 8 Try.f8 rfl rfl rfl rfl rfl rfl rfl ⟨rfl, rfl, rfl, rfl, rfl⟩ rfl rfl rfl rfl rfl (by kernel_rfl) Try.func8 (by kernel_rfl)
    (of_decide_eq_true (by kernel_rfl)) (by unfold Func.isWrapper; first | (rw [if_pos (by decide +kernel)]; kernel_rfl) | (rw [if_neg (by decide +kernel)]; exact ⟨rfl, rfl⟩))
    (fun os started H enc _ => matchEvery_lifted os started H enc)
#print axioms matchEvery_holds
end Go.Proofs.Ytkmmihadcbfkoaa
end
