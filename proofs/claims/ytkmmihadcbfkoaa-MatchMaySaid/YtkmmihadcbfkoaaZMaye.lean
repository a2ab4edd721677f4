/-
  MatchMay holds: for every board, find, slot and list, the law returns true and what it is given reads as it did. (part 5 of 6 of the texts that it stands on)
-/
import Derived.Test.YtkmmihadcbfkoaaZMayd
section
namespace Go.Proofs.Ytkmmihadcbfkoaa
open PM
def bdT2 : List (List Int) := [[0], [0], [0, 1]]
theorem bd_check3 : checkB bdF (bdS 1) bdT2 = 0 := by kernel_rfl
theorem bd_is1 : isF bdF (bdS 1) bdT = true := by kernel_rfl
theorem bd_assign : match_Assign.f bdF (bdS 1) bdT = some ([0, 1, 2], true, 0) := by kernel_rfl
theorem bd_must1 : match_Must.f 5 bdF (bdS 1) bdT = some ([0, 1, 2], 0) := by kernel_rfl
theorem bd_must2 : match_Must.f 5 bdF (bdS 2) bdT = some ([0, -1, -1], 0) := by kernel_rfl
theorem bd_load : match_Load.f bdF (bdS 2) bdT 0 = some (1, 2, 0) := by kernel_rfl
theorem srt10 : Lib.compact (([1, 0] : List Int).mergeSort fun x y => decide (x ≤ y)) = [0, 1] := by
 rw [show (([1, 0] : List Int).mergeSort fun x y => decide (x ≤ y)) = [0, 1] from by simp [List.mergeSort, List.MergeSort.Internal.splitInTwo]]
 kernel_rfl
theorem bd_hall1 : giveH bdT (roomsLess (bdS 1) 1) 3 1 [0, -1, -1] = [0, 1] := by
 unfold giveH
 rw [show (giveR bdT (roomsLess (bdS 1) 1) 3 1 [0, -1, -1]).ok = false from by kernel_rfl, if_neg (by simp), show hallTo 1 (giveR bdT (roomsLess (bdS 1) 1) 3 1 [0, -1, -1]).seen (giveR bdT (roomsLess (bdS 1) 1) 3 1 [0, -1, -1]).has 3 = [1, 0] from by kernel_rfl]
 exact srt10
theorem bd_hall2 : giveH bdT2 (rooms (bdS 1)) 3 1 [0, -1, -1] = [0, 1] := by
 unfold giveH
 rw [show (giveR bdT2 (rooms (bdS 1)) 3 1 [0, -1, -1]).ok = false from by kernel_rfl, if_neg (by simp), show hallTo 1 (giveR bdT2 (rooms (bdS 1)) 3 1 [0, -1, -1]).seen (giveR bdT2 (rooms (bdS 1)) 3 1 [0, -1, -1]).has 3 = [1, 0] from by kernel_rfl]
 exact srt10
theorem bd_fill1 : hallR bdF (bdS 1) bdT 2 (roomsLess (bdS 1) 1) = ⟨false, giveH bdT (roomsLess (bdS 1) 1) 3 1 [0, -1, -1], (giveR bdT (roomsLess (bdS 1) 1) 3 1 [0, -1, -1]).has⟩ := by kernel_rfl
theorem bd_fill2 : hallR bdF (bdS 1) bdT2 (-1) (rooms (bdS 1)) = ⟨false, giveH bdT2 (rooms (bdS 1)) 3 1 [0, -1, -1], (giveR bdT2 (rooms (bdS 1)) 3 1 [0, -1, -1]).has⟩ := by kernel_rfl
theorem bd_refuse : match_Refuse.f bdF (bdS 1) bdT 2 1 = some ([0, 1], true, 0) := by
 unfold match_Refuse.f
 rw [if_neg (by rw [show askB bdF (bdS 1) bdT 2 1 false false = 0 from by kernel_rfl]; simp), if_neg (by rw [bd_is1]; simp), if_neg (by decide), bd_fill1, bd_hall1]
 rfl
theorem bd_hall : match_Hall.f bdF (bdS 1) bdT2 = some ([0, 1], true, 0) := by
 unfold match_Hall.f
 rw [if_neg (by rw [bd_check3]; simp), bd_fill2, bd_hall2]
 rfl
end Go.Proofs.Ytkmmihadcbfkoaa
end

section
namespace Go.Proofs.Ytkmmihadcbfkoaa
open Go.RowKit Go.Proofs.YtkmmihadcbfkoaaW.PrintWords PM
set_option linter.unusedVariables false
set_option linter.unusedSimpArgs false
theorem fits2_world (w : World) (o : Obj) :
    ∃ W, (((((w.alloc o).alloc (.cells #[.int .i64 0] 3)).alloc (.cells #[.int .i64 0] 3)).alloc (.cells #[.int .i64 0, .int .i64 1] 3)).alloc
      (.cells #[.slice (some ⟨w.heap.size + 1, 0, none⟩) 1 1, .slice (some ⟨w.heap.size + 1 + 1, 0, none⟩) 1 1, .slice (some ⟨w.heap.size + 1 + 1 + 1, 0, none⟩) 2 2] 22)) = W ∧
      Below w.heap.size w W ∧ Kd.C (Kd.slice 3 (Kd.int .i64)) W (some ⟨w.heap.size + 1 + 1 + 1 + 1, 0, none⟩) bdT2.length bdT2 := by
  have hB : Below w.heap.size w (((((w.alloc o).alloc (.cells #[.int .i64 0] 3)).alloc (.cells #[.int .i64 0] 3)).alloc (.cells #[.int .i64 0, .int .i64 1] 3)).alloc
      (.cells #[.slice (some ⟨w.heap.size + 1, 0, none⟩) 1 1, .slice (some ⟨w.heap.size + 1 + 1, 0, none⟩) 1 1, .slice (some ⟨w.heap.size + 1 + 1 + 1, 0, none⟩) 2 2] 22)) := by
    repeat (first | exact Below.refl _ _ | refine below_alloc ?_ _)
  refine ⟨_, rfl, hB, ?_⟩
  obtain ⟨W, hW⟩ : ∃ W, (((((w.alloc o).alloc (.cells #[.int .i64 0] 3)).alloc (.cells #[.int .i64 0] 3)).alloc (.cells #[.int .i64 0, .int .i64 1] 3)).alloc
      (.cells #[.slice (some ⟨w.heap.size + 1, 0, none⟩) 1 1, .slice (some ⟨w.heap.size + 1 + 1, 0, none⟩) 1 1, .slice (some ⟨w.heap.size + 1 + 1 + 1, 0, none⟩) 2 2] 22)) = W := ⟨_, rfl⟩
  have e1 : W.heap[w.heap.size + 1]? = some (.cells #[.int .i64 0] 3 (0, 0)) := by
    rw [← hW]
    repeat (first | exact blk_new _ _ | (refine (congrArg _ ?_).trans (blk_new _ _); simp only [World.size_alloc]; done) | refine blk_alloc ?_ _)
  have e2 : W.heap[w.heap.size + 1 + 1]? = some (.cells #[.int .i64 0] 3 (0, 0)) := by
    rw [← hW]
    repeat (first | exact blk_new _ _ | (refine (congrArg _ ?_).trans (blk_new _ _); simp only [World.size_alloc]; done) | refine blk_alloc ?_ _)
  have e3 : W.heap[w.heap.size + 1 + 1 + 1]? = some (.cells #[.int .i64 0, .int .i64 1] 3 (0, 0)) := by
    rw [← hW]
    repeat (first | exact blk_new _ _ | (refine (congrArg _ ?_).trans (blk_new _ _); simp only [World.size_alloc]; done) | refine blk_alloc ?_ _)
  have e4 : W.heap[w.heap.size + 1 + 1 + 1 + 1]? = some (.cells #[.slice (some ⟨w.heap.size + 1, 0, none⟩) 1 1, .slice (some ⟨w.heap.size + 1 + 1, 0, none⟩) 1 1, .slice (some ⟨w.heap.size + 1 + 1 + 1, 0, none⟩) 2 2] 22 (0, 0)) := by
    rw [← hW]
    repeat (first | exact blk_new _ _ | (refine (congrArg _ ?_).trans (blk_new _ _); simp only [World.size_alloc]; done) | refine blk_alloc ?_ _)
  rw [hW]
  have r0 := rowC (l := [0]) e1 (by decide) (fun j v hv => by
    match j, hv with
    | 0, hv => have : (0 : Int) = v := by simpa using hv
               subst this; rfl)
  have r1 := rowC (l := [0]) e2 (by decide) (fun j v hv => by
    match j, hv with
    | 0, hv => have : (0 : Int) = v := by simpa using hv
               subst this; rfl)
  have r2 := rowC (l := [0, 1]) e3 (by decide) (fun j v hv => by
    match j, hv with
    | 0, hv => have : (0 : Int) = v := by simpa using hv
               subst this; rfl
    | 1, hv => have : (1 : Int) = v := by simpa using hv
               subst this; rfl)
  refine rowsC e4 (by decide) (fun j v hv => ?_)
  match j, hv with
  | 0, hv => have : ([0] : List Int) = v := by simpa [bdT2] using hv
             subst this; exact ⟨_, _, rfl, by decide, r0⟩
  | 1, hv => have : ([0] : List Int) = v := by simpa [bdT2] using hv
             subst this; exact ⟨_, _, rfl, by decide, r1⟩
  | 2, hv => have : ([0, 1] : List Int) = v := by simpa [bdT2] using hv
             subst this; exact ⟨_, _, rfl, by decide, r2⟩
  | n + 3, hv => simp [bdT2] at hv
theorem same_calls {A : Option Addr} {c : Nat} {l : List Int} {w : World} (hr : Kd.C (Kd.int .i64) w A l.length l) (hc : l.length ≤ c) (hf : laganref04_SameInts.f 5 l l = some true) (hl : l.length ≤ 100) :
  Calls Try.prog 22 #[.slice A l.length c, .slice (some ⟨w.heap.size, 0, none⟩) l.length l.length] (w.alloc (.cells (l.map (Value.int .i64)).toArray 3)) fun e w' => e = .returned (.bool true) ∧ Below w.heap.size w w' := by
 have hb := (Below.refl w.heap.size w).alloc (Nat.le_refl _) (.cells (l.map (Value.int .i64)).toArray 3)
 refine (laganref04_SameInts.calls 5 A c l (some ⟨w.heap.size, 0, none⟩) l.length l true _ (Kd.C_below hr hb) hc (rowC (World.alloc_heap_new w _) (by omega) (fun j v hv => by simp [hv])) (Nat.le_refl _) hf).mono ?_
 rintro e w' ⟨rfl, hd⟩
 exact ⟨rfl, hb.trans (hd.below.mono hb.size)⟩
set_option maxRecDepth 100000 in
set_option maxHeartbeats 8000000 in
theorem matched_walk (w : World) : Calls Try.prog 14 #[] w fun e w' => e = .returned (.bool true) ∧ Below w.heap.size w w' := by
 go_enter Try.func14, Try.ntmps14
 go_wp2_with fail
 refine (board_calls 1 _).mono ?_
 rintro e w1 ⟨A0, c0, A1, c1, A2, c2, rfl, hc0, hc1, hc2, h0, h1, h2, hb1⟩
 have AC := PM.match_Assign.calls A0 c0 bdF A1 c1 (bdS 1) A2 c2 bdT _ _ _ w1 h0 hc0 h1 hc1 h2 hc2 bd_assign
 have HB1 := Go.Lib.hid hb1
 clear hc0 hc1 hc2 h0 h1 h2 hb1
 go_wp2_with fail
 refine AC.mono ?_
 clear AC
 rintro e w2 ⟨va, rfl, hRa, hb2⟩
 obtain ⟨Aa, ca, rfl, hla, hCa⟩ := Kd.R_reads hRa
 have HB2 := Go.Lib.hid (HB1.out.trans (hb2.mono HB1.out.size))
 have HCa := Go.Lib.hid hCa
 clear hRa hb2 hCa HB1
 go_wp2_with fail
 refine (board_calls 1 _).mono ?_
 rintro e w3 ⟨A0, c0, A1, c1, A2, c2, rfl, hc0, hc1, hc2, h0, h1, h2, hb3⟩
 have MC := PM.match_Must.calls 5 A0 c0 bdF A1 c1 (bdS 1) A2 c2 bdT _ _ w3 h0 hc0 h1 hc1 h2 hc2 bd_must1
 have HB3 := Go.Lib.hid (HB2.out.trans (hb3.mono HB2.out.size))
 have HCa3 := Go.Lib.hid (Kd.C_below HCa.out hb3)
 clear hc0 hc1 hc2 h0 h1 h2 hb3 HB2 HCa
 go_wp2_with fail
 refine MC.mono ?_
 clear MC
 rintro e w4 ⟨vb, rfl, hRb, hb4⟩
 obtain ⟨Ab, cb, rfl, hlb, hCb⟩ := Kd.R_reads hRb
 have HB4 := Go.Lib.hid (HB3.out.trans (hb4.mono HB3.out.size))
 have HCa4 := Go.Lib.hid (Kd.C_below HCa3.out hb4)
 have HCb4 := Go.Lib.hid hCb
 clear hRb hb4 hCb HB3 HCa3
 go_wp2_with fail
 refine (board_calls 2 _).mono ?_
 rintro e w5 ⟨A0, c0, A1, c1, A2, c2, rfl, hc0, hc1, hc2, h0, h1, h2, hb5⟩
 have MC := PM.match_Must.calls 5 A0 c0 bdF A1 c1 (bdS 2) A2 c2 bdT _ _ w5 h0 hc0 h1 hc1 h2 hc2 bd_must2
 have HB5 := Go.Lib.hid (HB4.out.trans (hb5.mono HB4.out.size))
 have HCa5 := Go.Lib.hid (Kd.C_below HCa4.out hb5)
 have HCb5 := Go.Lib.hid (Kd.C_below HCb4.out hb5)
 clear hc0 hc1 hc2 h0 h1 h2 hb5 HB4 HCa4 HCb4
 go_wp2_with fail
 refine MC.mono ?_
 clear MC
 rintro e w6 ⟨vc, rfl, hRc, hb6⟩
 obtain ⟨Ac, cc, rfl, hlc, hCc⟩ := Kd.R_reads hRc
 have HB6 := Go.Lib.hid (HB5.out.trans (hb6.mono HB5.out.size))
 have HCa6 := Go.Lib.hid (Kd.C_below HCa5.out hb6)
 have HCb6 := Go.Lib.hid (Kd.C_below HCb5.out hb6)
 have HCc6 := Go.Lib.hid hCc
 clear hRc hb6 hCc HB5 HCa5 HCb5
 go_wp2_with fail
 refine (board_calls 1 _).mono ?_
 rintro e w7 ⟨A0, c0, A1, c1, A2, c2, rfl, hc0, hc1, hc2, h0, h1, h2, hb7⟩
 have RC := PM.match_Refuse.calls A0 c0 bdF A1 c1 (bdS 1) A2 c2 bdT 2 1 _ _ _ w7 h0 hc0 h1 hc1 h2 hc2 bd_refuse
 have HB7 := Go.Lib.hid (HB6.out.trans (hb7.mono HB6.out.size))
 have HCa7 := Go.Lib.hid (Kd.C_below HCa6.out hb7)
 have HCb7 := Go.Lib.hid (Kd.C_below HCb6.out hb7)
 have HCc7 := Go.Lib.hid (Kd.C_below HCc6.out hb7)
 clear hc0 hc1 hc2 h0 h1 h2 hb7 HB6 HCa6 HCb6 HCc6
 go_wp2_with fail
 refine RC.mono ?_
 clear RC
 rintro e w8 ⟨vd, rfl, hRd, hb8⟩
 obtain ⟨Ad, cd, rfl, hld, hCd⟩ := Kd.R_reads hRd
 have HB8 := Go.Lib.hid (HB7.out.trans (hb8.mono HB7.out.size))
 have HC8 := Go.Lib.hid (And.intro (Kd.C_below HCa7.out hb8) (And.intro (Kd.C_below HCb7.out hb8) (And.intro (Kd.C_below HCc7.out hb8) hCd)))
 clear hRd hb8 hCd HB7 HCa7 HCb7 HCc7
 go_wp2_with fail
 refine (board_calls 2 _).mono ?_
 rintro e w9 ⟨A0, c0, A1, c1, A2, c2, rfl, hc0, hc1, hc2, h0, h1, h2, hb9⟩
 have LC := PM.match_Load.calls A0 c0 bdF A1 c1 (bdS 2) A2 c2 bdT 0 _ _ _ w9 h0 hc0 h1 hc1 h2 hc2 bd_load
 have HB9 := Go.Lib.hid (HB8.out.trans (hb9.mono HB8.out.size))
 have HC9 := Go.Lib.hid (And.intro (Kd.C_below HC8.out.1 hb9) (And.intro (Kd.C_below HC8.out.2.1 hb9) (And.intro (Kd.C_below HC8.out.2.2.1 hb9) (Kd.C_below HC8.out.2.2.2 hb9))))
 clear hc0 hc1 hc2 h0 h1 h2 hb9 HB8 HC8
 go_wp2_with fail
 refine LC.mono ?_
 clear LC
 rintro e w10 ⟨rfl, hb10⟩
 have HB10 := Go.Lib.hid (HB9.out.trans (hb10.mono HB9.out.size))
 have HC10 := Go.Lib.hid (And.intro (Kd.C_below HC9.out.1 hb10) (And.intro (Kd.C_below HC9.out.2.1 hb10) (And.intro (Kd.C_below HC9.out.2.2.1 hb10) (Kd.C_below HC9.out.2.2.2 hb10))))
 clear hb10 HB9 HC9
 go_wp2_with fail
 refine (board_calls 1 _).mono ?_
 rintro e w11 ⟨A0, c0, A1, c1, A2, c2, rfl, hc0, hc1, hc2, h0, h1, h2, hb11⟩
 have HB11 := Go.Lib.hid (HB10.out.trans (hb11.mono HB10.out.size))
 have HC11 := Go.Lib.hid (And.intro (Kd.C_below HC10.out.1 hb11) (And.intro (Kd.C_below HC10.out.2.1 hb11) (And.intro (Kd.C_below HC10.out.2.2.1 hb11) (Kd.C_below HC10.out.2.2.2 hb11))))
 have HD := Go.Lib.hid (And.intro h0 h1)
 clear hc2 h0 h1 h2 hb11 HB10 HC10
 go_wp2_with fail
 obtain ⟨W12, hW12, hb12, hT2⟩ := fits2_world w11 (.cells #[.slice A0 bdF.length c0, .slice A1 (bdS 1).length c1, .slice (some ⟨w11.heap.size + 1 + 1 + 1 + 1, 0, none⟩) 3 3] 26)
 rw [hW12]
 have HC := PM.match_Hall.calls A0 c0 bdF A1 c1 (bdS 1) _ 3 bdT2 _ _ _ W12 (Kd.C_below HD.out.1 hb12) hc0 (Kd.C_below HD.out.2 hb12) hc1 hT2 (by decide) bd_hall
 have HB12 := Go.Lib.hid (HB11.out.trans (hb12.mono HB11.out.size))
 have HC12 := Go.Lib.hid (And.intro (Kd.C_below HC11.out.1 hb12) (And.intro (Kd.C_below HC11.out.2.1 hb12) (And.intro (Kd.C_below HC11.out.2.2.1 hb12) (Kd.C_below HC11.out.2.2.2 hb12))))
 clear hW12 hb12 hT2 HD HB11 HC11 hc0 hc1
 refine HC.mono ?_
 clear HC
 rintro e w13 ⟨vk, rfl, hRk, hb13⟩
 obtain ⟨Ak, ck, rfl, hlk, _⟩ := Kd.R_reads hRk
 have HB13 := Go.Lib.hid (HB12.out.trans (hb13.mono HB12.out.size))
 have HC13 := Go.Lib.hid (And.intro (Kd.C_below HC12.out.1 hb13) (And.intro (Kd.C_below HC12.out.2.1 hb13) (And.intro (Kd.C_below HC12.out.2.2.1 hb13) (Kd.C_below HC12.out.2.2.2 hb13))))
 clear hRk hb13 HB12 HC12
 have SA := same_calls HC13.out.1 hla (by kernel_rfl) (by decide)
 go_wp2_with fail
 refine SA.mono ?_
 clear SA
 rintro e w14 ⟨rfl, hb14⟩
 have HB14 := Go.Lib.hid (HB13.out.trans (hb14.mono HB13.out.size))
 have SB := same_calls (Kd.C_below HC13.out.2.1 hb14) hlb (by kernel_rfl) (by decide)
 have HC14 := Go.Lib.hid (And.intro (Kd.C_below HC13.out.2.2.1 hb14) (Kd.C_below HC13.out.2.2.2 hb14))
 clear hb14 HB13 HC13
 go_wp2_with fail
 refine SB.mono ?_
 clear SB
 rintro e w15 ⟨rfl, hb15⟩
 have HB15 := Go.Lib.hid (HB14.out.trans (hb15.mono HB14.out.size))
 have SC := same_calls (Kd.C_below HC14.out.1 hb15) hlc (by kernel_rfl) (by decide)
 have HC15 := Go.Lib.hid (Kd.C_below HC14.out.2 hb15)
 clear hb15 HB14 HC14
 go_wp2_with fail
 refine SC.mono ?_
 clear SC
 rintro e w16 ⟨rfl, hb16⟩
 have HB16 := Go.Lib.hid (HB15.out.trans (hb16.mono HB15.out.size))
 have SD := same_calls (Kd.C_below HC15.out hb16) hld (by kernel_rfl) (by decide)
 clear hb16 HB15 HC15
 go_wp2_with fail
 refine SD.mono ?_
 clear SD
 rintro e w17 ⟨rfl, hb17⟩
 have HB17 := Go.Lib.hid (HB16.out.trans (hb17.mono HB16.out.size))
 clear hb17 HB16
 go_wp2_with fail
 go_ret
 exact ⟨rfl, HB17.out⟩
end Go.Proofs.Ytkmmihadcbfkoaa
end

section
namespace Go.Proofs.Ytkmmihadcbfkoaa
open Go.RowKit Go.Proofs.YtkmmihadcbfkoaaW.PrintWords PM
set_option linter.unusedVariables false
set_option linter.unusedSimpArgs false
theorem hall_len {F : List Int} {S : List S50} {T : List (List Int)} (hc : checkB F S T = 0) {room : List Int} {ns : Nat} {out : Int} {fs : List Int} (h : HallV T room ns out fs) : fs.length ≤ 60 := by
 have hk := bok_of_check hc
 have h1 := hk.nf
 have h2 := hk.nt
 have hr := ris_of_asc h.asc h.rng
 rcases risB_len hr with h3 | h3
 ·
  omega
 rw [h3]; simp
end Go.Proofs.Ytkmmihadcbfkoaa
end

section
namespace Go.Proofs.Ytkmmihadcbfkoaa.PM
open Go.RowKit Go.Proofs.YtkmmihadcbfkoaaW.PrintWords Go.Proofs.YtkmmihadcbfkoaaW.PrintLast Go.Proofs.YtkmmihadcbfkoaaW.PrintMore
set_option linter.unusedVariables false
set_option linter.unusedSimpArgs false
mutual
def laganref04_all.l0 : Nat → List Int → List Int → Int → List (List Int) → Int → List Int → List (S50) → List (List Int) → Option ((List (List Int)))
 | 0, _, _, _, _, _, _, _, _ => none
 | k + 1, x1, x2, x7, x8, x9, x145000, x145001, x145002 => if 0 ≤ x7 then (if x7 < (x145002.length : Int) then (if x9 < ((rd_L1 x145002 x7).length : Int) then (if 0 ≤ x9 then (if 0 ≤ (rd (rd_L1 x145002 x7) x9) then (if (rd (rd_L1 x145002 x7) x9) < (x2.length : Int) then (if (rd (rd_L1 x145002 x7) x9) < (x145001.length : Int) then (if (rd x2 (rd (rd_L1 x145002 x7) x9)) ≥ ((rd_T50 x145001 (rd (rd_L1 x145002 x7) x9)).f2) then (laganref04_all.l0 k x1 x2 x7 x8 (wrap64 (x9 + 1)) x145000 x145001 x145002) else ((some (([] : List Int) : List Int)).bind fun y175 => (if y175.length + x2.length < 17592186044416 then ((some (y175 ++ x2 : List Int)).bind fun y178 => (if (rd (rd_L1 x145002 x7) x9) < (y178.length : Int) then ((some (([] : List Int) : List Int)).bind fun y183 => (if y183.length + x1.length < 17592186044416 then ((some (y183 ++ x1 : List Int)).bind fun y186 => ((some (([rd (rd_L1 x145002 x7) x9] : List Int) : List Int)).bind fun y189 => (if y186.length + y189.length < 17592186044416 then ((laganref04_all.f k x145000 x145001 x145002 (y186 ++ y189) (y178.set ((rd (rd_L1 x145002 x7) x9) : Int).toNat (wrap64 ((rd y178 (rd (rd_L1 x145002 x7) x9)) + 1)))).bind fun t195 => (if x8.length + t195.length < 5864062014805 then (laganref04_all.l0 k x1 x2 x7 (x8 ++ t195) (wrap64 (x9 + 1)) x145000 x145001 x145002) else (none))) else (none)))) else (none))) else (none))) else (none)))) else (none)) else (none)) else (none)) else (none)) else (some x8)) else (none)) else (none)
def laganref04_all.f : Nat → List Int → List (S50) → List (List Int) → List Int → List Int → Option ((List (List Int)))
 | 0, _, _, _, _, _ => none
 | k + 1, aD, aA, aC, l1, l2 => if (l1.length : Int) = (aD.length : Int) then ((some (([] : List Int) : List Int)).bind fun y145 => (if y145.length + l1.length < 17592186044416 then (some (([(y145 ++ l1)] : List (List Int)))) else (none))) else (if 0 ≤ (l1.length : Int) then (if (l1.length : Int) < (aC.length : Int) then (if ((rd_L1 aC (l1.length : Int)).length : Int) = 0 then ((some (([] : List Int) : List Int)).bind fun y155 => (if y155.length + l1.length < 17592186044416 then ((some (y155 ++ l1 : List Int)).bind fun y158 => ((some (([(-1)] : List Int) : List Int)).bind fun y161 => (if y158.length + y161.length < 17592186044416 then ((laganref04_all.f k aD aA aC (y158 ++ y161) l2).bind fun t167 => (some t167)) else (none)))) else (none))) else (laganref04_all.l0 k l1 l2 (l1.length : Int) ([] : List (List Int)) 0 aD aA aC)) else (none)) else (none))
end
def laganref04_all.T5 : Bool × List (List Nat × List Nat) := (true, [([], []), ([], []), ([], []), ([1, 2], [1, 2]), ([], []), ([3, 4, 3], [3, 4]), ([], []), ([0, 5, 6, 5], [0, 5, 6]), ([7, 7, 0, 1, 2, 3, 4, 5, 6, 7], [7])])
def laganref04_all.B5 : List Nat := [0, 0, 0, 6, 0, 30, 0, 127, 255]
theorem laganref04_all.tab5 : rtab .any (opsOf Try.f63 5) = laganref04_all.T5 := by kernel_rfl
theorem laganref04_all.bits5 : waitsOk laganref04_all.T5.2 laganref04_all.B5 = true := by kernel_rfl
def laganref04_all.T11 : Bool × List (List Nat × List Nat) := (true, [([], []), ([], []), ([0, 1], [0, 1]), ([2], [2]), ([], []), ([4], [4]), ([], []), ([5, 6], [5, 6]), ([7], [7]), ([8], [8]), ([3, 9], [3, 9])])
def laganref04_all.B11 : List Nat := [0, 0, 3, 7, 0, 16, 0, 112, 240, 496, 1023]
theorem laganref04_all.tab11 : rtab .any (opsOf Try.f63 11) = laganref04_all.T11 := by kernel_rfl
theorem laganref04_all.bits11 : waitsOk laganref04_all.T11.2 laganref04_all.B11 = true := by kernel_rfl
def laganref04_all.T14 : Bool × List (List Nat × List Nat) := (true, [([], []), ([], []), ([], []), ([], []), ([2, 3], [2, 3]), ([], []), ([5], [5]), ([4, 6, 4], [4, 6]), ([], []), ([1, 7, 8, 7], [1, 7, 8]), ([0, 9, 9], [0, 9]), ([10, 10, 0, 1, 2, 3, 4, 5, 6, 7, 8, 9, 10], [0, 10])])
def laganref04_all.B14 : List Nat := [0, 0, 0, 0, 12, 0, 32, 124, 0, 510, 1023, 2047]
theorem laganref04_all.tab14 : rtab .any (opsOf Try.f63 14) = laganref04_all.T14 := by kernel_rfl
theorem laganref04_all.bits14 : waitsOk laganref04_all.T14.2 laganref04_all.B14 = true := by kernel_rfl
set_option maxHeartbeats 8000000 in
set_option maxRecDepth 100000 in
theorem laganref04_all.calls (k : Nat) : ∀ (aG : Option Addr) (aH : Nat) (aD : List Int) (aK : Option Addr) (aI : Nat) (aA : List (S50)) (aM : Option Addr) (aJ : Nat) (aC : List (List Int)) (A1 : Option Addr) (c1 : Nat) (l1 : List Int) (A2 : Option Addr) (c2 : Nat) (l2 : List Int) (r : List (List Int)) (w : World) (bC : Kd.C (Kd.int .i64) w aG aD.length aD) (bD : aD.length ≤ aH) (bE : Kd.C k50 w aK aA.length aA) (bF : aA.length ≤ aI) (bG : Kd.C (Kd.slice 3 (Kd.int .i64)) w aM aC.length aC) (bH : aC.length ≤ aJ) (hr1 : Kd.C (Kd.int .i64) w A1 l1.length l1) (hc1 : l1.length ≤ c1) (hr2 : Kd.C (Kd.int .i64) w A2 l2.length l2) (hc2 : l2.length ≤ c2) (h : laganref04_all.f k aD aA aC l1 l2 = some r),
  Calls Try.prog 63 #[.agg #[.slice aG aD.length aH, .slice aK aA.length aI, .slice aM aC.length aJ], .slice A1 l1.length c1, .slice A2 l2.length c2] w fun e w' => ∃ v0_ : Value, e = .returned (v0_) ∧ Kd.N (Kd.slice 3 (Kd.int .i64)) 22 w' w.heap.size (fun k_ => (w.heap.size ≤ k_)) v0_ r ∧ Below w.heap.size w w' := by
 induction k using Nat.strongRecOn with
 | _ k ih =>
 intro aG aH aD aK aI aA aM aJ aC A1 c1 l1 A2 c2 l2 r w bC bD bE bF bG bH hr1 hc1 hr2 hc2 h
 cases k with
 | zero => exact absurd h (by simp [laganref04_all.f])
 | succ k =>
 simp only [laganref04_all.f] at h
 have hu26 := Try.underlying26
 have bA := Aside0.mk bC
 have bK := Aside0.mk bD
 clear bC bD
 have aZ := Aside0.mk bE
 have bL := Aside0.mk bF
 clear bE bF
 have aX := Aside0.mk bG
 have bM := Aside0.mk bH
 clear bG bH
 have HR1 := Aside0.mk hr1
 have HC1 := Aside0.mk hc1
 clear hr1 hc1
 have HR2 := Aside0.mk hr2
 have HC2 := Aside0.mk hc2
 clear hr2 hc2
 have HB := Aside0.mk (Below.refl w.heap.size w)
 have H : (if (l1.length : Int) = (aD.length : Int) then ((some (([] : List Int) : List Int)).bind fun y145 => (if y145.length + l1.length < 17592186044416 then (some (([(y145 ++ l1)] : List (List Int)))) else (none))) else (if 0 ≤ (l1.length : Int) then (if (l1.length : Int) < (aC.length : Int) then (if ((rd_L1 aC (l1.length : Int)).length : Int) = 0 then ((some (([] : List Int) : List Int)).bind fun y155 => (if y155.length + l1.length < 17592186044416 then ((some (y155 ++ l1 : List Int)).bind fun y158 => ((some (([(-1)] : List Int) : List Int)).bind fun y161 => (if y158.length + y161.length < 17592186044416 then ((laganref04_all.f k aD aA aC (y158 ++ y161) l2).bind fun t167 => (some t167)) else (none)))) else (none))) else (laganref04_all.l0 k l1 l2 (l1.length : Int) ([] : List (List Int)) 0 aD aA aC)) else (none)) else (none))) = some r := h
 clear h
 by_cases c4 : (l1.length : Int) = (aD.length : Int)
 ·
  rw [if_pos c4] at H
  have c4b0 : ((l1.length : Int) == (aD.length : Int)) = true := beq_iff_eq.mpr c4
  have c4b1 : ((l1.length : Int) != (aD.length : Int)) = false := bne_eq_false_iff_eq.mpr c4
  have c4b2 : (l1.length == aD.length) = true := by first | simpa using c4 | (simp at c4 ⊢; omega)
  clear c4
  obtain ⟨y145, hy145⟩ : ∃ y_ : List Int, y_ = (([] : List Int)) := ⟨_, rfl⟩
  replace H : (if y145.length + l1.length < 17592186044416 then (some (([(y145 ++ l1)] : List (List Int)))) else (none)) = some r := by first | (rw [hy145]; with_reducible exact H) | (have H2_ := (Option.bind_some _ _).symm.trans H; rw [hy145]; with_reducible exact H2_) | (have H2_ := (Option.bind_some _ _).symm.trans H; with_reducible exact H2_) | with_reducible exact H | (rw [hy145]; exact H) | exact H
  have Ny145 := Aside0.mk hy145
  clear hy145
  by_cases c5 : y145.length + l1.length < 17592186044416
  rotate_left
  ·
   rw [if_neg c5] at H
   exact absurd H (by simp)
  rw [if_pos c5] at H
  have LMc5 := Aside0.mk c5
  clear c5
  obtain ⟨y148, hy148⟩ : ∃ y_ : List Int, y_ = (y145 ++ l1) := ⟨_, rfl⟩
  replace H : (some (([y148] : List (List Int)))) = some r := by first | (rw [hy148]; with_reducible exact H) | (have H2_ := (Option.bind_some _ _).symm.trans H; rw [hy148]; with_reducible exact H2_) | (have H2_ := (Option.bind_some _ _).symm.trans H; with_reducible exact H2_) | with_reducible exact H | (rw [hy148]; exact H) | exact H
  have Ny148 := Aside0.mk hy148
  clear hy148
  obtain ⟨y151, hy151⟩ : ∃ y_ : List (List Int), y_ = (([y148] : List (List Int))) := ⟨_, rfl⟩
  replace H : (some y151) = some r := by first | (rw [hy151]; with_reducible exact H) | (have H2_ := (Option.bind_some _ _).symm.trans H; rw [hy151]; with_reducible exact H2_) | (have H2_ := (Option.bind_some _ _).symm.trans H; with_reducible exact H2_) | with_reducible exact H | (rw [hy151]; exact H) | exact H
  have Ny151 := Aside0.mk hy151
  clear hy151
  obtain rfl := Option.some.inj H
  go_enter Try.func63, Try.ntmps63
  go_wp2_with (first | ((with_reducible refine gate_dst (N := 3) rfl ?_); refine box_event ?hg (N := 3) ?hd (cs := #[.slice aG aD.length aH, .slice aK aA.length aI, .slice aM aC.length aJ]) (t := 26) ?hr ?_; (case hd => rfl); (case hg => rfl); (case hr => first | (go_simp; done) | (go_simp; rfl)); intro gb144 hg w6 hbox hb; have n0_ := Aside0.mk (below_step (by repeat (first | (with_reducible first | exact HB.out | apply below_alloc | apply pw_below_drewN | apply below_drew1) | exact HB.out)) hb); have n1_ := Aside0.mk (hbox); have n2_ := Aside0.mk ((by rw [hg]; exact (below_size (by repeat (first | (with_reducible first | exact HB.out | apply below_alloc | apply pw_below_drewN | apply below_drew1) | exact HB.out))) : w.heap.size ≤ gb144)); have n3_ := Aside0.mk ((by rw [hg]; exact (below_size (by repeat (first | (with_reducible first | exact HB.out | apply below_alloc | apply pw_below_drewN | apply below_drew1) | exact HB.out))) : w.heap.size ≤ gb144)); clear HB; have HB := n0_; have BK144 := n1_; have GW144 := n2_; have GE144 := n3_; clear n0_ n1_ n2_ n3_; clear hb hbox hg; have eL : w6.cell? ⟨gb144, 0, none⟩ = some (.slice aG aD.length aH) := (blk_cell BK144.out 0).trans rfl; have eM : w6.cell? ⟨gb144, 1, none⟩ = some (.slice aK aA.length aI) := (blk_cell BK144.out 1).trans rfl; have eN : w6.cell? ⟨gb144, 2, none⟩ = some (.slice aM aC.length aJ) := (blk_cell BK144.out 2).trans rfl; have eO := blk_frozen BK144.out 0; have eP := blk_frozen BK144.out 1; have eQ := blk_frozen BK144.out 2) | ((with_reducible refine gate_dst (N := 19) rfl ?_); refine Kd.R_lit (Kd.int .i64) _ 3 ?hg (N := 19) ?hd (xs := ([] : List Int)) (inner := []) (ok := fun _ => True) (okp := fun _ => True) ?hr ?hp (fun _ hk => hk) trivial (Below.refl _ _) (Nat.le_refl _) (by simp) ?_; (case hd => rfl); (case hg => rfl); (case hr => first | (go_simp; done) | (go_simp; rfl)); (case hp => exact (Reps.none _ _)); intro v146 w8 ho9 hb hg_ hnew_; clear hg_ hnew_; (first | rw [← Ny145.out] at ho9 | (simp only [Int.reduceToNat] at ho9; rw [← Ny145.out] at ho9)); have n0_ := Aside0.mk (Kd.R_lower (Kd.R_newM (M := fun k_ => (w.heap.size ≤ k_)) ho9 (below_size (by repeat (first | (with_reducible first | exact HB.out | apply below_alloc | apply pw_below_drewN | apply below_drew1 | refine below_set ?_ GE144.out) | exact HB.out))) (fun k_ h_ => h_)) (below_size (by repeat (first | (with_reducible first | exact HB.out | apply below_alloc | apply pw_below_drewN | apply below_drew1 | refine below_set ?_ GE144.out) | exact HB.out)))); have n1_ := Aside0.mk (blk_below (g := gb144) (o := .cells #[.slice aG aD.length aH, .slice aK aA.length aI, .slice aM aC.length aJ] 26 (0, 0)) (by (with_reducible repeat (first | refine blk_drewN ?_ _ | refine blk_drew ?_ | refine blk_alloc ?_ _)); exact BK144.out) hb); have n2_ := Aside0.mk (below_step (by repeat (first | (with_reducible first | exact HB.out | apply below_alloc | apply pw_below_drewN | apply below_drew1 | refine below_set ?_ GE144.out) | exact HB.out)) hb); clear BK144; clear HB; have HO147 := n0_; have BK144 := n1_; have HB := n2_; clear n0_ n1_ n2_; clear hb ho9) | ((with_reducible refine gate_builtin (b := .append) (xs := #[.tmp 19, .tmp 20]) rfl ?_); at_builtin; refine Kd.R_append_rows (Kd.int .i64) (w0 := w) w.heap.size rfl (.tmp 19) (.tmp 20) 22 3 (.int .i64 0) 8 rfl Try.underlying22 info3 rfl (by decide) (by omega) v146 y145 l1 _ _ _ (fun k_ => (w.heap.size ≤ k_)) (fun _ => False) rfl rfl ?aO ?aR (fun _ _ h => h) (fun _ h => h.elim) ?aF ?aB ?aS ?aL ?_; (case aR => repeat (first | exact (Kd.C_below HR1.out HB.out) | (with_reducible refine Kd.C_alloc ?_ _) | (with_reducible refine Kd.C_drewN ?_ _) | (with_reducible refine Kd.C_drew ?_))); (case aB => exact (by repeat (first | (with_reducible first | exact HB.out | apply below_alloc | apply pw_below_drewN | apply below_drew1 | refine below_set ?_ GE144.out) | exact HB.out))); (case aF => exact (fun k_ hk => (Nat.le_trans (below_size (by repeat (first | (with_reducible first | exact HB.out | apply below_alloc | apply pw_below_drewN | apply below_drew1 | refine below_set ?_ GE144.out) | exact HB.out))) hk))); (case aO => exact (by (with_reducible repeat (first | apply Kd.R_alloc | apply Kd.R_drewN | apply Kd.R_drew)); exact Kd.R_mono HO147.out (fun _ hk => hk.1))); (case aS => exact (below_size (by repeat (first | (with_reducible first | exact HB.out | apply below_alloc | apply pw_below_drewN | apply below_drew1 | refine below_set ?_ GE144.out) | exact HB.out)))); (case aL => have := LMc5.out; omega); intro v149 w10 ho hb hg hat; rw [← Ny148.out] at ho; have n0_ := Aside0.mk (blk_grown (g := gb144) (o := .cells #[.slice aG aD.length aH, .slice aK aA.length aI, .slice aM aC.length aJ] 26 (0, 0)) (by (with_reducible repeat (first | refine blk_drewN ?_ _ | refine blk_drew ?_ | refine blk_alloc ?_ _)); exact BK144.out) hg (Kd.R_ne HO147.out BK144.out (by decide))); have n1_ := Aside0.mk (hb); have n2_ := Aside0.mk (ho); clear BK144; clear HB; clear HO147; have BK144 := n0_; have HB := n1_; have HO150 := n2_; clear n0_ n1_ n2_; clear ho hb hg hat; obtain ⟨Ao11, co11, eo11⟩ := Kd.R_slice HO150.out; subst eo11) | ((with_reducible refine gate_dst (N := 22) rfl ?_); refine Kd.N_lit (Kd.slice 3 (Kd.int .i64)) _ 22 ?hg (N' := 22) ?hd (xs := ([y148] : List (List Int))) (inner := [.slice Ao11 y148.length co11]) (ok := (fun k_ => (w.heap.size ≤ k_) ∧ k_ ≠ gb144)) (okp := (fun k_ => (w.heap.size ≤ k_) ∧ k_ ≠ gb144)) ?hr ?hp (fun _ hk => hk) ((show ∀ k_, w10.heap.size ≤ k_ → (fun k_ => (w.heap.size ≤ k_) ∧ k_ ≠ gb144) k_ from fun k_ hk => ⟨(Nat.le_trans (below_size (by repeat (first | (with_reducible first | exact HB.out | apply below_alloc | apply pw_below_drewN | apply below_drew1 | refine below_set ?_ GE144.out) | exact HB.out))) hk), Kd.freshB (g := gb144) (o := .cells #[.slice aG aD.length aH, .slice aK aA.length aI, .slice aM aC.length aJ] 26 (0, 0)) (by (with_reducible repeat (first | refine blk_drewN ?_ _ | refine blk_drew ?_ | refine blk_alloc ?_ _)); exact BK144.out) k_ hk⟩) _ (Nat.le_refl _)) (Below.refl _ _) (Nat.le_refl _) (by simp) ?_; (case hd => rfl); (case hg => rfl); (case hr => first | (go_simp; done) | (go_simp; rfl)); (case hp => exact (Reps.one (show Kd.FK (Kd.slice 3 (Kd.int .i64)) _ _ y148 [.slice Ao11 y148.length co11] from (Kd.FK_slice_mk (Kd.R_reads' (Kd.R_mono (ok' := (fun k_ => (w.heap.size ≤ k_) ∧ k_ ≠ gb144)) (Kd.R_types (HO150.out) BK144.out (by decide)) (fun k_ hk => ⟨hk.1, hk.2⟩))).2.1 (Kd.R_F (Kd.R_mono (ok' := (fun k_ => (w.heap.size ≤ k_) ∧ k_ ≠ gb144)) (Kd.R_types (HO150.out) BK144.out (by decide)) (fun k_ hk => ⟨hk.1, hk.2⟩))))) (Reps.none _ _))); intro v152 w12 ho13 hb hg_ hnew_; clear hg_ hnew_; (first | rw [← Ny151.out] at ho13 | (simp only [Int.reduceToNat] at ho13; rw [← Ny151.out] at ho13)); have n0_ := Aside0.mk (Kd.N_lower ho13 (below_size (by repeat (first | (with_reducible first | exact HB.out | apply below_alloc | apply pw_below_drewN | apply below_drew1 | refine below_set ?_ GE144.out) | exact HB.out)))); have n1_ := Aside0.mk (blk_below (g := gb144) (o := .cells #[.slice aG aD.length aH, .slice aK aA.length aI, .slice aM aC.length aJ] 26 (0, 0)) (by (with_reducible repeat (first | refine blk_drewN ?_ _ | refine blk_drew ?_ | refine blk_alloc ?_ _)); exact BK144.out) hb); have n2_ := Aside0.mk (below_step (by repeat (first | (with_reducible first | exact HB.out | apply below_alloc | apply pw_below_drewN | apply below_drew1 | refine below_set ?_ GE144.out) | exact HB.out)) hb); clear BK144; clear HB; clear HO150; have HO153 := n0_; have BK144 := n1_; have HB := n2_; clear n0_ n1_ n2_; clear hb ho13))
  go_ret
  exact ⟨_, by first | rfl | (simp [errW_none, errW_some] <;> rfl) | (simp [*, errW_none, errW_some] <;> rfl), by (with_reducible repeat (first | apply Kd.N_alloc | apply Kd.N_drewN | apply Kd.N_drew)); exact Kd.N_mono HO153.out (fun _ hk => hk.1), by repeat (first | (with_reducible first | exact HB.out | apply below_alloc | apply pw_below_drewN | apply below_drew1 | refine below_set ?_ GE144.out) | exact HB.out)⟩
 rw [if_neg c4] at H
 have c4b0 : ((l1.length : Int) == (aD.length : Int)) = false := beq_eq_false_iff_ne.mpr c4
 have c4b1 : ((l1.length : Int) != (aD.length : Int)) = true := bne_iff_ne.mpr c4
 have c4b2 : (l1.length == aD.length) = false := by first | simpa using c4 | (simp at c4 ⊢; omega)
 by_cases c14 : 0 ≤ (l1.length : Int)
 rotate_left
 ·
  rw [if_neg c14] at H
  exact absurd H (by simp)
 rw [if_pos c14] at H
 have c14b0 : decide (0 ≤ (l1.length : Int)) = true := decide_eq_true c14
 have c14b1 : decide (0 ≤ l1.length) = true := decide_eq_true (by omega)
 clear c14
 by_cases c15 : (l1.length : Int) < (aC.length : Int)
 rotate_left
 ·
  rw [if_neg c15] at H
  exact absurd H (by simp)
 rw [if_pos c15] at H
 have c15b0 : decide ((l1.length : Int) < (aC.length : Int)) = true := decide_eq_true c15
 have c15b1 : decide (l1.length < aC.length) = true := decide_eq_true (Int.ofNat_lt.mp c15)
 clear c15
 by_cases c16 : ((rd_L1 aC (l1.length : Int)).length : Int) = 0
 ·
  rw [if_pos c16] at H
  have c16b0 : (((rd_L1 aC (l1.length : Int)).length : Int) == 0) = true := beq_iff_eq.mpr c16
  have c16b1 : (((rd_L1 aC (l1.length : Int)).length : Int) != 0) = false := bne_eq_false_iff_eq.mpr c16
  clear c16
  obtain ⟨y155, hy155⟩ : ∃ y_ : List Int, y_ = (([] : List Int)) := ⟨_, rfl⟩
  replace H : (if y155.length + l1.length < 17592186044416 then ((some (y155 ++ l1 : List Int)).bind fun y158 => ((some (([(-1)] : List Int) : List Int)).bind fun y161 => (if y158.length + y161.length < 17592186044416 then ((laganref04_all.f k aD aA aC (y158 ++ y161) l2).bind fun t167 => (some t167)) else (none)))) else (none)) = some r := by first | (rw [hy155]; with_reducible exact H) | (have H2_ := (Option.bind_some _ _).symm.trans H; rw [hy155]; with_reducible exact H2_) | (have H2_ := (Option.bind_some _ _).symm.trans H; with_reducible exact H2_) | with_reducible exact H | (rw [hy155]; exact H) | exact H
  have Ny155 := Aside0.mk hy155
  clear hy155
  by_cases c17 : y155.length + l1.length < 17592186044416
  rotate_left
  ·
   rw [if_neg c17] at H
   exact absurd H (by simp)
  rw [if_pos c17] at H
  have LMc17 := Aside0.mk c17
  clear c17
  obtain ⟨y158, hy158⟩ : ∃ y_ : List Int, y_ = (y155 ++ l1) := ⟨_, rfl⟩
  replace H : ((some (([(-1)] : List Int) : List Int)).bind fun y161 => (if y158.length + y161.length < 17592186044416 then ((laganref04_all.f k aD aA aC (y158 ++ y161) l2).bind fun t167 => (some t167)) else (none))) = some r := by first | (rw [hy158]; with_reducible exact H) | (have H2_ := (Option.bind_some _ _).symm.trans H; rw [hy158]; with_reducible exact H2_) | (have H2_ := (Option.bind_some _ _).symm.trans H; with_reducible exact H2_) | with_reducible exact H | (rw [hy158]; exact H) | exact H
  have Ny158 := Aside0.mk hy158
  clear hy158
  obtain ⟨y161, hy161⟩ : ∃ y_ : List Int, y_ = (([(-1)] : List Int)) := ⟨_, rfl⟩
  replace H : (if y158.length + y161.length < 17592186044416 then ((laganref04_all.f k aD aA aC (y158 ++ y161) l2).bind fun t167 => (some t167)) else (none)) = some r := by first | (rw [hy161]; with_reducible exact H) | (have H2_ := (Option.bind_some _ _).symm.trans H; rw [hy161]; with_reducible exact H2_) | (have H2_ := (Option.bind_some _ _).symm.trans H; with_reducible exact H2_) | with_reducible exact H | (rw [hy161]; exact H) | exact H
  have Ny161 := Aside0.mk hy161
  clear hy161
  by_cases c18 : y158.length + y161.length < 17592186044416
  rotate_left
  ·
   rw [if_neg c18] at H
   exact absurd H (by simp)
  rw [if_pos c18] at H
  have LMc18 := Aside0.mk c18
  clear c18
  obtain ⟨y164, hy164⟩ : ∃ y_ : List Int, y_ = (y158 ++ y161) := ⟨_, rfl⟩
  replace H : ((laganref04_all.f k aD aA aC y164 l2).bind fun t167 => (some t167)) = some r := by first | (rw [hy164]; with_reducible exact H) | (have H2_ := (Option.bind_some _ _).symm.trans H; rw [hy164]; with_reducible exact H2_) | (have H2_ := (Option.bind_some _ _).symm.trans H; with_reducible exact H2_) | with_reducible exact H | (rw [hy164]; exact H) | exact H
  have Ny164 := Aside0.mk hy164
  clear hy164
  replace H := Option.bind_eq_some_iff.mp H
  obtain ⟨t167, A190, H⟩ := H
  replace H : (some t167) = some r := H
  have A19 := Aside0.mk A190
  clear A190
  obtain rfl := Option.some.inj H
  go_enter Try.func63, Try.ntmps63
  try go_wp2_with (first | ((with_reducible refine gate_dst (N := 3) rfl ?_); refine box_event ?hg (N := 3) ?hd (cs := #[.slice aG aD.length aH, .slice aK aA.length aI, .slice aM aC.length aJ]) (t := 26) ?hr ?_; (case hd => rfl); (case hg => rfl); (case hr => first | (go_simp; done) | (go_simp; rfl)); intro gb144 hg w20 hbox hb; have n0_ := Aside0.mk (below_step (by repeat (first | (with_reducible first | exact HB.out | apply below_alloc | apply pw_below_drewN | apply below_drew1) | exact HB.out)) hb); have n1_ := Aside0.mk (hbox); have n2_ := Aside0.mk ((by rw [hg]; exact (below_size (by repeat (first | (with_reducible first | exact HB.out | apply below_alloc | apply pw_below_drewN | apply below_drew1) | exact HB.out))) : w.heap.size ≤ gb144)); have n3_ := Aside0.mk ((by rw [hg]; exact (below_size (by repeat (first | (with_reducible first | exact HB.out | apply below_alloc | apply pw_below_drewN | apply below_drew1) | exact HB.out))) : w.heap.size ≤ gb144)); clear HB; have HB := n0_; have BK144 := n1_; have GW144 := n2_; have GE144 := n3_; clear n0_ n1_ n2_ n3_; clear hb hbox hg; have fA : w20.cell? ⟨gb144, 0, none⟩ = some (.slice aG aD.length aH) := (blk_cell BK144.out 0).trans rfl; have fB : w20.cell? ⟨gb144, 1, none⟩ = some (.slice aK aA.length aI) := (blk_cell BK144.out 1).trans rfl; have fC : w20.cell? ⟨gb144, 2, none⟩ = some (.slice aM aC.length aJ) := (blk_cell BK144.out 2).trans rfl; have fD := blk_frozen BK144.out 0; have fE := blk_frozen BK144.out 1; have fF := blk_frozen BK144.out 2; have p154 : 0 ≤ ((l1.length : Int) : Int) := of_decide_eq_true (by assumption); have q154 : (l1.length : Int) < (aC.length : Int) := of_decide_eq_true (by assumption); obtain ⟨ad154, sC, sD, e154, dU, iA, iB⟩ := at_L1 aX.out (l1.length : Int) p154 q154; cases e154; replace dU := (HB.out.cell (World.block_lt_of_cell? w _ dU)).trans dU; have sE := Aside0.mk iB; have sF := Aside0.mk iA; clear iB iA; (try simp only [Go.IntWalk.toNatUp] at dU); replace p154 := eq_true p154; replace q154 := eq_true q154))
  have n0_ := Aside0.mk (blk_drew BK144.out)
  have n1_ := Aside0.mk (below_drew1 HB.out)
  clear BK144
  clear HB
  have BK144 := n0_
  have HB := n1_
  clear n0_ n1_
  refine start_ (n := 9) (S := fun w' => w'.cell? ⟨gb144, 0, none⟩ = some (.slice aG aD.length aH) ∧ w'.cell? ⟨gb144, 1, none⟩ = some (.slice aK aA.length aI) ∧ w'.cell? ⟨gb144, 2, none⟩ = some (.slice (some ad154) aC.length aJ)) (ds := []) #[false, false, false, false, false, false, false, false, false] (by kernel_rfl) rfl rfl ⟨(blk_cell BK144.out 0).trans rfl, (blk_cell BK144.out 1).trans rfl, (blk_cell BK144.out 2).trans rfl⟩ (fun hHeld => ?_); refine with_tabW laganref04_all.tab5 laganref04_all.bits5 (fun HT_ HW_ => ?_)
  generalize w20.drew = w22 at BK144 HB hHeld ⊢
  refine pure_ (i := 2) (N := some 32) (v := ?_) (a' := ?_) #[false, false, true, false, false, false, false, false, false] rfl rfl (any_of HT_.out (by kernel_rfl)) (fun _ _ _ h => h) (Or.inl ⟨by rfl, ?_⟩) ?_ ?_
  rotate_left
  ·
   intro w'
   go_simp
   with_reducible rfl
  rotate_left
  ·
   simp only [Act.put, List.setIfInBounds_toArray, List.set_cons_zero, List.set_cons_succ, i64_w, i32_w]
   rfl
  refine pure_ (i := 6) (N := some 36) (v := ?_) (a' := ?_) #[false, false, true, false, false, false, true, false, false] rfl rfl (any_of HT_.out (by kernel_rfl)) (fun _ _ _ h => h) (Or.inl ⟨by rfl, ?_⟩) ?_ ?_
  rotate_left
  ·
   intro w'
   go_simp
   with_reducible rfl
  rotate_left
  ·
   simp only [Act.put, List.setIfInBounds_toArray, List.set_cons_zero, List.set_cons_succ, i64_w, i32_w]
   rfl
  refine take_ (i := 0) (N := some 30) (v := ?_) (a' := ?_) #[true, false, true, false, false, false, true, false, false] rfl rfl (take_ofW HT_.out HW_.out (by kernel_rfl)) (fun _ _ _ h => h) (Or.inl ⟨by rfl, ?_⟩) hHeld ?_ ?_
  rotate_left
  ·
   rintro w' ⟨s0, s1, s2⟩
   go_simp
   with_reducible rfl
  rotate_left
  ·
   simp only [Act.put, List.setIfInBounds_toArray, List.set_cons_zero, List.set_cons_succ, i64_w, i32_w]
   rfl
  refine join_ (σ := Value × Value × Value) 3 #[true, true, true, true, true, false, true, false, false] (fun s_ => [(31, s_.1), (33, s_.2.1), (34, s_.2.2)]) (fun s_ w' => (w'.cell? ⟨gb144, 0, none⟩ = some (.slice aG aD.length aH) ∧ w'.cell? ⟨gb144, 1, none⟩ = some (.slice aK aA.length aI) ∧ w'.cell? ⟨gb144, 2, none⟩ = some (.slice (some ad154) aC.length aJ)) ∧ (Kd.R (Kd.int .i64) 3 w' w.heap.size (fun k_ => (w.heap.size ≤ k_) ∧ some k_ ≠ (s_.2.2 : Value).ownBlock) s_.2.1 y158) ∧ (Kd.R (Kd.int .i64) 3 w' w.heap.size (fun k_ => (w.heap.size ≤ k_) ∧ some k_ ≠ (s_.2.1 : Value).ownBlock) s_.2.2 y161) ∧ (w'.heap[gb144]? = some (.cells #[.slice aG aD.length aH, .slice aK aA.length aI, .slice (some ad154) aC.length aJ] 26 (0, 0))) ∧ (Below w.heap.size w w')) ?_ ?_
  rotate_left
  ·
   intro hCont
   refine two_ (i := 1) (j := 4) (Ni := some 31) (Nj := some 34) #[true, true, true, false, false, false, true, false, false] #[true, false, true, false, true, false, true, false, false] rfl rfl rfl rfl (two_of HT_.out (by kernel_rfl)) (by decide) (by decide) (fun K hK => ?_) (fun K hK => ?_)
   ·
    skip
    refine Kd.R_lit_step (Kd.int .i64) _ 3 ?hg (N := 31) ?hd (xs := ([] : List Int)) (inner := []) (ok := fun _ => True) (okp := fun _ => True) ?hr ?hp (fun _ hk => hk) trivial (Below.refl _ _) (Nat.le_refl _) (by simp) ?_; (case hd => rfl); (case hg => rfl); (case hr => first | (go_simp; done) | (go_simp; rfl)); (case hp => exact (Reps.none _ _))
    intro v156 w23 ho24 hb hg_ hnew_
    clear hg_ hnew_
    (first | rw [← Ny155.out] at ho24 | (simp only [Int.reduceToNat] at ho24; rw [← Ny155.out] at ho24))
    have n0_ := Aside0.mk (Kd.R_lower (Kd.R_newM (M := fun k_ => (w.heap.size ≤ k_)) ho24 (below_size (by repeat (first | (with_reducible first | exact HB.out | apply below_alloc | apply pw_below_drewN | apply below_drew1 | refine below_set ?_ GE144.out) | exact HB.out))) (fun k_ h_ => h_)) (below_size (by repeat (first | (with_reducible first | exact HB.out | apply below_alloc | apply pw_below_drewN | apply below_drew1 | refine below_set ?_ GE144.out) | exact HB.out))))
    have n1_ := Aside0.mk (blk_below (g := gb144) (o := .cells #[.slice aG aD.length aH, .slice aK aA.length aI, .slice (some ad154) aC.length aJ] 26 (0, 0)) (by (with_reducible repeat (first | refine blk_drewN ?_ _ | refine blk_drew ?_ | refine blk_alloc ?_ _)); exact BK144.out) hb)
    have n2_ := Aside0.mk (below_step (by repeat (first | (with_reducible first | exact HB.out | apply below_alloc | apply pw_below_drewN | apply below_drew1 | refine below_set ?_ GE144.out) | exact HB.out)) hb)
    clear BK144
    clear HB
    have HO157 := n0_
    have BK144 := n1_
    have HB := n2_
    clear n0_ n1_ n2_
    clear hb ho24
    refine hK.out _ _ ⟨(blk_cell BK144.out 0).trans rfl, (blk_cell BK144.out 1).trans rfl, (blk_cell BK144.out 2).trans rfl⟩ (fun hHeld => ?_)
    clear hK K
    refine norm_ (a' := ?_) ?_ ?_
    rotate_left
    ·
     show Act.put _ (some 31) _ = _
     simp only [Act.put, List.setIfInBounds_toArray, List.set_cons_zero, List.set_cons_succ, i64_w, i32_w]
     rfl
    refine two_ (i := 3) (j := 4) (Ni := some 33) (Nj := some 34) #[true, true, true, true, false, false, true, false, false] #[true, true, true, false, true, false, true, false, false] rfl rfl rfl rfl (two_of HT_.out (by kernel_rfl)) (by decide) (by decide) (fun K hK => ?_) (fun K hK => ?_)
    ·
     skip
     refine Kd.R_append_rows_step (Kd.int .i64) (w0 := w) w.heap.size (by rfl) (.tmp 31) (.tmp 32) 22 3 (.int .i64 0) 8 rfl Try.underlying22 info3 rfl (by decide) (by omega) v156 y155 l1 _ _ _ (fun k_ => (w.heap.size ≤ k_)) (fun _ => False) rfl rfl ?aO ?aR (fun _ _ h => h) (fun _ h => h.elim) ?aF ?aB ?aS ?aL ?_
     (case aR => repeat (first | exact (Kd.C_below HR1.out HB.out) | (with_reducible refine Kd.C_alloc ?_ _) | (with_reducible refine Kd.C_drewN ?_ _) | (with_reducible refine Kd.C_drew ?_)))
     (case aB => exact (by repeat (first | (with_reducible first | exact HB.out | apply below_alloc | apply pw_below_drewN | apply below_drew1 | refine below_set ?_ GE144.out) | exact HB.out)))
     (case aF => exact (fun k_ hk => (Nat.le_trans (below_size (by repeat (first | (with_reducible first | exact HB.out | apply below_alloc | apply pw_below_drewN | apply below_drew1 | refine below_set ?_ GE144.out) | exact HB.out))) hk)))
     (case aO => exact (by (with_reducible repeat (first | apply Kd.R_alloc | apply Kd.R_drewN | apply Kd.R_drew)); exact Kd.R_mono HO157.out (fun _ hk => hk.1)))
     (case aS => exact (below_size (by repeat (first | (with_reducible first | exact HB.out | apply below_alloc | apply pw_below_drewN | apply below_drew1 | refine below_set ?_ GE144.out) | exact HB.out))))
     (case aL => have := LMc17.out; omega)
     intro v159 w25 ho hb hg hat
     rw [← Ny158.out] at ho
     have n0_ := Aside0.mk (blk_grown (g := gb144) (o := .cells #[.slice aG aD.length aH, .slice aK aA.length aI, .slice (some ad154) aC.length aJ] 26 (0, 0)) (by (with_reducible repeat (first | refine blk_drewN ?_ _ | refine blk_drew ?_ | refine blk_alloc ?_ _)); exact BK144.out) hg (Kd.R_ne HO157.out BK144.out (by decide)))
     have n1_ := Aside0.mk (hb)
     have n2_ := Aside0.mk (ho)
     clear BK144
     clear HB
     clear HO157
     have BK144 := n0_
     have HB := n1_
     have HO160 := n2_
     clear n0_ n1_ n2_
     clear ho hb hg hat
     refine hK.out _ _ ⟨(blk_cell BK144.out 0).trans rfl, (blk_cell BK144.out 1).trans rfl, (blk_cell BK144.out 2).trans rfl⟩ (fun hHeld => ?_)
     clear hK K
     refine norm_ (a' := ?_) ?_ ?_
     rotate_left
     ·
      show Act.put _ (some 33) _ = _
      simp only [Act.put, List.setIfInBounds_toArray, List.set_cons_zero, List.set_cons_succ, i64_w, i32_w]
      rfl
     refine one_ (i := 4) (N := some 34) #[true, true, true, true, true, false, true, false, false] rfl rfl (one_of HT_.out (by kernel_rfl)) (by decide) (fun K hK => ?_)
     refine Kd.R_lit_step (Kd.int .i64) _ 3 ?hg (N := 34) ?hd (xs := ([(-1)] : List Int)) (inner := [.int .i64 (-1)]) (ok := fun _ => True) (okp := fun _ => True) ?hr ?hp (fun _ hk => hk) trivial (Below.refl _ _) (Nat.le_refl _) (by simp) ?_; (case hd => rfl); (case hg => rfl); (case hr => first | (go_simp; done) | (go_simp; rfl)); (case hp => exact (Reps.one (show Kd.M (Kd.int .i64) _ _ _ (-1) [.int .i64 (-1)] from rfl) (Reps.none _ _)))
     intro v162 w26 ho27 hb hg_ hnew_
     clear hg_ hnew_
     (first | rw [← Ny161.out] at ho27 | (simp only [Int.reduceToNat] at ho27; rw [← Ny161.out] at ho27))
     have n0_ := Aside0.mk (Kd.R_elder' (by (with_reducible repeat (first | apply Kd.R_alloc | apply Kd.R_drewN | apply Kd.R_drew)); exact HO160.out) (Kd.R_base ho27) hb)
     have n1_ := Aside0.mk (Kd.R_lower (Kd.R_new' (Kd.R_newM (M := fun k_ => (w.heap.size ≤ k_)) ho27 (below_size (by repeat (first | (with_reducible first | exact HB.out | apply below_alloc | apply pw_below_drewN | apply below_drew1 | refine below_set ?_ GE144.out) | exact HB.out))) (fun k_ h_ => h_)) (Kd.R_lt (by (with_reducible repeat (first | apply Kd.R_alloc | apply Kd.R_drewN | apply Kd.R_drew)); exact HO160.out))) (below_size (by repeat (first | (with_reducible first | exact HB.out | apply below_alloc | apply pw_below_drewN | apply below_drew1 | refine below_set ?_ GE144.out) | exact HB.out))))
     have n2_ := Aside0.mk (blk_below (g := gb144) (o := .cells #[.slice aG aD.length aH, .slice aK aA.length aI, .slice (some ad154) aC.length aJ] 26 (0, 0)) (by (with_reducible repeat (first | refine blk_drewN ?_ _ | refine blk_drew ?_ | refine blk_alloc ?_ _)); exact BK144.out) hb)
     have n3_ := Aside0.mk (below_step (by repeat (first | (with_reducible first | exact HB.out | apply below_alloc | apply pw_below_drewN | apply below_drew1 | refine below_set ?_ GE144.out) | exact HB.out)) hb)
     clear HO160
     clear BK144
     clear HB
     have HO160 := n0_
     have HO163 := n1_
     have BK144 := n2_
     have HB := n3_
     clear n0_ n1_ n2_ n3_
     clear hb ho27
     refine hK.out _ _ ⟨(blk_cell BK144.out 0).trans rfl, (blk_cell BK144.out 1).trans rfl, (blk_cell BK144.out 2).trans rfl⟩ (fun hHeld => ?_)
     clear hK K
     refine norm_ (a' := ?_) ?_ ?_
     rotate_left
     ·
      show Act.put _ (some 34) _ = _
      simp only [Act.put, List.setIfInBounds_toArray, List.set_cons_zero, List.set_cons_succ, i64_w, i32_w]
      rfl
     exact norm_ (by simp only [putAll, Act.put, List.setIfInBounds_toArray, List.set_cons_zero, List.set_cons_succ]) (hCont (v156, v159, v162) _ ⟨hHeld, (by (with_reducible repeat (first | apply Kd.R_alloc | apply Kd.R_drewN | apply Kd.R_drew)); exact HO160.out), (by (with_reducible repeat (first | apply Kd.R_alloc | apply Kd.R_drewN | apply Kd.R_drew)); exact Kd.R_mono HO163.out (fun _ hk => ⟨hk.1.1, hk.2⟩)), (by (with_reducible repeat (first | refine blk_drewN ?_ _ | refine blk_drew ?_ | refine blk_alloc ?_ _)); exact BK144.out), (by repeat (first | (with_reducible first | exact HB.out | apply below_alloc | apply pw_below_drewN | apply below_drew1 | refine below_set ?_ GE144.out) | exact HB.out))⟩)
    skip
    refine Kd.R_lit_step (Kd.int .i64) _ 3 ?hg (N := 34) ?hd (xs := ([(-1)] : List Int)) (inner := [.int .i64 (-1)]) (ok := fun _ => True) (okp := fun _ => True) ?hr ?hp (fun _ hk => hk) trivial (Below.refl _ _) (Nat.le_refl _) (by simp) ?_; (case hd => rfl); (case hg => rfl); (case hr => first | (go_simp; done) | (go_simp; rfl)); (case hp => exact (Reps.one (show Kd.M (Kd.int .i64) _ _ _ (-1) [.int .i64 (-1)] from rfl) (Reps.none _ _)))
    intro v162 w25 ho26 hb hg_ hnew_
    clear hg_ hnew_
    (first | rw [← Ny161.out] at ho26 | (simp only [Int.reduceToNat] at ho26; rw [← Ny161.out] at ho26))
    have n0_ := Aside0.mk (Kd.R_elder' (by (with_reducible repeat (first | apply Kd.R_alloc | apply Kd.R_drewN | apply Kd.R_drew)); exact HO157.out) (Kd.R_base ho26) hb)
    have n1_ := Aside0.mk (Kd.R_lower (Kd.R_new' (Kd.R_newM (M := fun k_ => (w.heap.size ≤ k_)) ho26 (below_size (by repeat (first | (with_reducible first | exact HB.out | apply below_alloc | apply pw_below_drewN | apply below_drew1 | refine below_set ?_ GE144.out) | exact HB.out))) (fun k_ h_ => h_)) (Kd.R_lt (by (with_reducible repeat (first | apply Kd.R_alloc | apply Kd.R_drewN | apply Kd.R_drew)); exact HO157.out))) (below_size (by repeat (first | (with_reducible first | exact HB.out | apply below_alloc | apply pw_below_drewN | apply below_drew1 | refine below_set ?_ GE144.out) | exact HB.out))))
    have n2_ := Aside0.mk (blk_below (g := gb144) (o := .cells #[.slice aG aD.length aH, .slice aK aA.length aI, .slice (some ad154) aC.length aJ] 26 (0, 0)) (by (with_reducible repeat (first | refine blk_drewN ?_ _ | refine blk_drew ?_ | refine blk_alloc ?_ _)); exact BK144.out) hb)
    have n3_ := Aside0.mk (below_step (by repeat (first | (with_reducible first | exact HB.out | apply below_alloc | apply pw_below_drewN | apply below_drew1 | refine below_set ?_ GE144.out) | exact HB.out)) hb)
    clear HO157
    clear BK144
    clear HB
    have HO157 := n0_
    have HO163 := n1_
    have BK144 := n2_
    have HB := n3_
    clear n0_ n1_ n2_ n3_
    clear hb ho26
    refine hK.out _ _ ⟨(blk_cell BK144.out 0).trans rfl, (blk_cell BK144.out 1).trans rfl, (blk_cell BK144.out 2).trans rfl⟩ (fun hHeld => ?_)
    clear hK K
    refine norm_ (a' := ?_) ?_ ?_
    rotate_left
    ·
     show Act.put _ (some 34) _ = _
     simp only [Act.put, List.setIfInBounds_toArray, List.set_cons_zero, List.set_cons_succ, i64_w, i32_w]
     rfl
    refine one_ (i := 3) (N := some 33) #[true, true, true, true, true, false, true, false, false] rfl rfl (one_of HT_.out (by kernel_rfl)) (by decide) (fun K hK => ?_)
    refine Kd.R_append_rows_step (Kd.int .i64) (w0 := w) w.heap.size (by rfl) (.tmp 31) (.tmp 32) 22 3 (.int .i64 0) 8 rfl Try.underlying22 info3 rfl (by decide) (by omega) v156 y155 l1 _ _ _ (fun k_ => (w.heap.size ≤ k_) ∧ some k_ ≠ (v162 : Value).ownBlock) (fun _ => False) rfl rfl ?aO ?aR (fun _ _ h => h) (fun _ h => h.elim) ?aF ?aB ?aS ?aL ?_
    (case aR => repeat (first | exact (Kd.C_below HR1.out HB.out) | (with_reducible refine Kd.C_alloc ?_ _) | (with_reducible refine Kd.C_drewN ?_ _) | (with_reducible refine Kd.C_drew ?_)))
    (case aB => exact (by repeat (first | (with_reducible first | exact HB.out | apply below_alloc | apply pw_below_drewN | apply below_drew1 | refine below_set ?_ GE144.out) | exact HB.out)))
    (case aF => exact (fun k_ hk => ⟨(Nat.le_trans (below_size (by repeat (first | (with_reducible first | exact HB.out | apply below_alloc | apply pw_below_drewN | apply below_drew1 | refine below_set ?_ GE144.out) | exact HB.out))) hk), Kd.fresh' (Kd.R_lt (by (with_reducible repeat (first | apply Kd.R_alloc | apply Kd.R_drewN | apply Kd.R_drew)); exact HO163.out)) k_ hk⟩))
    (case aO => exact (by (with_reducible repeat (first | apply Kd.R_alloc | apply Kd.R_drewN | apply Kd.R_drew)); exact Kd.R_mono HO157.out (fun _ hk => ⟨hk.1.1, hk.2⟩)))
    (case aS => exact (below_size (by repeat (first | (with_reducible first | exact HB.out | apply below_alloc | apply pw_below_drewN | apply below_drew1 | refine below_set ?_ GE144.out) | exact HB.out))))
    (case aL => have := LMc17.out; omega)
    intro v159 w27 ho hb hg hat
    rw [← Ny158.out] at ho
    have n0_ := Aside0.mk (blk_grown (g := gb144) (o := .cells #[.slice aG aD.length aH, .slice aK aA.length aI, .slice (some ad154) aC.length aJ] 26 (0, 0)) (by (with_reducible repeat (first | refine blk_drewN ?_ _ | refine blk_drew ?_ | refine blk_alloc ?_ _)); exact BK144.out) hg (Kd.R_ne HO157.out BK144.out (by decide)))
    have n1_ := Aside0.mk (Kd.R_after (ok := (fun k_ => (w.heap.size ≤ k_))) (by (with_reducible repeat (first | apply Kd.R_alloc | apply Kd.R_drewN | apply Kd.R_drew)); exact Kd.R_mono HO163.out (fun _ hk => ⟨hk.1.1, hk.2⟩)) hg hat)
    have n2_ := Aside0.mk (hb)
    have n3_ := Aside0.mk (ho)
    clear BK144
    clear HO163
    clear HB
    clear HO157
    have BK144 := n0_
    have HO163 := n1_
    have HB := n2_
    have HO160 := n3_
    clear n0_ n1_ n2_ n3_
    clear ho hb hg hat
    refine hK.out _ _ ⟨(blk_cell BK144.out 0).trans rfl, (blk_cell BK144.out 1).trans rfl, (blk_cell BK144.out 2).trans rfl⟩ (fun hHeld => ?_)
    clear hK K
    refine norm_ (a' := ?_) ?_ ?_
    rotate_left
    ·
     show Act.put _ (some 33) _ = _
     simp only [Act.put, List.setIfInBounds_toArray, List.set_cons_zero, List.set_cons_succ, i64_w, i32_w]
     rfl
    exact norm_ (by simp only [putAll, Act.put, List.setIfInBounds_toArray, List.set_cons_zero, List.set_cons_succ]) (hCont (v156, v159, v162) _ ⟨hHeld, (by (with_reducible repeat (first | apply Kd.R_alloc | apply Kd.R_drewN | apply Kd.R_drew)); exact HO160.out), (by (with_reducible repeat (first | apply Kd.R_alloc | apply Kd.R_drewN | apply Kd.R_drew)); exact HO163.out), (by (with_reducible repeat (first | refine blk_drewN ?_ _ | refine blk_drew ?_ | refine blk_alloc ?_ _)); exact BK144.out), (by repeat (first | (with_reducible first | exact HB.out | apply below_alloc | apply pw_below_drewN | apply below_drew1 | refine below_set ?_ GE144.out) | exact HB.out))⟩)
   skip
   refine Kd.R_lit_step (Kd.int .i64) _ 3 ?hg (N := 34) ?hd (xs := ([(-1)] : List Int)) (inner := [.int .i64 (-1)]) (ok := fun _ => True) (okp := fun _ => True) ?hr ?hp (fun _ hk => hk) trivial (Below.refl _ _) (Nat.le_refl _) (by simp) ?_; (case hd => rfl); (case hg => rfl); (case hr => first | (go_simp; done) | (go_simp; rfl)); (case hp => exact (Reps.one (show Kd.M (Kd.int .i64) _ _ _ (-1) [.int .i64 (-1)] from rfl) (Reps.none _ _)))
   intro v162 w23 ho24 hb hg_ hnew_
   clear hg_ hnew_
   (first | rw [← Ny161.out] at ho24 | (simp only [Int.reduceToNat] at ho24; rw [← Ny161.out] at ho24))
   have n0_ := Aside0.mk (Kd.R_lower (Kd.R_newM (M := fun k_ => (w.heap.size ≤ k_)) ho24 (below_size (by repeat (first | (with_reducible first | exact HB.out | apply below_alloc | apply pw_below_drewN | apply below_drew1 | refine below_set ?_ GE144.out) | exact HB.out))) (fun k_ h_ => h_)) (below_size (by repeat (first | (with_reducible first | exact HB.out | apply below_alloc | apply pw_below_drewN | apply below_drew1 | refine below_set ?_ GE144.out) | exact HB.out))))
   have n1_ := Aside0.mk (blk_below (g := gb144) (o := .cells #[.slice aG aD.length aH, .slice aK aA.length aI, .slice (some ad154) aC.length aJ] 26 (0, 0)) (by (with_reducible repeat (first | refine blk_drewN ?_ _ | refine blk_drew ?_ | refine blk_alloc ?_ _)); exact BK144.out) hb)
   have n2_ := Aside0.mk (below_step (by repeat (first | (with_reducible first | exact HB.out | apply below_alloc | apply pw_below_drewN | apply below_drew1 | refine below_set ?_ GE144.out) | exact HB.out)) hb)
   clear BK144
   clear HB
   have HO163 := n0_
   have BK144 := n1_
   have HB := n2_
   clear n0_ n1_ n2_
   clear hb ho24
   refine hK.out _ _ ⟨(blk_cell BK144.out 0).trans rfl, (blk_cell BK144.out 1).trans rfl, (blk_cell BK144.out 2).trans rfl⟩ (fun hHeld => ?_)
   clear hK K
   refine norm_ (a' := ?_) ?_ ?_
   rotate_left
   ·
    show Act.put _ (some 34) _ = _
    simp only [Act.put, List.setIfInBounds_toArray, List.set_cons_zero, List.set_cons_succ, i64_w, i32_w]
    rfl
   refine one_ (i := 1) (N := some 31) #[true, true, true, false, true, false, true, false, false] rfl rfl (one_of HT_.out (by kernel_rfl)) (by decide) (fun K hK => ?_)
   refine Kd.R_lit_step (Kd.int .i64) _ 3 ?hg (N := 31) ?hd (xs := ([] : List Int)) (inner := []) (ok := fun _ => True) (okp := fun _ => True) ?hr ?hp (fun _ hk => hk) trivial (Below.refl _ _) (Nat.le_refl _) (by simp) ?_; (case hd => rfl); (case hg => rfl); (case hr => first | (go_simp; done) | (go_simp; rfl)); (case hp => exact (Reps.none _ _))
   intro v156 w25 ho26 hb hg_ hnew_
   clear hg_ hnew_
   (first | rw [← Ny155.out] at ho26 | (simp only [Int.reduceToNat] at ho26; rw [← Ny155.out] at ho26))
   have n0_ := Aside0.mk (Kd.R_elder' (by (with_reducible repeat (first | apply Kd.R_alloc | apply Kd.R_drewN | apply Kd.R_drew)); exact HO163.out) (Kd.R_base ho26) hb)
   have n1_ := Aside0.mk (Kd.R_lower (Kd.R_new' (Kd.R_newM (M := fun k_ => (w.heap.size ≤ k_)) ho26 (below_size (by repeat (first | (with_reducible first | exact HB.out | apply below_alloc | apply pw_below_drewN | apply below_drew1 | refine below_set ?_ GE144.out) | exact HB.out))) (fun k_ h_ => h_)) (Kd.R_lt (by (with_reducible repeat (first | apply Kd.R_alloc | apply Kd.R_drewN | apply Kd.R_drew)); exact HO163.out))) (below_size (by repeat (first | (with_reducible first | exact HB.out | apply below_alloc | apply pw_below_drewN | apply below_drew1 | refine below_set ?_ GE144.out) | exact HB.out))))
   have n2_ := Aside0.mk (blk_below (g := gb144) (o := .cells #[.slice aG aD.length aH, .slice aK aA.length aI, .slice (some ad154) aC.length aJ] 26 (0, 0)) (by (with_reducible repeat (first | refine blk_drewN ?_ _ | refine blk_drew ?_ | refine blk_alloc ?_ _)); exact BK144.out) hb)
   have n3_ := Aside0.mk (below_step (by repeat (first | (with_reducible first | exact HB.out | apply below_alloc | apply pw_below_drewN | apply below_drew1 | refine below_set ?_ GE144.out) | exact HB.out)) hb)
   clear HO163
   clear BK144
   clear HB
   have HO163 := n0_
   have HO157 := n1_
   have BK144 := n2_
   have HB := n3_
   clear n0_ n1_ n2_ n3_
   clear hb ho26
   refine hK.out _ _ ⟨(blk_cell BK144.out 0).trans rfl, (blk_cell BK144.out 1).trans rfl, (blk_cell BK144.out 2).trans rfl⟩ (fun hHeld => ?_)
   clear hK K
   refine norm_ (a' := ?_) ?_ ?_
   rotate_left
   ·
    show Act.put _ (some 31) _ = _
    simp only [Act.put, List.setIfInBounds_toArray, List.set_cons_zero, List.set_cons_succ, i64_w, i32_w]
    rfl
   refine one_ (i := 3) (N := some 33) #[true, true, true, true, true, false, true, false, false] rfl rfl (one_of HT_.out (by kernel_rfl)) (by decide) (fun K hK => ?_)
   refine Kd.R_append_rows_step (Kd.int .i64) (w0 := w) w.heap.size (by rfl) (.tmp 31) (.tmp 32) 22 3 (.int .i64 0) 8 rfl Try.underlying22 info3 rfl (by decide) (by omega) v156 y155 l1 _ _ _ (fun k_ => (w.heap.size ≤ k_) ∧ some k_ ≠ (v162 : Value).ownBlock) (fun _ => False) rfl rfl ?aO ?aR (fun _ _ h => h) (fun _ h => h.elim) ?aF ?aB ?aS ?aL ?_
   (case aR => repeat (first | exact (Kd.C_below HR1.out HB.out) | (with_reducible refine Kd.C_alloc ?_ _) | (with_reducible refine Kd.C_drewN ?_ _) | (with_reducible refine Kd.C_drew ?_)))
   (case aB => exact (by repeat (first | (with_reducible first | exact HB.out | apply below_alloc | apply pw_below_drewN | apply below_drew1 | refine below_set ?_ GE144.out) | exact HB.out)))
   (case aF => exact (fun k_ hk => ⟨(Nat.le_trans (below_size (by repeat (first | (with_reducible first | exact HB.out | apply below_alloc | apply pw_below_drewN | apply below_drew1 | refine below_set ?_ GE144.out) | exact HB.out))) hk), Kd.fresh' (Kd.R_lt (by (with_reducible repeat (first | apply Kd.R_alloc | apply Kd.R_drewN | apply Kd.R_drew)); exact HO163.out)) k_ hk⟩))
   (case aO => exact (by (with_reducible repeat (first | apply Kd.R_alloc | apply Kd.R_drewN | apply Kd.R_drew)); exact Kd.R_mono HO157.out (fun _ hk => ⟨hk.1.1, hk.2⟩)))
   (case aS => exact (below_size (by repeat (first | (with_reducible first | exact HB.out | apply below_alloc | apply pw_below_drewN | apply below_drew1 | refine below_set ?_ GE144.out) | exact HB.out))))
   (case aL => have := LMc17.out; omega)
   intro v159 w27 ho hb hg hat
   rw [← Ny158.out] at ho
   have n0_ := Aside0.mk (blk_grown (g := gb144) (o := .cells #[.slice aG aD.length aH, .slice aK aA.length aI, .slice (some ad154) aC.length aJ] 26 (0, 0)) (by (with_reducible repeat (first | refine blk_drewN ?_ _ | refine blk_drew ?_ | refine blk_alloc ?_ _)); exact BK144.out) hg (Kd.R_ne HO157.out BK144.out (by decide)))
   have n1_ := Aside0.mk (Kd.R_after (ok := (fun k_ => (w.heap.size ≤ k_))) (by (with_reducible repeat (first | apply Kd.R_alloc | apply Kd.R_drewN | apply Kd.R_drew)); exact Kd.R_mono HO163.out (fun _ hk => ⟨hk.1.1, hk.2⟩)) hg hat)
   have n2_ := Aside0.mk (hb)
   have n3_ := Aside0.mk (ho)
   clear BK144
   clear HO163
   clear HB
   clear HO157
   have BK144 := n0_
   have HO163 := n1_
   have HB := n2_
   have HO160 := n3_
   clear n0_ n1_ n2_ n3_
   clear ho hb hg hat
   refine hK.out _ _ ⟨(blk_cell BK144.out 0).trans rfl, (blk_cell BK144.out 1).trans rfl, (blk_cell BK144.out 2).trans rfl⟩ (fun hHeld => ?_)
   clear hK K
   refine norm_ (a' := ?_) ?_ ?_
   rotate_left
   ·
    show Act.put _ (some 33) _ = _
    simp only [Act.put, List.setIfInBounds_toArray, List.set_cons_zero, List.set_cons_succ, i64_w, i32_w]
    rfl
   exact norm_ (by simp only [putAll, Act.put, List.setIfInBounds_toArray, List.set_cons_zero, List.set_cons_succ]) (hCont (v156, v159, v162) _ ⟨hHeld, (by (with_reducible repeat (first | apply Kd.R_alloc | apply Kd.R_drewN | apply Kd.R_drew)); exact HO160.out), (by (with_reducible repeat (first | apply Kd.R_alloc | apply Kd.R_drewN | apply Kd.R_drew)); exact HO163.out), (by (with_reducible repeat (first | refine blk_drewN ?_ _ | refine blk_drew ?_ | refine blk_alloc ?_ _)); exact BK144.out), (by repeat (first | (with_reducible first | exact HB.out | apply below_alloc | apply pw_below_drewN | apply below_drew1 | refine below_set ?_ GE144.out) | exact HB.out))⟩)
  rintro ⟨v156, v159, v162⟩ w28 ⟨hS_, h0_, h1_, h2_, h3_⟩
  have n0_ : Aside0 (Kd.R (Kd.int .i64) 3 w28 w.heap.size (fun k_ => (w.heap.size ≤ k_) ∧ some k_ ≠ (v162 : Value).ownBlock) v159 y158) := ⟨h0_⟩
  have n1_ : Aside0 (Kd.R (Kd.int .i64) 3 w28 w.heap.size (fun k_ => (w.heap.size ≤ k_) ∧ some k_ ≠ (v159 : Value).ownBlock) v162 y161) := ⟨h1_⟩
  have n2_ : Aside0 (w28.heap[gb144]? = some (.cells #[.slice aG aD.length aH, .slice aK aA.length aI, .slice (some ad154) aC.length aJ] 26 (0, 0))) := ⟨h2_⟩
  have n3_ : Aside0 (Below w.heap.size w w28) := ⟨h3_⟩
  clear BK144
  clear HB
  clear h0_ h1_ h2_ h3_
  have HO160 := n0_
  have HO163 := n1_
  have BK144 := n2_
  have HB := n3_
  clear n0_ n1_ n2_ n3_
  have hHeld : w28.cell? ⟨gb144, 0, none⟩ = some (.slice aG aD.length aH) ∧ w28.cell? ⟨gb144, 1, none⟩ = some (.slice aK aA.length aI) ∧ w28.cell? ⟨gb144, 2, none⟩ = some (.slice (some ad154) aC.length aJ) := hS_
  obtain ⟨Ao30, co30, eo30⟩ := Kd.R_slice HO163.out
  (first | subst eo30 | (injection eo30 with f1_ f2_ f3_; have f4_ := f1_.symm; have f5_ := f3_.symm; clear f1_ f2_ f3_; subst f4_; subst f5_))
  refine norm_ (a' := ?_) ?_ ?_
  rotate_left
  ·
   simp only [putAll, Act.put, List.setIfInBounds_toArray, List.set_cons_zero, List.set_cons_succ]
   rfl
  refine one_ (i := 5) (N := some 35) #[true, true, true, true, true, true, true, false, false] rfl rfl (one_of HT_.out (by kernel_rfl)) (by decide) (fun K hK => ?_)
  refine Kd.R_append_rows_step (Kd.int .i64) (w0 := w) w.heap.size (by rfl) (.tmp 33) (.tmp 34) 22 3 (.int .i64 0) 8 rfl Try.underlying22 info3 rfl (by decide) (by omega) v159 y158 y161 _ _ _ (fun k_ => (w.heap.size ≤ k_) ∧ some k_ ≠ (.slice Ao30 y161.length co30 : Value).ownBlock) (fun _ => False) rfl rfl ?aO ?aR (fun _ _ h => h) (fun _ h => h.elim) ?aF ?aB ?aS ?aL ?_
  (case aR => repeat (first | exact (Kd.R_reads' HO163.out).2.2 | (with_reducible refine Kd.C_alloc ?_ _) | (with_reducible refine Kd.C_drewN ?_ _) | (with_reducible refine Kd.C_drew ?_)))
  (case aB => exact (by repeat (first | (with_reducible first | exact HB.out | apply below_alloc | apply pw_below_drewN | apply below_drew1 | refine below_set ?_ GE144.out) | exact HB.out)))
  (case aF => exact (fun k_ hk => ⟨(Nat.le_trans (below_size (by repeat (first | (with_reducible first | exact HB.out | apply below_alloc | apply pw_below_drewN | apply below_drew1 | refine below_set ?_ GE144.out) | exact HB.out))) hk), Kd.fresh' (Kd.R_lt (by (with_reducible repeat (first | apply Kd.R_alloc | apply Kd.R_drewN | apply Kd.R_drew)); exact HO163.out)) k_ hk⟩))
  (case aO => exact (by (with_reducible repeat (first | apply Kd.R_alloc | apply Kd.R_drewN | apply Kd.R_drew)); exact HO160.out))
  (case aS => exact (below_size (by repeat (first | (with_reducible first | exact HB.out | apply below_alloc | apply pw_below_drewN | apply below_drew1 | refine below_set ?_ GE144.out) | exact HB.out))))
  (case aL => have := LMc18.out; omega)
  intro v165 w29 ho hb hg hat
  rw [← Ny164.out] at ho
  have n0_ := Aside0.mk (blk_grown (g := gb144) (o := .cells #[.slice aG aD.length aH, .slice aK aA.length aI, .slice (some ad154) aC.length aJ] 26 (0, 0)) (by (with_reducible repeat (first | refine blk_drewN ?_ _ | refine blk_drew ?_ | refine blk_alloc ?_ _)); exact BK144.out) hg (Kd.R_ne HO160.out BK144.out (by decide)))
  have n1_ := Aside0.mk (Kd.R_after (ok := (fun k_ => (w.heap.size ≤ k_))) (by (with_reducible repeat (first | apply Kd.R_alloc | apply Kd.R_drewN | apply Kd.R_drew)); exact HO163.out) hg hat)
  have n2_ := Aside0.mk (hb)
  have n3_ := Aside0.mk (ho)
  clear BK144
  clear HO163
  clear HB
  clear HO160
  have BK144 := n0_
  have HO163 := n1_
  have HB := n2_
  have HO166 := n3_
  clear n0_ n1_ n2_ n3_
  clear ho hb hg hat
  obtain ⟨Ao31, co31, eo31⟩ := Kd.R_slice HO166.out
  (first | subst eo31 | (injection eo31 with f1_ f2_ f3_; have f4_ := f1_.symm; have f5_ := f3_.symm; clear f1_ f2_ f3_; subst f4_; subst f5_))
  refine hK.out _ _ ⟨(blk_cell BK144.out 0).trans rfl, (blk_cell BK144.out 1).trans rfl, (blk_cell BK144.out 2).trans rfl⟩ (fun hHeld => ?_)
  clear hK K
  refine norm_ (a' := ?_) ?_ ?_
  rotate_left
  ·
   show Act.put _ (some 35) _ = _
   simp only [Act.put, List.setIfInBounds_toArray, List.set_cons_zero, List.set_cons_succ, i64_w, i32_w]
   rfl
  refine one_ (i := 7) (N := some 37) #[true, true, true, true, true, true, true, true, false] rfl rfl (one_of HT_.out (by kernel_rfl)) (by decide) (fun K hK => ?_)
  refine goes_ Try.func63 (by kernel_rfl) rfl #[.agg #[.slice aG aD.length aH, .slice aK aA.length aI, .slice (some ad154) aC.length aJ], .slice Ao31 y164.length co31, .slice A2 l2.length c2] (by rfl) rfl rfl (by (try simp only [List.map_toArray, List.map_cons, List.map_nil]); first | done | rfl | (simp only [List.length_drop, List.length_take]; rfl)) ?_
  with_reducible refine (ih k (by omega) _ _ aD _ _ aA _ _ aC _ _ y164 _ _ l2 t167 _ ?side1 ?side2 ?side3 ?side4 ?side5 ?side6 ?side7 ?side8 ?side9 ?side10 A19.out).mono ?_
  (case side1 => repeat (first | exact (Kd.C_below bA.out HB.out) | (with_reducible refine Kd.C_alloc ?_ _) | (with_reducible refine Kd.C_drewN ?_ _) | (with_reducible refine Kd.C_drew ?_)))
  (case side2 => exact bK.out)
  (case side3 => repeat (first | exact (Kd.C_below aZ.out HB.out) | (with_reducible refine Kd.C_alloc ?_ _) | (with_reducible refine Kd.C_drewN ?_ _) | (with_reducible refine Kd.C_drew ?_)))
  (case side4 => exact bL.out)
  (case side5 => repeat (first | exact (Kd.C_below aX.out HB.out) | (with_reducible refine Kd.C_alloc ?_ _) | (with_reducible refine Kd.C_drewN ?_ _) | (with_reducible refine Kd.C_drew ?_)))
  (case side6 => exact bM.out)
  (case side7 => repeat (first | exact (Kd.R_reads' HO166.out).2.2 | (with_reducible refine Kd.C_alloc ?_ _) | (with_reducible refine Kd.C_drewN ?_ _) | (with_reducible refine Kd.C_drew ?_)))
  (case side8 => exact (Kd.R_reads' HO166.out).2.1)
  (case side9 => repeat (first | exact (Kd.C_below HR2.out HB.out) | (with_reducible refine Kd.C_alloc ?_ _) | (with_reducible refine Kd.C_drewN ?_ _) | (with_reducible refine Kd.C_drew ?_)))
  (case side10 => exact HC2.out)
  rintro e w32 ⟨v168, rfl, ho0, hb⟩
  refine ⟨_, rfl, ?_⟩
  have n0_ := Aside0.mk (Kd.R_below (by (with_reducible repeat (first | apply Kd.R_alloc | apply Kd.R_drewN | apply Kd.R_drew)); exact HO163.out) hb)
  have n1_ := Aside0.mk (Kd.R_below (by (with_reducible repeat (first | apply Kd.R_alloc | apply Kd.R_drewN | apply Kd.R_drew)); exact HO166.out) hb)
  have n2_ := Aside0.mk (Kd.N_lower (Kd.N_mono (ok' := fun k_ => (w.heap.size ≤ k_) ∧ some k_ ≠ (.slice Ao30 y161.length co30 : Value).ownBlock ∧ some k_ ≠ (.slice Ao31 y164.length co31 : Value).ownBlock ∧ k_ ≠ gb144) ho0 (fun k_ hk_ => ⟨(Nat.le_trans (below_size (by repeat (first | (with_reducible first | exact HB.out | apply below_alloc | apply pw_below_drewN | apply below_drew1 | refine below_set ?_ GE144.out) | exact HB.out))) hk_), (Kd.fresh' (Kd.R_lt (by (with_reducible repeat (first | apply Kd.R_alloc | apply Kd.R_drewN | apply Kd.R_drew)); exact HO163.out)) k_ hk_), (Kd.fresh' (Kd.R_lt (by (with_reducible repeat (first | apply Kd.R_alloc | apply Kd.R_drewN | apply Kd.R_drew)); exact HO166.out)) k_ hk_), (Kd.freshB (g := gb144) (o := .cells #[.slice aG aD.length aH, .slice aK aA.length aI, .slice (some ad154) aC.length aJ] 26 (0, 0)) (by (with_reducible repeat (first | refine blk_drewN ?_ _ | refine blk_drew ?_ | refine blk_alloc ?_ _)); exact BK144.out) k_ hk_)⟩)) (below_size (by repeat (first | (with_reducible first | exact HB.out | apply below_alloc | apply pw_below_drewN | apply below_drew1 | refine below_set ?_ GE144.out) | exact HB.out))))
  have n3_ := Aside0.mk (blk_below (g := gb144) (o := .cells #[.slice aG aD.length aH, .slice aK aA.length aI, .slice (some ad154) aC.length aJ] 26 (0, 0)) (by (with_reducible repeat (first | refine blk_drewN ?_ _ | refine blk_drew ?_ | refine blk_alloc ?_ _)); exact BK144.out) hb)
  have n4_ := Aside0.mk (below_step (by repeat (first | (with_reducible first | exact HB.out | apply below_alloc | apply pw_below_drewN | apply below_drew1 | refine below_set ?_ GE144.out) | exact HB.out)) hb)
  clear HO163
  clear HO166
  clear BK144
  clear HB
  have HO163 := n0_
  have HO166 := n1_
  have HO169 := n2_
  have BK144 := n3_
  have HB := n4_
  clear n0_ n1_ n2_ n3_ n4_
  (try clear hb)
  (try clear hb2)
  (try clear hk)
  (try clear hi)
  (try clear ho0)
  refine hK.out _ _ ⟨(blk_cell BK144.out 0).trans rfl, (blk_cell BK144.out 1).trans rfl, (blk_cell BK144.out 2).trans rfl⟩ (fun hHeld => ?_)
  clear hK K
  refine norm_ (a' := ?_) ?_ ?_
  rotate_left
  ·
   show Act.put _ (some 37) _ = _
   simp only [Act.put, List.setIfInBounds_toArray, List.set_cons_zero, List.set_cons_succ, i64_w, i32_w]
   rfl
  refine pure_ (i := 8) (N := some 6) (v := ?_) (a' := ?_) #[true, true, true, true, true, true, true, true, true] rfl rfl (any_of HT_.out (by kernel_rfl)) (fun _ _ _ h => h) (Or.inl ⟨by rfl, ?_⟩) ?_ ?_
  rotate_left
  ·
   intro w'
   go_simp
   with_reducible rfl
  rotate_left
  ·
   simp only [Act.put, List.setIfInBounds_toArray, List.set_cons_zero, List.set_cons_succ, i64_w, i32_w]
   rfl
  refine done_ (done_of HT_.out (by kernel_rfl)) ?_
  try go_wp2
  go_ret
  exact ⟨_, by first | rfl | (simp [errW_none, errW_some] <;> rfl) | (simp [*, errW_none, errW_some] <;> rfl), by (with_reducible repeat (first | apply Kd.N_alloc | apply Kd.N_drewN | apply Kd.N_drew)); exact Kd.N_mono HO169.out (fun _ hk => hk.1), by repeat (first | (with_reducible first | exact HB.out | apply below_alloc | apply pw_below_drewN | apply below_drew1 | refine below_set ?_ GE144.out) | exact HB.out)⟩
 rw [if_neg c16] at H
 have c16b0 : (((rd_L1 aC (l1.length : Int)).length : Int) == 0) = false := beq_eq_false_iff_ne.mpr c16
 have c16b1 : (((rd_L1 aC (l1.length : Int)).length : Int) != 0) = true := bne_iff_ne.mpr c16
 have c16b2 : ¬ ((rd_L1 aC (l1.length : Int)) = []) := fun h_ => c16 (by rw [h_]; rfl)
 have H' := Aside0.mk H
 clear H
 go_enter Try.func63, Try.ntmps63
 go_wp2_with (first | ((with_reducible refine gate_dst (N := 3) rfl ?_); refine box_event ?hg (N := 3) ?hd (cs := #[.slice aG aD.length aH, .slice aK aA.length aI, .slice aM aC.length aJ]) (t := 26) ?hr ?_; (case hd => rfl); (case hg => rfl); (case hr => first | (go_simp; done) | (go_simp; rfl)); intro gb144 hg w33 hbox hb; have n0_ := Aside0.mk (below_step (by repeat (first | (with_reducible first | exact HB.out | apply below_alloc | apply pw_below_drewN | apply below_drew1) | exact HB.out)) hb); have n1_ := Aside0.mk (hbox); have n2_ := Aside0.mk ((by rw [hg]; exact (below_size (by repeat (first | (with_reducible first | exact HB.out | apply below_alloc | apply pw_below_drewN | apply below_drew1) | exact HB.out))) : w.heap.size ≤ gb144)); have n3_ := Aside0.mk ((by rw [hg]; exact (below_size (by repeat (first | (with_reducible first | exact HB.out | apply below_alloc | apply pw_below_drewN | apply below_drew1) | exact HB.out))) : w.heap.size ≤ gb144)); clear HB; have HB := n0_; have BK144 := n1_; have GW144 := n2_; have GE144 := n3_; clear n0_ n1_ n2_ n3_; clear hb hbox hg; have sG : w33.cell? ⟨gb144, 0, none⟩ = some (.slice aG aD.length aH) := (blk_cell BK144.out 0).trans rfl; have sH : w33.cell? ⟨gb144, 1, none⟩ = some (.slice aK aA.length aI) := (blk_cell BK144.out 1).trans rfl; have sI : w33.cell? ⟨gb144, 2, none⟩ = some (.slice aM aC.length aJ) := (blk_cell BK144.out 2).trans rfl; have sJ := blk_frozen BK144.out 0; have sK := blk_frozen BK144.out 1; have sL := blk_frozen BK144.out 2; have p154 : 0 ≤ ((l1.length : Int) : Int) := of_decide_eq_true (by assumption); have q154 : (l1.length : Int) < (aC.length : Int) := of_decide_eq_true (by assumption); obtain ⟨ad154, sC, sD, e154, dU, iA, iB⟩ := at_L1 aX.out (l1.length : Int) p154 q154; cases e154; replace dU := (HB.out.cell (World.block_lt_of_cell? w _ dU)).trans dU; have sE := Aside0.mk iB; have sF := Aside0.mk iA; clear iB iA; (try simp only [Go.IntWalk.toNatUp] at dU); replace p154 := eq_true p154; replace q154 := eq_true q154))
 go_loopg [8, 9] k (fun kq v8 v9 w' => ∃ (aQ : List (List Int)) (aT : Int), v9 = .int .i64 aT ∧ Aside0 (laganref04_all.l0 kq l1 l2 (l1.length : Int) aQ aT aD aA aC = some r) ∧ Aside0 (kq ≤ k) ∧ Aside0 (Kd.N (Kd.slice 3 (Kd.int .i64)) 22 w' w.heap.size (fun k_ => (w.heap.size ≤ k_) ∧ k_ ≠ gb144) v8 aQ) ∧ Aside0 (w'.heap[gb144]? = some (.cells #[(.slice aG aD.length aH), (.slice aK aA.length aI), (.slice (some ad154) aC.length aJ)] 26 (0, 0))) ∧ Aside0 (Below w.heap.size w w'))
 case atStart => exact ⟨(([] : List (List Int))), (0), (by first | rfl | (simp; done) | (simp [*]; done)), H', ⟨Nat.le_refl _⟩, ⟨by first | exact Kd.S_nil _ _ _ _ _ | exact Kd.N_nil _ _ _ _ _ | exact Kd.V_nil _ _ _ _ _ | exact Kd.Q_nil _ _ _ _ _ | exact Kd.R_nil _ _ _ _ _⟩, ⟨by (with_reducible repeat (first | refine blk_drewN ?_ _ | refine blk_drew ?_ | refine blk_alloc ?_ _)); exact BK144.out⟩, ⟨by repeat (first | (with_reducible first | exact HB.out | apply below_alloc | apply pw_below_drewN | apply below_drew1 | refine below_set ?_ GE144.out) | exact HB.out)⟩⟩
 clear H'
 try clear fA
 try clear fB
 try clear fC
 try clear sG
 try clear sH
 try clear sI
 try clear eL
 try clear eM
 try clear eN
 try clear fD
 try clear fE
 try clear fF
 try clear sJ
 try clear sK
 try clear sL
 try clear eO
 try clear eP
 try clear eQ
 try clear dU
 obtain ⟨aQ, aT, rfl, HA, HK1, HO_8, BK144, HB⟩ := hrel
 cases gk with
 | zero => exact absurd HA.out (by simp [laganref04_all.l0])
 | succ k1 =>
  have H := HA.out
  clear HA
  simp only [laganref04_all.l0] at H
  by_cases c35 : 0 ≤ (l1.length : Int)
  rotate_left
  ·
   rw [if_neg c35] at H
   exact absurd H (by simp)
  rw [if_pos c35] at H
  have c35b0 : decide (0 ≤ (l1.length : Int)) = true := decide_eq_true c35
  have c35b1 : decide (0 ≤ l1.length) = true := decide_eq_true (by omega)
  clear c35
  by_cases c36 : (l1.length : Int) < (aC.length : Int)
  rotate_left
  ·
   rw [if_neg c36] at H
   exact absurd H (by simp)
  rw [if_pos c36] at H
  have c36b0 : decide ((l1.length : Int) < (aC.length : Int)) = true := decide_eq_true c36
  have c36b1 : decide (l1.length < aC.length) = true := decide_eq_true (Int.ofNat_lt.mp c36)
  clear c36
  by_cases c37 : aT < ((rd_L1 aC (l1.length : Int)).length : Int)
  rotate_left
  ·
   rw [if_neg c37] at H
   have c37b0 : decide (aT < ((rd_L1 aC (l1.length : Int)).length : Int)) = false := decide_eq_false c37
   clear c37
   obtain rfl := Option.some.inj H
   have qN : wr.cell? ⟨gb144, 0, none⟩ = some (.slice aG aD.length aH) := (blk_cell BK144.out 0).trans rfl
   have qO : wr.cell? ⟨gb144, 1, none⟩ = some (.slice aK aA.length aI) := (blk_cell BK144.out 1).trans rfl
   have qP : wr.cell? ⟨gb144, 2, none⟩ = some (.slice (some ad154) aC.length aJ) := (blk_cell BK144.out 2).trans rfl
   have qQ := blk_frozen BK144.out 0
   have qR := blk_frozen BK144.out 1
   have qS := blk_frozen BK144.out 2
   have p170 : 0 ≤ ((l1.length : Int) : Int) := of_decide_eq_true (by assumption)
   have q170 : (l1.length : Int) < (aC.length : Int) := of_decide_eq_true (by assumption)
   obtain ⟨ad170, nJ, nK, e170, cD, eG, eH⟩ := at_L1 aX.out (l1.length : Int) p170 q170
   obtain rfl : ad154 = ad170 := (by injection e170)
   replace cD := (HB.out.cell (World.block_lt_of_cell? w _ cD)).trans cD
   have nL := Aside0.mk eH
   have nM := Aside0.mk eG
   clear eH eG
   (try simp only [Go.IntWalk.toNatUp] at cD)
   replace p170 := eq_true p170
   replace q170 := eq_true q170
   go_wp2
   go_ret
   exact ⟨_, by first | rfl | (simp [errW_none, errW_some] <;> rfl) | (simp [*, errW_none, errW_some] <;> rfl), by (with_reducible repeat (first | apply Kd.N_alloc | apply Kd.N_drewN | apply Kd.N_drew)); exact Kd.N_mono HO_8.out (fun _ hk => hk.1), by repeat (first | (with_reducible first | exact HB.out | apply below_alloc | apply pw_below_drewN | apply below_drew1 | refine below_set ?_ GE144.out) | exact HB.out)⟩
  rw [if_pos c37] at H
  have c37b0 : decide (aT < ((rd_L1 aC (l1.length : Int)).length : Int)) = true := decide_eq_true c37
  clear c37
  by_cases c38 : 0 ≤ aT
  rotate_left
  ·
   rw [if_neg c38] at H
   exact absurd H (by simp)
  rw [if_pos c38] at H
  have c38b0 : decide (0 ≤ aT) = true := decide_eq_true c38
  clear c38
  by_cases c39 : 0 ≤ (rd (rd_L1 aC (l1.length : Int)) aT)
  rotate_left
  ·
   rw [if_neg c39] at H
   exact absurd H (by simp)
  rw [if_pos c39] at H
  have c39b0 : decide (0 ≤ (rd (rd_L1 aC (l1.length : Int)) aT)) = true := decide_eq_true c39
  clear c39
  by_cases c40 : (rd (rd_L1 aC (l1.length : Int)) aT) < (l2.length : Int)
  rotate_left
  ·
   rw [if_neg c40] at H
   exact absurd H (by simp)
  rw [if_pos c40] at H
  have c40b0 : decide ((rd (rd_L1 aC (l1.length : Int)) aT) < (l2.length : Int)) = true := decide_eq_true c40
  clear c40
  by_cases c41 : (rd (rd_L1 aC (l1.length : Int)) aT) < (aA.length : Int)
  rotate_left
  ·
   rw [if_neg c41] at H
   exact absurd H (by simp)
  rw [if_pos c41] at H
  have c41b0 : decide ((rd (rd_L1 aC (l1.length : Int)) aT) < (aA.length : Int)) = true := decide_eq_true c41
  clear c41
  by_cases c42 : (rd l2 (rd (rd_L1 aC (l1.length : Int)) aT)) ≥ ((rd_T50 aA (rd (rd_L1 aC (l1.length : Int)) aT)).f2)
  ·
   rw [if_pos c42] at H
   have c42b0 : decide (((rd_T50 aA (rd (rd_L1 aC (l1.length : Int)) aT)).f2) ≤ (rd l2 (rd (rd_L1 aC (l1.length : Int)) aT))) = true := decide_eq_true c42
   clear c42
   have H' := Aside0.mk H
   clear H
   have hcz43_0 : wr.cell? ⟨gb144, 0, none⟩ = some (.slice aG aD.length aH) := (blk_cell BK144.out 0).trans rfl
   have hcz43_1 : wr.cell? ⟨gb144, 1, none⟩ = some (.slice aK aA.length aI) := (blk_cell BK144.out 1).trans rfl
   have hcz43_2 : wr.cell? ⟨gb144, 2, none⟩ = some (.slice (some ad154) aC.length aJ) := (blk_cell BK144.out 2).trans rfl
   have hfz43_0 := blk_frozen BK144.out 0
   have hfz43_1 := blk_frozen BK144.out 1
   have hfz43_2 := blk_frozen BK144.out 2
   have p170 : 0 ≤ ((l1.length : Int) : Int) := of_decide_eq_true (by assumption)
   have q170 : (l1.length : Int) < (aC.length : Int) := of_decide_eq_true (by assumption)
   obtain ⟨ad170, nJ, nK, e170, cD, eG, eH⟩ := at_L1 aX.out (l1.length : Int) p170 q170
   obtain rfl : ad154 = ad170 := (by injection e170)
   replace cD := (HB.out.cell (World.block_lt_of_cell? w _ cD)).trans cD
   have nL := Aside0.mk eH
   have nM := Aside0.mk eG
   clear eH eG
   (try simp only [Go.IntWalk.toNatUp] at cD)
   replace p170 := eq_true p170
   replace q170 := eq_true q170
   have p171 : 0 ≤ ((l1.length : Int) : Int) := of_decide_eq_true (by assumption)
   have q171 : (l1.length : Int) < (aC.length : Int) := of_decide_eq_true (by assumption)
   obtain ⟨ad171, sM, sN, e171, dF, iC, iD⟩ := at_L1 aX.out (l1.length : Int) p171 q171
   obtain rfl : ad154 = ad171 := (by injection e171)
   replace dF := (HB.out.cell (World.block_lt_of_cell? w _ dF)).trans dF
   have lK := Aside0.mk iD
   have sO := Aside0.mk iC
   clear iD iC
   (try simp only [Go.IntWalk.toNatUp] at dF)
   replace p171 := eq_true p171
   replace q171 := eq_true q171
   have ea_ := Option.some.inj (cD.symm.trans dF)
   injection ea_ with ea_ en_ ec_
   subst ea_
   subst ec_
   clear en_
   have p172 : 0 ≤ (aT : Int) := of_decide_eq_true (by assumption)
   have q172 : aT < ((rd_L1 aC (l1.length : Int)).length : Int) := of_decide_eq_true (by assumption)
   obtain ⟨ad172, e172, eY⟩ := Kd.at_int lK.out aT p172 q172
   cases e172
   replace eY := (HB.out.cell (World.block_lt_of_cell? w _ eY)).trans eY
   replace p172 := eq_true p172
   replace q172 := eq_true q172
   try go_wp2
   have n0_ := Aside0.mk (Kd.N_drew HO_8.out)
   have n1_ := Aside0.mk (blk_drew BK144.out)
   have n2_ := Aside0.mk (below_drew1 HB.out)
   clear HO_8
   clear BK144
   clear HB
   have HO_8 := n0_
   have BK144 := n1_
   have HB := n2_
   clear n0_ n1_ n2_
   have p173 : 0 ≤ ((rd (rd_L1 aC (l1.length : Int)) aT) : Int) := of_decide_eq_true (by assumption)
   have q173 : (rd (rd_L1 aC (l1.length : Int)) aT) < (l2.length : Int) := of_decide_eq_true (by assumption)
   obtain ⟨ad173, e173, cL⟩ := Kd.at_int HR2.out (rd (rd_L1 aC (l1.length : Int)) aT) p173 q173
   have iE := cL
   cases e173
   replace cL := (HB.out.cell (World.block_lt_of_cell? w _ cL)).trans cL
   (try simp only [Go.IntWalk.toNatUp] at cL)
   replace p173 := eq_true p173
   replace q173 := eq_true q173
   have p174 : 0 ≤ ((rd (rd_L1 aC (l1.length : Int)) aT) : Int) := of_decide_eq_true (by assumption)
   have q174 : (rd (rd_L1 aC (l1.length : Int)) aT) < (aA.length : Int) := of_decide_eq_true (by assumption)
   obtain ⟨ad174, e174, cM, cN, cO⟩ := at_T50 aZ.out (rd (rd_L1 aC (l1.length : Int)) aT) p174 q174
   have iF := cO
   have iG := cN
   have iH := cM
   cases e174
   replace cM := (HB.out.cell (World.block_lt_of_cell? w _ cM)).trans cM
   replace cN := (HB.out.cell (World.block_lt_of_cell? w _ cN)).trans cN
   replace cO := (HB.out.cell (World.block_lt_of_cell? w _ cO)).trans cO
   (try simp only [Go.IntWalk.toNatUp] at cM)
   (try simp only [Go.IntWalk.toNatUp] at cN)
   (try simp only [Go.IntWalk.toNatUp] at cO)
   replace p174 := eq_true p174
   replace q174 := eq_true q174
   refine start_ (n := 11) (S := fun w' => w'.cell? ⟨gb144, 0, none⟩ = some (.slice aG aD.length aH) ∧ w'.cell? ⟨gb144, 1, none⟩ = some (.slice (some ad174) aA.length aI) ∧ w'.cell? ⟨gb144, 2, none⟩ = some (.slice (some ad154) aC.length aJ) ∧ w'.cell? (ad173.add ((rd (rd_L1 aC (l1.length : Int)) aT)).toNat) = some (.int .i64 (rd l2 (rd (rd_L1 aC (l1.length : Int)) aT))) ∧ w'.cell? (ad174.add (((rd (rd_L1 aC (l1.length : Int)) aT)).toNat * 3)) = some (.int .i64 ((rd_T50 aA (rd (rd_L1 aC (l1.length : Int)) aT)).f0)) ∧ w'.cell? ⟨(ad174.add (((rd (rd_L1 aC (l1.length : Int)) aT)).toNat * 3)).block, (ad174.add (((rd (rd_L1 aC (l1.length : Int)) aT)).toNat * 3)).off + 1, none⟩ = some (.int .i64 ((rd_T50 aA (rd (rd_L1 aC (l1.length : Int)) aT)).f1)) ∧ w'.cell? ⟨(ad174.add (((rd (rd_L1 aC (l1.length : Int)) aT)).toNat * 3)).block, (ad174.add (((rd (rd_L1 aC (l1.length : Int)) aT)).toNat * 3)).off + 2, none⟩ = some (.int .i64 ((rd_T50 aA (rd (rd_L1 aC (l1.length : Int)) aT)).f2))) (ds := []) #[false, false, false, false, false, false, false, false, false, false, false] (by kernel_rfl) rfl rfl ⟨(blk_cell BK144.out 0).trans rfl, (blk_cell BK144.out 1).trans rfl, (blk_cell BK144.out 2).trans rfl, ((HB.out.cell (World.block_lt_of_cell? w _ iE)).trans iE), ((HB.out.cell (World.block_lt_of_cell? w _ iH)).trans iH), ((HB.out.cell (World.block_lt_of_cell? w _ iG)).trans iG), ((HB.out.cell (World.block_lt_of_cell? w _ iF)).trans iF)⟩ (fun hHeld => ?_); refine with_tabW laganref04_all.tab11 laganref04_all.bits11 (fun HT_ HW_ => ?_)
   generalize wr.drew = w44 at HO_8 BK144 HB cL cM cN cO hHeld ⊢
   refine pure_ (i := 0) (N := some 56) (v := ?_) (a' := ?_) #[true, false, false, false, false, false, false, false, false, false, false] rfl rfl (any_of HT_.out (by kernel_rfl)) (fun _ _ _ h => h) (Or.inl ⟨by rfl, ?_⟩) ?_ ?_
   rotate_left
   ·
    intro w'
    go_simp
    with_reducible rfl
   rotate_left
   ·
    simp only [Act.put, List.setIfInBounds_toArray, List.set_cons_zero, List.set_cons_succ, i64_w, i32_w]
    rfl
   refine pure_ (i := 1) (N := some 57) (v := ?_) (a' := ?_) #[true, true, false, false, false, false, false, false, false, false, false] rfl rfl (any_of HT_.out (by kernel_rfl)) (fun _ _ _ h => h) (Or.inl ⟨by rfl, ?_⟩) ?_ ?_
   rotate_left
   ·
    intro w'
    go_simp
    with_reducible rfl
   rotate_left
   ·
    simp only [Act.put, List.setIfInBounds_toArray, List.set_cons_zero, List.set_cons_succ, i64_w, i32_w]
    rfl
   refine pure_ (i := 2) (N := some 58) (v := ?_) (a' := ?_) #[true, true, true, false, false, false, false, false, false, false, false] rfl rfl (any_of HT_.out (by kernel_rfl)) (fun _ _ _ h => h) (Or.inl ⟨by rfl, ?_⟩) ?_ ?_
   rotate_left
   ·
    intro w'
    go_simp
    with_reducible rfl
   rotate_left
   ·
    simp only [Act.put, List.setIfInBounds_toArray, List.set_cons_zero, List.set_cons_succ, i64_w, i32_w]
    rfl
   refine pure_ (i := 4) (N := some 60) (v := ?_) (a' := ?_) #[true, true, true, false, true, false, false, false, false, false, false] rfl rfl (any_of HT_.out (by kernel_rfl)) (fun _ _ _ h => h) (Or.inl ⟨by rfl, ?_⟩) ?_ ?_
   rotate_left
   ·
    intro w'
    go_simp
    with_reducible rfl
   rotate_left
   ·
    simp only [Act.put, List.setIfInBounds_toArray, List.set_cons_zero, List.set_cons_succ, i64_w, i32_w]
    rfl
   refine pure_ (i := 6) (N := some 62) (v := ?_) (a' := ?_) #[true, true, true, false, true, false, true, false, false, false, false] rfl rfl (any_of HT_.out (by kernel_rfl)) (fun _ _ _ h => h) (Or.inl ⟨by rfl, ?_⟩) ?_ ?_
   rotate_left
   ·
    intro w'
    go_simp
    with_reducible rfl
   rotate_left
   ·
    simp only [Act.put, List.setIfInBounds_toArray, List.set_cons_zero, List.set_cons_succ, i64_w, i32_w]
    rfl
   refine take_ (i := 3) (N := some 59) (v := ?_) (a' := ?_) #[true, true, true, true, true, false, true, false, false, false, false] rfl rfl (take_ofW HT_.out HW_.out (by kernel_rfl)) (fun _ _ _ h => h) (Or.inl ⟨by rfl, ?_⟩) hHeld ?_ ?_
   rotate_left
   ·
    rintro w' ⟨s0, s1, s2, s3, s4, s5, s6⟩
    go_simp
    with_reducible rfl
   rotate_left
   ·
    simp only [Act.put, List.setIfInBounds_toArray, List.set_cons_zero, List.set_cons_succ, i64_w, i32_w]
    rfl
   refine take_ (i := 5) (N := some 61) (v := ?_) (a' := ?_) #[true, true, true, true, true, true, true, false, false, false, false] rfl rfl (take_ofW HT_.out HW_.out (by kernel_rfl)) (fun _ _ _ h => h) (Or.inl ⟨by rfl, ?_⟩) hHeld ?_ ?_
   rotate_left
   ·
    rintro w' ⟨s0, s1, s2, s3, s4, s5, s6⟩
    go_simp
    with_reducible rfl
   rotate_left
   ·
    simp only [Act.put, List.setIfInBounds_toArray, List.set_cons_zero, List.set_cons_succ, i64_w, i32_w]
    rfl
   refine pure_ (i := 7) (N := some 63) (v := ?_) (a' := ?_) #[true, true, true, true, true, true, true, true, false, false, false] rfl rfl (any_of HT_.out (by kernel_rfl)) (fun _ _ _ h => h) (Or.inl ⟨by rfl, ?_⟩) ?_ ?_
   rotate_left
   ·
    intro w'
    go_simp
    with_reducible rfl
   rotate_left
   ·
    simp only [Act.put, List.setIfInBounds_toArray, List.set_cons_zero, List.set_cons_succ, i64_w, i32_w]
    rfl
   refine pure_ (i := 8) (N := some 64) (v := ?_) (a' := ?_) #[true, true, true, true, true, true, true, true, true, false, false] rfl rfl (any_of HT_.out (by kernel_rfl)) (fun _ _ _ h => h) (Or.inl ⟨by rfl, ?_⟩) ?_ ?_
   rotate_left
   ·
    intro w'
    go_simp
    with_reducible rfl
   rotate_left
   ·
    simp only [Act.put, List.setIfInBounds_toArray, List.set_cons_zero, List.set_cons_succ, i64_w, i32_w]
    rfl
   refine take_ (i := 9) (N := some 65) (v := ?_) (a' := ?_) #[true, true, true, true, true, true, true, true, true, true, false] rfl rfl (take_ofW HT_.out HW_.out (by kernel_rfl)) (fun _ _ _ h => h) (Or.inl ⟨by rfl, ?_⟩) hHeld ?_ ?_
   rotate_left
   ·
    rintro w' ⟨s0, s1, s2, s3, s4, s5, s6⟩
    go_simp
    with_reducible rfl
   rotate_left
   ·
    simp only [Act.put, List.setIfInBounds_toArray, List.set_cons_zero, List.set_cons_succ, i64_w, i32_w]
    rfl
   refine pure_ (i := 10) (N := some 66) (v := ?_) (a' := ?_) #[true, true, true, true, true, true, true, true, true, true, true] rfl rfl (any_of HT_.out (by kernel_rfl)) (fun _ _ _ h => h) (Or.inl ⟨by rfl, ?_⟩) ?_ ?_
   rotate_left
   ·
    intro w'
    go_simp
    with_reducible rfl
   rotate_left
   ·
    simp only [Act.put, List.setIfInBounds_toArray, List.set_cons_zero, List.set_cons_succ, i64_w, i32_w]
    rfl
   refine done_ (done_of HT_.out (by kernel_rfl)) ?_
   try go_wp2
   go_roundg k1
   case measure => have := HK1.out; omega
   case rel => exact ⟨(aQ), (wrap64 (aT + 1)), (by first | rfl | (simp; done) | (simp [*]; done)), H', ⟨by have := HK1.out; omega⟩, ⟨by (with_reducible repeat (first | apply Kd.N_alloc | apply Kd.N_drewN | apply Kd.N_drew)); exact HO_8.out⟩, ⟨by (with_reducible repeat (first | refine blk_drewN ?_ _ | refine blk_drew ?_ | refine blk_alloc ?_ _)); exact BK144.out⟩, ⟨by repeat (first | (with_reducible first | exact HB.out | apply below_alloc | apply pw_below_drewN | apply below_drew1 | refine below_set ?_ GE144.out) | exact HB.out)⟩⟩
  rw [if_neg c42] at H
  have c42b0 : decide (((rd_T50 aA (rd (rd_L1 aC (l1.length : Int)) aT)).f2) ≤ (rd l2 (rd (rd_L1 aC (l1.length : Int)) aT))) = false := decide_eq_false c42
  clear c42
  obtain ⟨y175, hy175⟩ : ∃ y_ : List Int, y_ = (([] : List Int)) := ⟨_, rfl⟩
  replace H : (if y175.length + l2.length < 17592186044416 then ((some (y175 ++ l2 : List Int)).bind fun y178 => (if (rd (rd_L1 aC (l1.length : Int)) aT) < (y178.length : Int) then ((some (([] : List Int) : List Int)).bind fun y183 => (if y183.length + l1.length < 17592186044416 then ((some (y183 ++ l1 : List Int)).bind fun y186 => ((some (([rd (rd_L1 aC (l1.length : Int)) aT] : List Int) : List Int)).bind fun y189 => (if y186.length + y189.length < 17592186044416 then ((laganref04_all.f k1 aD aA aC (y186 ++ y189) (y178.set ((rd (rd_L1 aC (l1.length : Int)) aT) : Int).toNat (wrap64 ((rd y178 (rd (rd_L1 aC (l1.length : Int)) aT)) + 1)))).bind fun t195 => (if aQ.length + t195.length < 5864062014805 then (laganref04_all.l0 k1 l1 l2 (l1.length : Int) (aQ ++ t195) (wrap64 (aT + 1)) aD aA aC) else (none))) else (none)))) else (none))) else (none))) else (none)) = some r := by first | (rw [hy175]; with_reducible exact H) | (have H2_ := (Option.bind_some _ _).symm.trans H; rw [hy175]; with_reducible exact H2_) | (have H2_ := (Option.bind_some _ _).symm.trans H; with_reducible exact H2_) | with_reducible exact H | (rw [hy175]; exact H) | exact H
  have Ny175 := Aside0.mk hy175
  clear hy175
  by_cases c45 : y175.length + l2.length < 17592186044416
  rotate_left
  ·
   rw [if_neg c45] at H
   exact absurd H (by simp)
  rw [if_pos c45] at H
  have LMc45 := Aside0.mk c45
  clear c45
  obtain ⟨y178, hy178⟩ : ∃ y_ : List Int, y_ = (y175 ++ l2) := ⟨_, rfl⟩
  replace H : (if (rd (rd_L1 aC (l1.length : Int)) aT) < (y178.length : Int) then ((some (([] : List Int) : List Int)).bind fun y183 => (if y183.length + l1.length < 17592186044416 then ((some (y183 ++ l1 : List Int)).bind fun y186 => ((some (([rd (rd_L1 aC (l1.length : Int)) aT] : List Int) : List Int)).bind fun y189 => (if y186.length + y189.length < 17592186044416 then ((laganref04_all.f k1 aD aA aC (y186 ++ y189) (y178.set ((rd (rd_L1 aC (l1.length : Int)) aT) : Int).toNat (wrap64 ((rd y178 (rd (rd_L1 aC (l1.length : Int)) aT)) + 1)))).bind fun t195 => (if aQ.length + t195.length < 5864062014805 then (laganref04_all.l0 k1 l1 l2 (l1.length : Int) (aQ ++ t195) (wrap64 (aT + 1)) aD aA aC) else (none))) else (none)))) else (none))) else (none)) = some r := by first | (rw [hy178]; with_reducible exact H) | (have H2_ := (Option.bind_some _ _).symm.trans H; rw [hy178]; with_reducible exact H2_) | (have H2_ := (Option.bind_some _ _).symm.trans H; with_reducible exact H2_) | with_reducible exact H | (rw [hy178]; exact H) | exact H
  have Ny178 := Aside0.mk hy178
  clear hy178
  by_cases c46 : (rd (rd_L1 aC (l1.length : Int)) aT) < (y178.length : Int)
  rotate_left
  ·
   rw [if_neg c46] at H
   exact absurd H (by simp)
  rw [if_pos c46] at H
  have c46b0 : decide ((rd (rd_L1 aC (l1.length : Int)) aT) < (y178.length : Int)) = true := decide_eq_true c46
  clear c46
  obtain ⟨y182, hy182⟩ : ∃ y_ : List Int, y_ = (y178.set ((rd (rd_L1 aC (l1.length : Int)) aT) : Int).toNat (wrap64 ((rd y178 (rd (rd_L1 aC (l1.length : Int)) aT)) + 1))) := ⟨_, rfl⟩
  replace H : ((some (([] : List Int) : List Int)).bind fun y183 => (if y183.length + l1.length < 17592186044416 then ((some (y183 ++ l1 : List Int)).bind fun y186 => ((some (([rd (rd_L1 aC (l1.length : Int)) aT] : List Int) : List Int)).bind fun y189 => (if y186.length + y189.length < 17592186044416 then ((laganref04_all.f k1 aD aA aC (y186 ++ y189) y182).bind fun t195 => (if aQ.length + t195.length < 5864062014805 then (laganref04_all.l0 k1 l1 l2 (l1.length : Int) (aQ ++ t195) (wrap64 (aT + 1)) aD aA aC) else (none))) else (none)))) else (none))) = some r := by first | (rw [hy182]; with_reducible exact H) | (have H2_ := (Option.bind_some _ _).symm.trans H; rw [hy182]; with_reducible exact H2_) | (have H2_ := (Option.bind_some _ _).symm.trans H; with_reducible exact H2_) | with_reducible exact H | (rw [hy182]; exact H) | exact H
  have Ny182 := Aside0.mk hy182
  clear hy182
  obtain ⟨y183, hy183⟩ : ∃ y_ : List Int, y_ = (([] : List Int)) := ⟨_, rfl⟩
  replace H : (if y183.length + l1.length < 17592186044416 then ((some (y183 ++ l1 : List Int)).bind fun y186 => ((some (([rd (rd_L1 aC (l1.length : Int)) aT] : List Int) : List Int)).bind fun y189 => (if y186.length + y189.length < 17592186044416 then ((laganref04_all.f k1 aD aA aC (y186 ++ y189) y182).bind fun t195 => (if aQ.length + t195.length < 5864062014805 then (laganref04_all.l0 k1 l1 l2 (l1.length : Int) (aQ ++ t195) (wrap64 (aT + 1)) aD aA aC) else (none))) else (none)))) else (none)) = some r := by first | (rw [hy183]; with_reducible exact H) | (have H2_ := (Option.bind_some _ _).symm.trans H; rw [hy183]; with_reducible exact H2_) | (have H2_ := (Option.bind_some _ _).symm.trans H; with_reducible exact H2_) | with_reducible exact H | (rw [hy183]; exact H) | exact H
  have Ny183 := Aside0.mk hy183
  clear hy183
  by_cases c48 : y183.length + l1.length < 17592186044416
  rotate_left
  ·
   rw [if_neg c48] at H
   exact absurd H (by simp)
  rw [if_pos c48] at H
  have LMc48 := Aside0.mk c48
  clear c48
  obtain ⟨y186, hy186⟩ : ∃ y_ : List Int, y_ = (y183 ++ l1) := ⟨_, rfl⟩
  replace H : ((some (([rd (rd_L1 aC (l1.length : Int)) aT] : List Int) : List Int)).bind fun y189 => (if y186.length + y189.length < 17592186044416 then ((laganref04_all.f k1 aD aA aC (y186 ++ y189) y182).bind fun t195 => (if aQ.length + t195.length < 5864062014805 then (laganref04_all.l0 k1 l1 l2 (l1.length : Int) (aQ ++ t195) (wrap64 (aT + 1)) aD aA aC) else (none))) else (none))) = some r := by first | (rw [hy186]; with_reducible exact H) | (have H2_ := (Option.bind_some _ _).symm.trans H; rw [hy186]; with_reducible exact H2_) | (have H2_ := (Option.bind_some _ _).symm.trans H; with_reducible exact H2_) | with_reducible exact H | (rw [hy186]; exact H) | exact H
  have Ny186 := Aside0.mk hy186
  clear hy186
  obtain ⟨y189, hy189⟩ : ∃ y_ : List Int, y_ = (([rd (rd_L1 aC (l1.length : Int)) aT] : List Int)) := ⟨_, rfl⟩
  replace H : (if y186.length + y189.length < 17592186044416 then ((laganref04_all.f k1 aD aA aC (y186 ++ y189) y182).bind fun t195 => (if aQ.length + t195.length < 5864062014805 then (laganref04_all.l0 k1 l1 l2 (l1.length : Int) (aQ ++ t195) (wrap64 (aT + 1)) aD aA aC) else (none))) else (none)) = some r := by first | (rw [hy189]; with_reducible exact H) | (have H2_ := (Option.bind_some _ _).symm.trans H; rw [hy189]; with_reducible exact H2_) | (have H2_ := (Option.bind_some _ _).symm.trans H; with_reducible exact H2_) | with_reducible exact H | (rw [hy189]; exact H) | exact H
  have Ny189 := Aside0.mk hy189
  clear hy189
  by_cases c49 : y186.length + y189.length < 17592186044416
  rotate_left
  ·
   rw [if_neg c49] at H
   exact absurd H (by simp)
  rw [if_pos c49] at H
  have LMc49 := Aside0.mk c49
  clear c49
  obtain ⟨y192, hy192⟩ : ∃ y_ : List Int, y_ = (y186 ++ y189) := ⟨_, rfl⟩
  replace H : ((laganref04_all.f k1 aD aA aC y192 y182).bind fun t195 => (if aQ.length + t195.length < 5864062014805 then (laganref04_all.l0 k1 l1 l2 (l1.length : Int) (aQ ++ t195) (wrap64 (aT + 1)) aD aA aC) else (none))) = some r := by first | (rw [hy192]; with_reducible exact H) | (have H2_ := (Option.bind_some _ _).symm.trans H; rw [hy192]; with_reducible exact H2_) | (have H2_ := (Option.bind_some _ _).symm.trans H; with_reducible exact H2_) | with_reducible exact H | (rw [hy192]; exact H) | exact H
  have Ny192 := Aside0.mk hy192
  clear hy192
  replace H := Option.bind_eq_some_iff.mp H
  obtain ⟨t195, A500, H⟩ := H
  replace H : (if aQ.length + t195.length < 5864062014805 then (laganref04_all.l0 k1 l1 l2 (l1.length : Int) (aQ ++ t195) (wrap64 (aT + 1)) aD aA aC) else (none)) = some r := H
  have A50 := Aside0.mk A500
  clear A500
  by_cases c51 : aQ.length + t195.length < 5864062014805
  rotate_left
  ·
   rw [if_neg c51] at H
   exact absurd H (by simp)
  rw [if_pos c51] at H
  have LMc51 := Aside0.mk c51
  clear c51
  obtain ⟨y198, hy198⟩ : ∃ y_ : List (List Int), y_ = (aQ ++ t195) := ⟨_, rfl⟩
  replace H : (laganref04_all.l0 k1 l1 l2 (l1.length : Int) y198 (wrap64 (aT + 1)) aD aA aC) = some r := by first | (rw [hy198]; with_reducible exact H) | (have H2_ := (Option.bind_some _ _).symm.trans H; rw [hy198]; with_reducible exact H2_) | (have H2_ := (Option.bind_some _ _).symm.trans H; with_reducible exact H2_) | with_reducible exact H | (rw [hy198]; exact H) | exact H
  have Ny198 := Aside0.mk hy198
  clear hy198
  have H' := Aside0.mk H
  clear H
  have hcz52_0 : wr.cell? ⟨gb144, 0, none⟩ = some (.slice aG aD.length aH) := (blk_cell BK144.out 0).trans rfl
  have hcz52_1 : wr.cell? ⟨gb144, 1, none⟩ = some (.slice aK aA.length aI) := (blk_cell BK144.out 1).trans rfl
  have hcz52_2 : wr.cell? ⟨gb144, 2, none⟩ = some (.slice (some ad154) aC.length aJ) := (blk_cell BK144.out 2).trans rfl
  have hfz52_0 := blk_frozen BK144.out 0
  have hfz52_1 := blk_frozen BK144.out 1
  have hfz52_2 := blk_frozen BK144.out 2
  have p170 : 0 ≤ ((l1.length : Int) : Int) := of_decide_eq_true (by assumption)
  have q170 : (l1.length : Int) < (aC.length : Int) := of_decide_eq_true (by assumption)
  obtain ⟨ad170, nJ, nK, e170, cD, eG, eH⟩ := at_L1 aX.out (l1.length : Int) p170 q170
  obtain rfl : ad154 = ad170 := (by injection e170)
  replace cD := (HB.out.cell (World.block_lt_of_cell? w _ cD)).trans cD
  have nL := Aside0.mk eH
  have nM := Aside0.mk eG
  clear eH eG
  (try simp only [Go.IntWalk.toNatUp] at cD)
  replace p170 := eq_true p170
  replace q170 := eq_true q170
  have p171 : 0 ≤ ((l1.length : Int) : Int) := of_decide_eq_true (by assumption)
  have q171 : (l1.length : Int) < (aC.length : Int) := of_decide_eq_true (by assumption)
  obtain ⟨ad171, sM, sN, e171, dF, iC, iD⟩ := at_L1 aX.out (l1.length : Int) p171 q171
  obtain rfl : ad154 = ad171 := (by injection e171)
  replace dF := (HB.out.cell (World.block_lt_of_cell? w _ dF)).trans dF
  have lK := Aside0.mk iD
  have sO := Aside0.mk iC
  clear iD iC
  (try simp only [Go.IntWalk.toNatUp] at dF)
  replace p171 := eq_true p171
  replace q171 := eq_true q171
  have ea_ := Option.some.inj (cD.symm.trans dF)
  injection ea_ with ea_ en_ ec_
  subst ea_
  subst ec_
  clear en_
  have p172 : 0 ≤ (aT : Int) := of_decide_eq_true (by assumption)
  have q172 : aT < ((rd_L1 aC (l1.length : Int)).length : Int) := of_decide_eq_true (by assumption)
  obtain ⟨ad172, e172, eY⟩ := Kd.at_int lK.out aT p172 q172
  cases e172
  replace eY := (HB.out.cell (World.block_lt_of_cell? w _ eY)).trans eY
  replace p172 := eq_true p172
  replace q172 := eq_true q172
  try go_wp2
  have n0_ := Aside0.mk (Kd.N_drew HO_8.out)
  have n1_ := Aside0.mk (blk_drew BK144.out)
  have n2_ := Aside0.mk (below_drew1 HB.out)
  clear HO_8
  clear BK144
  clear HB
  have HO_8 := n0_
  have BK144 := n1_
  have HB := n2_
  clear n0_ n1_ n2_
  have p173 : 0 ≤ ((rd (rd_L1 aC (l1.length : Int)) aT) : Int) := of_decide_eq_true (by assumption)
  have q173 : (rd (rd_L1 aC (l1.length : Int)) aT) < (l2.length : Int) := of_decide_eq_true (by assumption)
  obtain ⟨ad173, e173, cL⟩ := Kd.at_int HR2.out (rd (rd_L1 aC (l1.length : Int)) aT) p173 q173
  have iE := cL
  cases e173
  replace cL := (HB.out.cell (World.block_lt_of_cell? w _ cL)).trans cL
  (try simp only [Go.IntWalk.toNatUp] at cL)
  replace p173 := eq_true p173
  replace q173 := eq_true q173
  have p174 : 0 ≤ ((rd (rd_L1 aC (l1.length : Int)) aT) : Int) := of_decide_eq_true (by assumption)
  have q174 : (rd (rd_L1 aC (l1.length : Int)) aT) < (aA.length : Int) := of_decide_eq_true (by assumption)
  obtain ⟨ad174, e174, cM, cN, cO⟩ := at_T50 aZ.out (rd (rd_L1 aC (l1.length : Int)) aT) p174 q174
  have iF := cO
  have iG := cN
  have iH := cM
  cases e174
  replace cM := (HB.out.cell (World.block_lt_of_cell? w _ cM)).trans cM
  replace cN := (HB.out.cell (World.block_lt_of_cell? w _ cN)).trans cN
  replace cO := (HB.out.cell (World.block_lt_of_cell? w _ cO)).trans cO
  (try simp only [Go.IntWalk.toNatUp] at cM)
  (try simp only [Go.IntWalk.toNatUp] at cN)
  (try simp only [Go.IntWalk.toNatUp] at cO)
  replace p174 := eq_true p174
  replace q174 := eq_true q174
  refine start_ (n := 11) (S := fun w' => w'.cell? ⟨gb144, 0, none⟩ = some (.slice aG aD.length aH) ∧ w'.cell? ⟨gb144, 1, none⟩ = some (.slice (some ad174) aA.length aI) ∧ w'.cell? ⟨gb144, 2, none⟩ = some (.slice (some ad154) aC.length aJ) ∧ w'.cell? (ad173.add ((rd (rd_L1 aC (l1.length : Int)) aT)).toNat) = some (.int .i64 (rd l2 (rd (rd_L1 aC (l1.length : Int)) aT))) ∧ w'.cell? (ad174.add (((rd (rd_L1 aC (l1.length : Int)) aT)).toNat * 3)) = some (.int .i64 ((rd_T50 aA (rd (rd_L1 aC (l1.length : Int)) aT)).f0)) ∧ w'.cell? ⟨(ad174.add (((rd (rd_L1 aC (l1.length : Int)) aT)).toNat * 3)).block, (ad174.add (((rd (rd_L1 aC (l1.length : Int)) aT)).toNat * 3)).off + 1, none⟩ = some (.int .i64 ((rd_T50 aA (rd (rd_L1 aC (l1.length : Int)) aT)).f1)) ∧ w'.cell? ⟨(ad174.add (((rd (rd_L1 aC (l1.length : Int)) aT)).toNat * 3)).block, (ad174.add (((rd (rd_L1 aC (l1.length : Int)) aT)).toNat * 3)).off + 2, none⟩ = some (.int .i64 ((rd_T50 aA (rd (rd_L1 aC (l1.length : Int)) aT)).f2))) (ds := []) #[false, false, false, false, false, false, false, false, false, false, false] (by kernel_rfl) rfl rfl ⟨(blk_cell BK144.out 0).trans rfl, (blk_cell BK144.out 1).trans rfl, (blk_cell BK144.out 2).trans rfl, ((HB.out.cell (World.block_lt_of_cell? w _ iE)).trans iE), ((HB.out.cell (World.block_lt_of_cell? w _ iH)).trans iH), ((HB.out.cell (World.block_lt_of_cell? w _ iG)).trans iG), ((HB.out.cell (World.block_lt_of_cell? w _ iF)).trans iF)⟩ (fun hHeld => ?_); refine with_tabW laganref04_all.tab11 laganref04_all.bits11 (fun HT_ HW_ => ?_)
  generalize wr.drew = w53 at HO_8 BK144 HB cL cM cN cO hHeld ⊢
  refine pure_ (i := 0) (N := some 56) (v := ?_) (a' := ?_) #[true, false, false, false, false, false, false, false, false, false, false] rfl rfl (any_of HT_.out (by kernel_rfl)) (fun _ _ _ h => h) (Or.inl ⟨by rfl, ?_⟩) ?_ ?_
  rotate_left
  ·
   intro w'
   go_simp
   with_reducible rfl
  rotate_left
  ·
   simp only [Act.put, List.setIfInBounds_toArray, List.set_cons_zero, List.set_cons_succ, i64_w, i32_w]
   rfl
  refine pure_ (i := 1) (N := some 57) (v := ?_) (a' := ?_) #[true, true, false, false, false, false, false, false, false, false, false] rfl rfl (any_of HT_.out (by kernel_rfl)) (fun _ _ _ h => h) (Or.inl ⟨by rfl, ?_⟩) ?_ ?_
  rotate_left
  ·
   intro w'
   go_simp
   with_reducible rfl
  rotate_left
  ·
   simp only [Act.put, List.setIfInBounds_toArray, List.set_cons_zero, List.set_cons_succ, i64_w, i32_w]
   rfl
  refine pure_ (i := 2) (N := some 58) (v := ?_) (a' := ?_) #[true, true, true, false, false, false, false, false, false, false, false] rfl rfl (any_of HT_.out (by kernel_rfl)) (fun _ _ _ h => h) (Or.inl ⟨by rfl, ?_⟩) ?_ ?_
  rotate_left
  ·
   intro w'
   go_simp
   with_reducible rfl
  rotate_left
  ·
   simp only [Act.put, List.setIfInBounds_toArray, List.set_cons_zero, List.set_cons_succ, i64_w, i32_w]
   rfl
  refine pure_ (i := 4) (N := some 60) (v := ?_) (a' := ?_) #[true, true, true, false, true, false, false, false, false, false, false] rfl rfl (any_of HT_.out (by kernel_rfl)) (fun _ _ _ h => h) (Or.inl ⟨by rfl, ?_⟩) ?_ ?_
  rotate_left
  ·
   intro w'
   go_simp
   with_reducible rfl
  rotate_left
  ·
   simp only [Act.put, List.setIfInBounds_toArray, List.set_cons_zero, List.set_cons_succ, i64_w, i32_w]
   rfl
  refine pure_ (i := 6) (N := some 62) (v := ?_) (a' := ?_) #[true, true, true, false, true, false, true, false, false, false, false] rfl rfl (any_of HT_.out (by kernel_rfl)) (fun _ _ _ h => h) (Or.inl ⟨by rfl, ?_⟩) ?_ ?_
  rotate_left
  ·
   intro w'
   go_simp
   with_reducible rfl
  rotate_left
  ·
   simp only [Act.put, List.setIfInBounds_toArray, List.set_cons_zero, List.set_cons_succ, i64_w, i32_w]
   rfl
  refine take_ (i := 3) (N := some 59) (v := ?_) (a' := ?_) #[true, true, true, true, true, false, true, false, false, false, false] rfl rfl (take_ofW HT_.out HW_.out (by kernel_rfl)) (fun _ _ _ h => h) (Or.inl ⟨by rfl, ?_⟩) hHeld ?_ ?_
  rotate_left
  ·
   rintro w' ⟨s0, s1, s2, s3, s4, s5, s6⟩
   go_simp
   with_reducible rfl
  rotate_left
  ·
   simp only [Act.put, List.setIfInBounds_toArray, List.set_cons_zero, List.set_cons_succ, i64_w, i32_w]
   rfl
  refine take_ (i := 5) (N := some 61) (v := ?_) (a' := ?_) #[true, true, true, true, true, true, true, false, false, false, false] rfl rfl (take_ofW HT_.out HW_.out (by kernel_rfl)) (fun _ _ _ h => h) (Or.inl ⟨by rfl, ?_⟩) hHeld ?_ ?_
  rotate_left
  ·
   rintro w' ⟨s0, s1, s2, s3, s4, s5, s6⟩
   go_simp
   with_reducible rfl
  rotate_left
  ·
   simp only [Act.put, List.setIfInBounds_toArray, List.set_cons_zero, List.set_cons_succ, i64_w, i32_w]
   rfl
  refine pure_ (i := 7) (N := some 63) (v := ?_) (a' := ?_) #[true, true, true, true, true, true, true, true, false, false, false] rfl rfl (any_of HT_.out (by kernel_rfl)) (fun _ _ _ h => h) (Or.inl ⟨by rfl, ?_⟩) ?_ ?_
  rotate_left
  ·
   intro w'
   go_simp
   with_reducible rfl
  rotate_left
  ·
   simp only [Act.put, List.setIfInBounds_toArray, List.set_cons_zero, List.set_cons_succ, i64_w, i32_w]
   rfl
  refine pure_ (i := 8) (N := some 64) (v := ?_) (a' := ?_) #[true, true, true, true, true, true, true, true, true, false, false] rfl rfl (any_of HT_.out (by kernel_rfl)) (fun _ _ _ h => h) (Or.inl ⟨by rfl, ?_⟩) ?_ ?_
  rotate_left
  ·
   intro w'
   go_simp
   with_reducible rfl
  rotate_left
  ·
   simp only [Act.put, List.setIfInBounds_toArray, List.set_cons_zero, List.set_cons_succ, i64_w, i32_w]
   rfl
  refine take_ (i := 9) (N := some 65) (v := ?_) (a' := ?_) #[true, true, true, true, true, true, true, true, true, true, false] rfl rfl (take_ofW HT_.out HW_.out (by kernel_rfl)) (fun _ _ _ h => h) (Or.inl ⟨by rfl, ?_⟩) hHeld ?_ ?_
  rotate_left
  ·
   rintro w' ⟨s0, s1, s2, s3, s4, s5, s6⟩
   go_simp
   with_reducible rfl
  rotate_left
  ·
   simp only [Act.put, List.setIfInBounds_toArray, List.set_cons_zero, List.set_cons_succ, i64_w, i32_w]
   rfl
  refine pure_ (i := 10) (N := some 66) (v := ?_) (a' := ?_) #[true, true, true, true, true, true, true, true, true, true, true] rfl rfl (any_of HT_.out (by kernel_rfl)) (fun _ _ _ h => h) (Or.inl ⟨by rfl, ?_⟩) ?_ ?_
  rotate_left
  ·
   intro w'
   go_simp
   with_reducible rfl
  rotate_left
  ·
   simp only [Act.put, List.setIfInBounds_toArray, List.set_cons_zero, List.set_cons_succ, i64_w, i32_w]
   rfl
  refine done_ (done_of HT_.out (by kernel_rfl)) ?_
  try go_wp2_with (first | ((with_reducible refine gate_dst (N := 67) rfl ?_); refine Kd.R_lit (Kd.int .i64) _ 3 ?hg (N := 67) ?hd (xs := ([] : List Int)) (inner := []) (ok := fun _ => True) (okp := fun _ => True) ?hr ?hp (fun _ hk => hk) trivial (Below.refl _ _) (Nat.le_refl _) (by simp) ?_; (case hd => rfl); (case hg => rfl); (case hr => first | (go_simp; done) | (go_simp; rfl)); (case hp => exact (Reps.none _ _)); intro v176 w54 ho55 hb hg_ hnew_; clear hg_ hnew_; (first | rw [← Ny175.out] at ho55 | (simp only [Int.reduceToNat] at ho55; rw [← Ny175.out] at ho55)); have n0_ := Aside0.mk (Kd.N_elder' (by (with_reducible repeat (first | apply Kd.N_alloc | apply Kd.N_drewN | apply Kd.N_drew)); exact HO_8.out) (Kd.R_base ho55) hb); have n1_ := Aside0.mk (Kd.R_lower (Kd.R_newM (M := fun k_ => (w.heap.size ≤ k_)) ho55 (below_size (by repeat (first | (with_reducible first | exact HB.out | apply below_alloc | apply pw_below_drewN | apply below_drew1 | refine below_set ?_ GE144.out) | exact HB.out))) (fun k_ h_ => h_)) (below_size (by repeat (first | (with_reducible first | exact HB.out | apply below_alloc | apply pw_below_drewN | apply below_drew1 | refine below_set ?_ GE144.out) | exact HB.out)))); have n2_ := Aside0.mk (blk_below (g := gb144) (o := .cells #[.slice aG aD.length aH, .slice (some ad174) aA.length aI, .slice (some ad154) aC.length aJ] 26 (0, 0)) (by (with_reducible repeat (first | refine blk_drewN ?_ _ | refine blk_drew ?_ | refine blk_alloc ?_ _)); exact BK144.out) hb); have n3_ := Aside0.mk (below_step (by repeat (first | (with_reducible first | exact HB.out | apply below_alloc | apply pw_below_drewN | apply below_drew1 | refine below_set ?_ GE144.out) | exact HB.out)) hb); clear HO_8; clear BK144; clear HB; have HO_8 := n0_; have HO177 := n1_; have BK144 := n2_; have HB := n3_; clear n0_ n1_ n2_ n3_; clear hb ho55) | ((with_reducible refine gate_builtin (b := .append) (xs := #[.tmp 67, .tmp 68]) rfl ?_); at_builtin; refine Kd.R_append_rows (Kd.int .i64) (w0 := w) w.heap.size rfl (.tmp 67) (.tmp 68) 22 3 (.int .i64 0) 8 rfl Try.underlying22 info3 rfl (by decide) (by omega) v176 y175 l2 _ _ _ (fun k_ => (w.heap.size ≤ k_)) (fun _ => False) rfl rfl ?aO ?aR (fun _ _ h => h) (fun _ h => h.elim) ?aF ?aB ?aS ?aL ?_; (case aR => repeat (first | exact (Kd.C_below HR2.out HB.out) | (with_reducible refine Kd.C_alloc ?_ _) | (with_reducible refine Kd.C_drewN ?_ _) | (with_reducible refine Kd.C_drew ?_))); (case aB => exact (by repeat (first | (with_reducible first | exact HB.out | apply below_alloc | apply pw_below_drewN | apply below_drew1 | refine below_set ?_ GE144.out) | exact HB.out))); (case aF => exact (fun k_ hk => (Nat.le_trans (below_size (by repeat (first | (with_reducible first | exact HB.out | apply below_alloc | apply pw_below_drewN | apply below_drew1 | refine below_set ?_ GE144.out) | exact HB.out))) hk))); (case aO => exact (by (with_reducible repeat (first | apply Kd.R_alloc | apply Kd.R_drewN | apply Kd.R_drew)); exact Kd.R_mono HO177.out (fun _ hk => hk.1))); (case aS => exact (below_size (by repeat (first | (with_reducible first | exact HB.out | apply below_alloc | apply pw_below_drewN | apply below_drew1 | refine below_set ?_ GE144.out) | exact HB.out)))); (case aL => have := LMc45.out; omega); intro v179 w56 ho hb hg hat; rw [← Ny178.out] at ho; have n0_ := Aside0.mk (Kd.N_afterv (ok := (fun k_ => (w.heap.size ≤ k_) ∧ k_ ≠ gb144)) (by (with_reducible repeat (first | apply Kd.N_alloc | apply Kd.N_drewN | apply Kd.N_drew)); exact HO_8.out) hg hat); have n1_ := Aside0.mk (blk_grown (g := gb144) (o := .cells #[.slice aG aD.length aH, .slice (some ad174) aA.length aI, .slice (some ad154) aC.length aJ] 26 (0, 0)) (by (with_reducible repeat (first | refine blk_drewN ?_ _ | refine blk_drew ?_ | refine blk_alloc ?_ _)); exact BK144.out) hg (Kd.R_ne HO177.out BK144.out (by decide))); have n2_ := Aside0.mk (hb); have n3_ := Aside0.mk (ho); clear HO_8; clear BK144; clear HB; clear HO177; have HO_8 := n0_; have BK144 := n1_; have HB := n2_; have HO180 := n3_; clear n0_ n1_ n2_ n3_; clear ho hb hg hat; obtain ⟨Ao57, co57, eo57⟩ := Kd.R_slice HO180.out; subst eo57; have p181 : 0 ≤ ((rd (rd_L1 aC (l1.length : Int)) aT) : Int) := of_decide_eq_true (by assumption); have q181 : (rd (rd_L1 aC (l1.length : Int)) aT) < (y178.length : Int) := of_decide_eq_true (by assumption); obtain ⟨ad181, e181, nN⟩ := Kd.at_int (Kd.R_reads' HO180.out).2.2 (rd (rd_L1 aC (l1.length : Int)) aT) p181 q181; cases e181; (try simp only [Go.IntWalk.toNatUp] at nN); replace p181 := eq_true p181; replace q181 := eq_true q181; have p47 : 0 ≤ ((rd (rd_L1 aC (l1.length : Int)) aT) : Int) := of_decide_eq_true (by assumption); have q47 : ((rd (rd_L1 aC (l1.length : Int)) aT) : Int) < ((y178.length : Int) : Int) := of_decide_eq_true (by assumption); obtain ⟨go47, co47, eo47, gb47, gl47, cl47, HG47⟩ := Kd.R_form HO180.out (by omega); (first | cases eo47 | (injection eo47 with ea_ en_ ec_; (first | subst ea_ | (injection ea_ with ea_; subst ea_)); subst ec_; clear en_)); have GB47 := Aside0.mk gb47; have GG47 := Aside0.mk HG47; clear gb47 gl47 HG47; (first | simp only [add_plain] at nN | skip); obtain ⟨hx47_0, hf47_0⟩ := Kd.R_celln 0 HO180.out ((rd (rd_L1 aC (l1.length : Int)) aT) : Int) p47 q47; replace p47 := eq_true p47; replace q47 := eq_true q47; obtain ⟨hy58_, hz58_⟩ := Kd.R_celln 0 HO180.out ((rd (rd_L1 aC (l1.length : Int)) aT) : Int) (of_decide_eq_true (by assumption)) (of_decide_eq_true (by assumption)); (try simp only [Go.IntWalk.toNatUp] at hy58_ hz58_); have HP58 := Kd.R_putg HO180.out ((rd (rd_L1 aC (l1.length : Int)) aT) : Int) (wrap64 ((rd y178 (rd (rd_L1 aC (l1.length : Int)) aT)) + 1))) | ((with_reducible refine gate_store (t := 3) (p := 77) rfl ?_); refine store_event (t := 3) (p := 77) (v := ?vo_w59) (w1 := (w56.setCell ⟨go47, ((rd (rd_L1 aC (l1.length : Int)) aT) : Int).toNat, none⟩ (.int .i64 (wrap64 ((rd y178 (rd (rd_L1 aC (l1.length : Int)) aT)) + 1))))) ?hg ?ho ?hn ?hr ?_; (case ho => rfl); (case hg => rfl); (case hn => rfl); (case hr => first | (go_simp; done) | (go_simp; rfl)); intro w59 hw; have hg : w56.grownBy w59 (some go47) := (by rw [hw]; exact HP58.2); have hp_ : Kd.R (Kd.int .i64) 3 w59 w.heap.size (fun k_ => (w.heap.size ≤ k_)) (.slice (some ⟨go47, 0, none⟩) y178.length co57) y182 := (by rw [hw, Ny182.out]; exact HP58.1); clear HP58; have n0_ := Aside0.mk (Kd.N_afterv (v := (.slice (some ⟨go47, 0, none⟩) y178.length co57)) (v1 := (.slice (some ⟨go47, 0, none⟩) y178.length co57)) (ok := (fun k_ => (w.heap.size ≤ k_) ∧ k_ ≠ gb144)) (by (with_reducible repeat (first | apply Kd.N_alloc | apply Kd.N_drewN | apply Kd.N_drew)); exact HO_8.out) hg (.inl rfl)); have n1_ := Aside0.mk (blk_grown (g := gb144) (o := .cells #[.slice aG aD.length aH, .slice (some ad174) aA.length aI, .slice (some ad154) aC.length aJ] 26 (0, 0)) (by (with_reducible repeat (first | refine blk_drewN ?_ _ | refine blk_drew ?_ | refine blk_alloc ?_ _)); exact BK144.out) hg (Kd.R_ne HO180.out BK144.out (by decide))); have n2_ := Aside0.mk (hp_); have n3_ := Aside0.mk ((by rw [hw]; exact below_set (HB.out) GB47.out : Below w.heap.size w w59)); clear HO_8; clear BK144; clear HO180; clear HB; have HO_8 := n0_; have BK144 := n1_; have HO180 := n2_; have HB := n3_; clear n0_ n1_ n2_ n3_; clear hg hw hp_; obtain ⟨Ao60, co60, eo60⟩ := Kd.N_slice HO_8.out; subst eo60))
  have n0_ := Aside0.mk (Kd.N_drew HO_8.out)
  have n1_ := Aside0.mk (Kd.R_drew HO180.out)
  have n2_ := Aside0.mk (blk_drew BK144.out)
  have n3_ := Aside0.mk (below_drew1 HB.out)
  clear HO_8
  clear HO180
  clear BK144
  clear HB
  have HO_8 := n0_
  have HO180 := n1_
  have BK144 := n2_
  have HB := n3_
  clear n0_ n1_ n2_ n3_
  refine start_ (n := 12) (S := fun w' => w'.cell? ⟨gb144, 0, none⟩ = some (.slice aG aD.length aH) ∧ w'.cell? ⟨gb144, 1, none⟩ = some (.slice (some ad174) aA.length aI) ∧ w'.cell? ⟨gb144, 2, none⟩ = some (.slice (some ad154) aC.length aJ)) (ds := []) #[false, false, false, false, false, false, false, false, false, false, false, false] (by kernel_rfl) rfl rfl ⟨(blk_cell BK144.out 0).trans rfl, (blk_cell BK144.out 1).trans rfl, (blk_cell BK144.out 2).trans rfl⟩ (fun hHeld => ?_); refine with_tabW laganref04_all.tab14 laganref04_all.bits14 (fun HT_ HW_ => ?_)
  generalize w59.drew = w61 at HO_8 HO180 BK144 HB hHeld ⊢
  refine pure_ (i := 0) (N := some 78) (v := ?_) (a' := ?_) #[true, false, false, false, false, false, false, false, false, false, false, false] rfl rfl (any_of HT_.out (by kernel_rfl)) (fun _ _ _ h => h) (Or.inl ⟨by rfl, ?_⟩) ?_ ?_
  rotate_left
  ·
   intro w'
   go_simp
   with_reducible rfl
  rotate_left
  ·
   simp only [Act.put, List.setIfInBounds_toArray, List.set_cons_zero, List.set_cons_succ, i64_w, i32_w]
   rfl
  refine pure_ (i := 3) (N := some 81) (v := ?_) (a' := ?_) #[true, false, false, true, false, false, false, false, false, false, false, false] rfl rfl (any_of HT_.out (by kernel_rfl)) (fun _ _ _ h => h) (Or.inl ⟨by rfl, ?_⟩) ?_ ?_
  rotate_left
  ·
   intro w'
   go_simp
   with_reducible rfl
  rotate_left
  ·
   simp only [Act.put, List.setIfInBounds_toArray, List.set_cons_zero, List.set_cons_succ, i64_w, i32_w]
   rfl
  refine pure_ (i := 5) (N := some 83) (v := ?_) (a' := ?_) #[true, false, false, true, false, true, false, false, false, false, false, false] rfl rfl (any_of HT_.out (by kernel_rfl)) (fun _ _ _ h => h) (Or.inl ⟨by rfl, ?_⟩) ?_ ?_
  rotate_left
  ·
   intro w'
   go_simp
   with_reducible rfl
  rotate_left
  ·
   simp only [Act.put, List.setIfInBounds_toArray, List.set_cons_zero, List.set_cons_succ, i64_w, i32_w]
   rfl
  refine pure_ (i := 8) (N := some 86) (v := ?_) (a' := ?_) #[true, false, false, true, false, true, false, false, true, false, false, false] rfl rfl (any_of HT_.out (by kernel_rfl)) (fun _ _ _ h => h) (Or.inl ⟨by rfl, ?_⟩) ?_ ?_
  rotate_left
  ·
   intro w'
   go_simp
   with_reducible rfl
  rotate_left
  ·
   simp only [Act.put, List.setIfInBounds_toArray, List.set_cons_zero, List.set_cons_succ, i64_w, i32_w]
   rfl
  refine take_ (i := 1) (N := some 79) (v := ?_) (a' := ?_) #[true, true, false, true, false, true, false, false, true, false, false, false] rfl rfl (take_ofW HT_.out HW_.out (by kernel_rfl)) (fun _ _ _ h => h) (Or.inl ⟨by rfl, ?_⟩) hHeld ?_ ?_
  rotate_left
  ·
   rintro w' ⟨s0, s1, s2⟩
   go_simp
   with_reducible rfl
  rotate_left
  ·
   simp only [Act.put, List.setIfInBounds_toArray, List.set_cons_zero, List.set_cons_succ, i64_w, i32_w]
   rfl
  refine join_ (σ := Value × Value × Value) 4 #[true, true, true, true, true, true, true, false, true, false, false, false] (fun s_ => [(80, s_.1), (82, s_.2.1), (84, s_.2.2)]) (fun s_ w' => (w'.cell? ⟨gb144, 0, none⟩ = some (.slice aG aD.length aH) ∧ w'.cell? ⟨gb144, 1, none⟩ = some (.slice (some ad174) aA.length aI) ∧ w'.cell? ⟨gb144, 2, none⟩ = some (.slice (some ad154) aC.length aJ)) ∧ (Kd.R (Kd.int .i64) 3 w' w.heap.size (fun k_ => (w.heap.size ≤ k_) ∧ some k_ ≠ (s_.2.1 : Value).ownBlock ∧ some k_ ≠ (s_.2.2 : Value).ownBlock) (.slice (some ⟨go47, 0, none⟩) y178.length co57) y182) ∧ (Kd.R (Kd.int .i64) 3 w' w.heap.size (fun k_ => (w.heap.size ≤ k_) ∧ some k_ ≠ (.slice (some ⟨go47, 0, none⟩) y178.length co57 : Value).ownBlock ∧ some k_ ≠ (s_.2.2 : Value).ownBlock) s_.2.1 y186) ∧ (Kd.R (Kd.int .i64) 3 w' w.heap.size (fun k_ => (w.heap.size ≤ k_) ∧ some k_ ≠ (.slice (some ⟨go47, 0, none⟩) y178.length co57 : Value).ownBlock ∧ some k_ ≠ (s_.2.1 : Value).ownBlock) s_.2.2 y189) ∧ (Kd.N (Kd.slice 3 (Kd.int .i64)) 22 w' w.heap.size (fun k_ => (w.heap.size ≤ k_) ∧ some k_ ≠ (.slice (some ⟨go47, 0, none⟩) y178.length co57 : Value).ownBlock ∧ some k_ ≠ (s_.2.1 : Value).ownBlock ∧ some k_ ≠ (s_.2.2 : Value).ownBlock ∧ k_ ≠ gb144) (.slice Ao60 aQ.length co60) aQ) ∧ (w'.heap[gb144]? = some (.cells #[.slice aG aD.length aH, .slice (some ad174) aA.length aI, .slice (some ad154) aC.length aJ] 26 (0, 0))) ∧ (Below w.heap.size w w')) ?_ ?_
  rotate_left
  ·
   intro hCont
   refine two_ (i := 2) (j := 6) (Ni := some 80) (Nj := some 84) #[true, true, true, true, false, true, false, false, true, false, false, false] #[true, true, false, true, false, true, true, false, true, false, false, false] rfl rfl rfl rfl (two_of HT_.out (by kernel_rfl)) (by decide) (by decide) (fun K hK => ?_) (fun K hK => ?_)
   ·
    skip
    refine Kd.R_lit_step (Kd.int .i64) _ 3 ?hg (N := 80) ?hd (xs := ([] : List Int)) (inner := []) (ok := fun _ => True) (okp := fun _ => True) ?hr ?hp (fun _ hk => hk) trivial (Below.refl _ _) (Nat.le_refl _) (by simp) ?_; (case hd => rfl); (case hg => rfl); (case hr => first | (go_simp; done) | (go_simp; rfl)); (case hp => exact (Reps.none _ _))
    intro v184 w62 ho63 hb hg_ hnew_
    clear hg_ hnew_
    (first | rw [← Ny183.out] at ho63 | (simp only [Int.reduceToNat] at ho63; rw [← Ny183.out] at ho63))
    have n0_ := Aside0.mk (Kd.N_elder' (by (with_reducible repeat (first | apply Kd.N_alloc | apply Kd.N_drewN | apply Kd.N_drew)); exact HO_8.out) (Kd.R_base ho63) hb)
    have n1_ := Aside0.mk (Kd.R_elder' (by (with_reducible repeat (first | apply Kd.R_alloc | apply Kd.R_drewN | apply Kd.R_drew)); exact HO180.out) (Kd.R_base ho63) hb)
    have n2_ := Aside0.mk (Kd.R_lower (Kd.R_new' (Kd.R_newM (M := fun k_ => (w.heap.size ≤ k_)) ho63 (below_size (by repeat (first | (with_reducible first | exact HB.out | apply below_alloc | apply pw_below_drewN | apply below_drew1 | refine below_set ?_ GE144.out) | exact HB.out))) (fun k_ h_ => h_)) (Kd.R_lt (by (with_reducible repeat (first | apply Kd.R_alloc | apply Kd.R_drewN | apply Kd.R_drew)); exact HO180.out))) (below_size (by repeat (first | (with_reducible first | exact HB.out | apply below_alloc | apply pw_below_drewN | apply below_drew1 | refine below_set ?_ GE144.out) | exact HB.out))))
    have n3_ := Aside0.mk (blk_below (g := gb144) (o := .cells #[.slice aG aD.length aH, .slice (some ad174) aA.length aI, .slice (some ad154) aC.length aJ] 26 (0, 0)) (by (with_reducible repeat (first | refine blk_drewN ?_ _ | refine blk_drew ?_ | refine blk_alloc ?_ _)); exact BK144.out) hb)
    have n4_ := Aside0.mk (below_step (by repeat (first | (with_reducible first | exact HB.out | apply below_alloc | apply pw_below_drewN | apply below_drew1 | refine below_set ?_ GE144.out) | exact HB.out)) hb)
    clear HO_8
    clear HO180
    clear BK144
    clear HB
    have HO_8 := n0_
    have HO180 := n1_
    have HO185 := n2_
    have BK144 := n3_
    have HB := n4_
    clear n0_ n1_ n2_ n3_ n4_
    clear hb ho63
    refine hK.out _ _ ⟨(blk_cell BK144.out 0).trans rfl, (blk_cell BK144.out 1).trans rfl, (blk_cell BK144.out 2).trans rfl⟩ (fun hHeld => ?_)
    clear hK K
    refine norm_ (a' := ?_) ?_ ?_
    rotate_left
    ·
     show Act.put _ (some 80) _ = _
     simp only [Act.put, List.setIfInBounds_toArray, List.set_cons_zero, List.set_cons_succ, i64_w, i32_w]
     rfl
    refine two_ (i := 4) (j := 6) (Ni := some 82) (Nj := some 84) #[true, true, true, true, true, true, false, false, true, false, false, false] #[true, true, true, true, false, true, true, false, true, false, false, false] rfl rfl rfl rfl (two_of HT_.out (by kernel_rfl)) (by decide) (by decide) (fun K hK => ?_) (fun K hK => ?_)
    ·
     skip
     refine Kd.R_append_rows_step (Kd.int .i64) (w0 := w) w.heap.size (by rfl) (.tmp 80) (.tmp 81) 22 3 (.int .i64 0) 8 rfl Try.underlying22 info3 rfl (by decide) (by omega) v184 y183 l1 _ _ _ (fun k_ => (w.heap.size ≤ k_) ∧ some k_ ≠ (.slice (some ⟨go47, 0, none⟩) y178.length co57 : Value).ownBlock) (fun _ => False) rfl rfl ?aO ?aR (fun _ _ h => h) (fun _ h => h.elim) ?aF ?aB ?aS ?aL ?_
     (case aR => repeat (first | exact (Kd.C_below HR1.out HB.out) | (with_reducible refine Kd.C_alloc ?_ _) | (with_reducible refine Kd.C_drewN ?_ _) | (with_reducible refine Kd.C_drew ?_)))
     (case aB => exact (by repeat (first | (with_reducible first | exact HB.out | apply below_alloc | apply pw_below_drewN | apply below_drew1 | refine below_set ?_ GE144.out) | exact HB.out)))
     (case aF => exact (fun k_ hk => ⟨(Nat.le_trans (below_size (by repeat (first | (with_reducible first | exact HB.out | apply below_alloc | apply pw_below_drewN | apply below_drew1 | refine below_set ?_ GE144.out) | exact HB.out))) hk), Kd.fresh' (Kd.R_lt (by (with_reducible repeat (first | apply Kd.R_alloc | apply Kd.R_drewN | apply Kd.R_drew)); exact HO180.out)) k_ hk⟩))
     (case aO => exact (by (with_reducible repeat (first | apply Kd.R_alloc | apply Kd.R_drewN | apply Kd.R_drew)); exact Kd.R_mono HO185.out (fun _ hk => ⟨hk.1.1, hk.2⟩)))
     (case aS => exact (below_size (by repeat (first | (with_reducible first | exact HB.out | apply below_alloc | apply pw_below_drewN | apply below_drew1 | refine below_set ?_ GE144.out) | exact HB.out))))
     (case aL => have := LMc48.out; omega)
     intro v187 w64 ho hb hg hat
     rw [← Ny186.out] at ho
     have n0_ := Aside0.mk (Kd.N_afterv (ok := (fun k_ => (w.heap.size ≤ k_) ∧ some k_ ≠ (.slice (some ⟨go47, 0, none⟩) y178.length co57 : Value).ownBlock ∧ k_ ≠ gb144)) (by (with_reducible repeat (first | apply Kd.N_alloc | apply Kd.N_drewN | apply Kd.N_drew)); exact Kd.N_mono HO_8.out (fun _ hk => ⟨⟨hk.1.1.1, ⟨hk.1.2, hk.1.1.2⟩⟩, hk.2⟩)) hg hat)
     have n1_ := Aside0.mk (blk_grown (g := gb144) (o := .cells #[.slice aG aD.length aH, .slice (some ad174) aA.length aI, .slice (some ad154) aC.length aJ] 26 (0, 0)) (by (with_reducible repeat (first | refine blk_drewN ?_ _ | refine blk_drew ?_ | refine blk_alloc ?_ _)); exact BK144.out) hg (Kd.R_ne HO185.out BK144.out (by decide)))
     have n2_ := Aside0.mk (Kd.R_after (ok := (fun k_ => (w.heap.size ≤ k_))) (by (with_reducible repeat (first | apply Kd.R_alloc | apply Kd.R_drewN | apply Kd.R_drew)); exact HO180.out) hg hat)
     have n3_ := Aside0.mk (hb)
     have n4_ := Aside0.mk (ho)
     clear HO_8
     clear BK144
     clear HO180
     clear HB
     clear HO185
     have HO_8 := n0_
     have BK144 := n1_
     have HO180 := n2_
     have HB := n3_
     have HO188 := n4_
     clear n0_ n1_ n2_ n3_ n4_
     clear ho hb hg hat
     refine hK.out _ _ ⟨(blk_cell BK144.out 0).trans rfl, (blk_cell BK144.out 1).trans rfl, (blk_cell BK144.out 2).trans rfl⟩ (fun hHeld => ?_)
     clear hK K
     refine norm_ (a' := ?_) ?_ ?_
     rotate_left
     ·
      show Act.put _ (some 82) _ = _
      simp only [Act.put, List.setIfInBounds_toArray, List.set_cons_zero, List.set_cons_succ, i64_w, i32_w]
      rfl
     refine one_ (i := 6) (N := some 84) #[true, true, true, true, true, true, true, false, true, false, false, false] rfl rfl (one_of HT_.out (by kernel_rfl)) (by decide) (fun K hK => ?_)
     refine Kd.R_lit_step (Kd.int .i64) _ 3 ?hg (N := 84) ?hd (xs := ([rd (rd_L1 aC (l1.length : Int)) aT] : List Int)) (inner := [.int .i64 (rd (rd_L1 aC (l1.length : Int)) aT)]) (ok := fun _ => True) (okp := fun _ => True) ?hr ?hp (fun _ hk => hk) trivial (Below.refl _ _) (Nat.le_refl _) (by simp) ?_; (case hd => rfl); (case hg => rfl); (case hr => first | (go_simp; done) | (go_simp; rfl)); (case hp => exact (Reps.one (show Kd.M (Kd.int .i64) _ _ _ (rd (rd_L1 aC (l1.length : Int)) aT) [.int .i64 (rd (rd_L1 aC (l1.length : Int)) aT)] from rfl) (Reps.none _ _)))
     intro v190 w65 ho66 hb hg_ hnew_
     clear hg_ hnew_
     (first | rw [← Ny189.out] at ho66 | (simp only [Int.reduceToNat] at ho66; rw [← Ny189.out] at ho66))
     have n0_ := Aside0.mk (Kd.N_elder' (by (with_reducible repeat (first | apply Kd.N_alloc | apply Kd.N_drewN | apply Kd.N_drew)); exact HO_8.out) (Kd.R_base ho66) hb)
     have n1_ := Aside0.mk (Kd.R_elder' (by (with_reducible repeat (first | apply Kd.R_alloc | apply Kd.R_drewN | apply Kd.R_drew)); exact HO180.out) (Kd.R_base ho66) hb)
     have n2_ := Aside0.mk (Kd.R_elder' (by (with_reducible repeat (first | apply Kd.R_alloc | apply Kd.R_drewN | apply Kd.R_drew)); exact HO188.out) (Kd.R_base ho66) hb)
     have n3_ := Aside0.mk (Kd.R_lower (Kd.R_new' (Kd.R_new' (Kd.R_newM (M := fun k_ => (w.heap.size ≤ k_)) ho66 (below_size (by repeat (first | (with_reducible first | exact HB.out | apply below_alloc | apply pw_below_drewN | apply below_drew1 | refine below_set ?_ GE144.out) | exact HB.out))) (fun k_ h_ => h_)) (Kd.R_lt (by (with_reducible repeat (first | apply Kd.R_alloc | apply Kd.R_drewN | apply Kd.R_drew)); exact HO180.out))) (Kd.R_lt (by (with_reducible repeat (first | apply Kd.R_alloc | apply Kd.R_drewN | apply Kd.R_drew)); exact HO188.out))) (below_size (by repeat (first | (with_reducible first | exact HB.out | apply below_alloc | apply pw_below_drewN | apply below_drew1 | refine below_set ?_ GE144.out) | exact HB.out))))
     have n4_ := Aside0.mk (blk_below (g := gb144) (o := .cells #[.slice aG aD.length aH, .slice (some ad174) aA.length aI, .slice (some ad154) aC.length aJ] 26 (0, 0)) (by (with_reducible repeat (first | refine blk_drewN ?_ _ | refine blk_drew ?_ | refine blk_alloc ?_ _)); exact BK144.out) hb)
     have n5_ := Aside0.mk (below_step (by repeat (first | (with_reducible first | exact HB.out | apply below_alloc | apply pw_below_drewN | apply below_drew1 | refine below_set ?_ GE144.out) | exact HB.out)) hb)
     clear HO_8
     clear HO180
     clear HO188
     clear BK144
     clear HB
     have HO_8 := n0_
     have HO180 := n1_
     have HO188 := n2_
     have HO191 := n3_
     have BK144 := n4_
     have HB := n5_
     clear n0_ n1_ n2_ n3_ n4_ n5_
     clear hb ho66
     refine hK.out _ _ ⟨(blk_cell BK144.out 0).trans rfl, (blk_cell BK144.out 1).trans rfl, (blk_cell BK144.out 2).trans rfl⟩ (fun hHeld => ?_)
     clear hK K
     refine norm_ (a' := ?_) ?_ ?_
     rotate_left
     ·
      show Act.put _ (some 84) _ = _
      simp only [Act.put, List.setIfInBounds_toArray, List.set_cons_zero, List.set_cons_succ, i64_w, i32_w]
      rfl
     exact norm_ (by simp only [putAll, Act.put, List.setIfInBounds_toArray, List.set_cons_zero, List.set_cons_succ]) (hCont (v184, v187, v190) _ ⟨hHeld, (by (with_reducible repeat (first | apply Kd.R_alloc | apply Kd.R_drewN | apply Kd.R_drew)); exact Kd.R_mono HO180.out (fun _ hk => ⟨hk.1.1, ⟨hk.1.2, hk.2⟩⟩)), (by (with_reducible repeat (first | apply Kd.R_alloc | apply Kd.R_drewN | apply Kd.R_drew)); exact Kd.R_mono HO188.out (fun _ hk => ⟨hk.1.1, ⟨hk.1.2, hk.2⟩⟩)), (by (with_reducible repeat (first | apply Kd.R_alloc | apply Kd.R_drewN | apply Kd.R_drew)); exact Kd.R_mono HO191.out (fun _ hk => ⟨hk.1.1.1, ⟨hk.1.2, hk.2⟩⟩)), (by (with_reducible repeat (first | apply Kd.N_alloc | apply Kd.N_drewN | apply Kd.N_drew)); exact Kd.N_mono HO_8.out (fun _ hk => ⟨hk.1.1.1, ⟨hk.1.1.2.1, ⟨hk.1.2, ⟨hk.2, hk.1.1.2.2⟩⟩⟩⟩)), (by (with_reducible repeat (first | refine blk_drewN ?_ _ | refine blk_drew ?_ | refine blk_alloc ?_ _)); exact BK144.out), (by repeat (first | (with_reducible first | exact HB.out | apply below_alloc | apply pw_below_drewN | apply below_drew1 | refine below_set ?_ GE144.out) | exact HB.out))⟩)
    skip
    refine Kd.R_lit_step (Kd.int .i64) _ 3 ?hg (N := 84) ?hd (xs := ([rd (rd_L1 aC (l1.length : Int)) aT] : List Int)) (inner := [.int .i64 (rd (rd_L1 aC (l1.length : Int)) aT)]) (ok := fun _ => True) (okp := fun _ => True) ?hr ?hp (fun _ hk => hk) trivial (Below.refl _ _) (Nat.le_refl _) (by simp) ?_; (case hd => rfl); (case hg => rfl); (case hr => first | (go_simp; done) | (go_simp; rfl)); (case hp => exact (Reps.one (show Kd.M (Kd.int .i64) _ _ _ (rd (rd_L1 aC (l1.length : Int)) aT) [.int .i64 (rd (rd_L1 aC (l1.length : Int)) aT)] from rfl) (Reps.none _ _)))
    intro v190 w64 ho65 hb hg_ hnew_
    clear hg_ hnew_
    (first | rw [← Ny189.out] at ho65 | (simp only [Int.reduceToNat] at ho65; rw [← Ny189.out] at ho65))
    have n0_ := Aside0.mk (Kd.N_elder' (by (with_reducible repeat (first | apply Kd.N_alloc | apply Kd.N_drewN | apply Kd.N_drew)); exact HO_8.out) (Kd.R_base ho65) hb)
    have n1_ := Aside0.mk (Kd.R_elder' (by (with_reducible repeat (first | apply Kd.R_alloc | apply Kd.R_drewN | apply Kd.R_drew)); exact HO180.out) (Kd.R_base ho65) hb)
    have n2_ := Aside0.mk (Kd.R_elder' (by (with_reducible repeat (first | apply Kd.R_alloc | apply Kd.R_drewN | apply Kd.R_drew)); exact HO185.out) (Kd.R_base ho65) hb)
    have n3_ := Aside0.mk (Kd.R_lower (Kd.R_new' (Kd.R_new' (Kd.R_newM (M := fun k_ => (w.heap.size ≤ k_)) ho65 (below_size (by repeat (first | (with_reducible first | exact HB.out | apply below_alloc | apply pw_below_drewN | apply below_drew1 | refine below_set ?_ GE144.out) | exact HB.out))) (fun k_ h_ => h_)) (Kd.R_lt (by (with_reducible repeat (first | apply Kd.R_alloc | apply Kd.R_drewN | apply Kd.R_drew)); exact HO180.out))) (Kd.R_lt (by (with_reducible repeat (first | apply Kd.R_alloc | apply Kd.R_drewN | apply Kd.R_drew)); exact HO185.out))) (below_size (by repeat (first | (with_reducible first | exact HB.out | apply below_alloc | apply pw_below_drewN | apply below_drew1 | refine below_set ?_ GE144.out) | exact HB.out))))
    have n4_ := Aside0.mk (blk_below (g := gb144) (o := .cells #[.slice aG aD.length aH, .slice (some ad174) aA.length aI, .slice (some ad154) aC.length aJ] 26 (0, 0)) (by (with_reducible repeat (first | refine blk_drewN ?_ _ | refine blk_drew ?_ | refine blk_alloc ?_ _)); exact BK144.out) hb)
    have n5_ := Aside0.mk (below_step (by repeat (first | (with_reducible first | exact HB.out | apply below_alloc | apply pw_below_drewN | apply below_drew1 | refine below_set ?_ GE144.out) | exact HB.out)) hb)
    clear HO_8
    clear HO180
    clear HO185
    clear BK144
    clear HB
    have HO_8 := n0_
    have HO180 := n1_
    have HO185 := n2_
    have HO191 := n3_
    have BK144 := n4_
    have HB := n5_
    clear n0_ n1_ n2_ n3_ n4_ n5_
    clear hb ho65
    refine hK.out _ _ ⟨(blk_cell BK144.out 0).trans rfl, (blk_cell BK144.out 1).trans rfl, (blk_cell BK144.out 2).trans rfl⟩ (fun hHeld => ?_)
    clear hK K
    refine norm_ (a' := ?_) ?_ ?_
    rotate_left
    ·
     show Act.put _ (some 84) _ = _
     simp only [Act.put, List.setIfInBounds_toArray, List.set_cons_zero, List.set_cons_succ, i64_w, i32_w]
     rfl
    refine one_ (i := 4) (N := some 82) #[true, true, true, true, true, true, true, false, true, false, false, false] rfl rfl (one_of HT_.out (by kernel_rfl)) (by decide) (fun K hK => ?_)
    refine Kd.R_append_rows_step (Kd.int .i64) (w0 := w) w.heap.size (by rfl) (.tmp 80) (.tmp 81) 22 3 (.int .i64 0) 8 rfl Try.underlying22 info3 rfl (by decide) (by omega) v184 y183 l1 _ _ _ (fun k_ => (w.heap.size ≤ k_) ∧ some k_ ≠ (.slice (some ⟨go47, 0, none⟩) y178.length co57 : Value).ownBlock ∧ some k_ ≠ (v190 : Value).ownBlock) (fun _ => False) rfl rfl ?aO ?aR (fun _ _ h => h) (fun _ h => h.elim) ?aF ?aB ?aS ?aL ?_
    (case aR => repeat (first | exact (Kd.C_below HR1.out HB.out) | (with_reducible refine Kd.C_alloc ?_ _) | (with_reducible refine Kd.C_drewN ?_ _) | (with_reducible refine Kd.C_drew ?_)))
    (case aB => exact (by repeat (first | (with_reducible first | exact HB.out | apply below_alloc | apply pw_below_drewN | apply below_drew1 | refine below_set ?_ GE144.out) | exact HB.out)))
    (case aF => exact (fun k_ hk => ⟨(Nat.le_trans (below_size (by repeat (first | (with_reducible first | exact HB.out | apply below_alloc | apply pw_below_drewN | apply below_drew1 | refine below_set ?_ GE144.out) | exact HB.out))) hk), Kd.fresh' (Kd.R_lt (by (with_reducible repeat (first | apply Kd.R_alloc | apply Kd.R_drewN | apply Kd.R_drew)); exact HO180.out)) k_ hk, Kd.fresh' (Kd.R_lt (by (with_reducible repeat (first | apply Kd.R_alloc | apply Kd.R_drewN | apply Kd.R_drew)); exact HO191.out)) k_ hk⟩))
    (case aO => exact (by (with_reducible repeat (first | apply Kd.R_alloc | apply Kd.R_drewN | apply Kd.R_drew)); exact Kd.R_mono HO185.out (fun _ hk => ⟨hk.1.1.1, ⟨hk.1.2, hk.2⟩⟩)))
    (case aS => exact (below_size (by repeat (first | (with_reducible first | exact HB.out | apply below_alloc | apply pw_below_drewN | apply below_drew1 | refine below_set ?_ GE144.out) | exact HB.out))))
    (case aL => have := LMc48.out; omega)
    intro v187 w66 ho hb hg hat
    rw [← Ny186.out] at ho
    have n0_ := Aside0.mk (Kd.N_afterv (ok := (fun k_ => (w.heap.size ≤ k_) ∧ some k_ ≠ (.slice (some ⟨go47, 0, none⟩) y178.length co57 : Value).ownBlock ∧ some k_ ≠ (v190 : Value).ownBlock ∧ k_ ≠ gb144)) (by (with_reducible repeat (first | apply Kd.N_alloc | apply Kd.N_drewN | apply Kd.N_drew)); exact Kd.N_mono HO_8.out (fun _ hk => ⟨⟨hk.1.1.1.1, ⟨hk.1.1.2, ⟨hk.2, hk.1.1.1.2⟩⟩⟩, hk.1.2⟩)) hg hat)
    have n1_ := Aside0.mk (blk_grown (g := gb144) (o := .cells #[.slice aG aD.length aH, .slice (some ad174) aA.length aI, .slice (some ad154) aC.length aJ] 26 (0, 0)) (by (with_reducible repeat (first | refine blk_drewN ?_ _ | refine blk_drew ?_ | refine blk_alloc ?_ _)); exact BK144.out) hg (Kd.R_ne HO185.out BK144.out (by decide)))
    have n2_ := Aside0.mk (Kd.R_after (ok := (fun k_ => (w.heap.size ≤ k_) ∧ some k_ ≠ (v190 : Value).ownBlock)) (by (with_reducible repeat (first | apply Kd.R_alloc | apply Kd.R_drewN | apply Kd.R_drew)); exact Kd.R_mono HO180.out (fun _ hk => ⟨⟨hk.1.1, hk.2⟩, hk.1.2⟩)) hg hat)
    have n3_ := Aside0.mk (Kd.R_after (ok := (fun k_ => (w.heap.size ≤ k_) ∧ some k_ ≠ (.slice (some ⟨go47, 0, none⟩) y178.length co57 : Value).ownBlock)) (by (with_reducible repeat (first | apply Kd.R_alloc | apply Kd.R_drewN | apply Kd.R_drew)); exact Kd.R_mono HO191.out (fun _ hk => ⟨⟨hk.1.1.1, hk.1.2⟩, hk.2⟩)) hg hat)
    have n4_ := Aside0.mk (hb)
    have n5_ := Aside0.mk (ho)
    clear HO_8
    clear BK144
    clear HO180
    clear HO191
    clear HB
    clear HO185
    have HO_8 := n0_
    have BK144 := n1_
    have HO180 := n2_
    have HO191 := n3_
    have HB := n4_
    have HO188 := n5_
    clear n0_ n1_ n2_ n3_ n4_ n5_
    clear ho hb hg hat
    refine hK.out _ _ ⟨(blk_cell BK144.out 0).trans rfl, (blk_cell BK144.out 1).trans rfl, (blk_cell BK144.out 2).trans rfl⟩ (fun hHeld => ?_)
    clear hK K
    refine norm_ (a' := ?_) ?_ ?_
    rotate_left
    ·
     show Act.put _ (some 82) _ = _
     simp only [Act.put, List.setIfInBounds_toArray, List.set_cons_zero, List.set_cons_succ, i64_w, i32_w]
     rfl
    exact norm_ (by simp only [putAll, Act.put, List.setIfInBounds_toArray, List.set_cons_zero, List.set_cons_succ]) (hCont (v184, v187, v190) _ ⟨hHeld, (by (with_reducible repeat (first | apply Kd.R_alloc | apply Kd.R_drewN | apply Kd.R_drew)); exact Kd.R_mono HO180.out (fun _ hk => ⟨hk.1.1, ⟨hk.2, hk.1.2⟩⟩)), (by (with_reducible repeat (first | apply Kd.R_alloc | apply Kd.R_drewN | apply Kd.R_drew)); exact HO188.out), (by (with_reducible repeat (first | apply Kd.R_alloc | apply Kd.R_drewN | apply Kd.R_drew)); exact Kd.R_mono HO191.out (fun _ hk => ⟨hk.1.1, ⟨hk.1.2, hk.2⟩⟩)), (by (with_reducible repeat (first | apply Kd.N_alloc | apply Kd.N_drewN | apply Kd.N_drew)); exact Kd.N_mono HO_8.out (fun _ hk => ⟨hk.1.1, ⟨hk.1.2.1, ⟨hk.2, ⟨hk.1.2.2.1, hk.1.2.2.2⟩⟩⟩⟩)), (by (with_reducible repeat (first | refine blk_drewN ?_ _ | refine blk_drew ?_ | refine blk_alloc ?_ _)); exact BK144.out), (by repeat (first | (with_reducible first | exact HB.out | apply below_alloc | apply pw_below_drewN | apply below_drew1 | refine below_set ?_ GE144.out) | exact HB.out))⟩)
   skip
   refine Kd.R_lit_step (Kd.int .i64) _ 3 ?hg (N := 84) ?hd (xs := ([rd (rd_L1 aC (l1.length : Int)) aT] : List Int)) (inner := [.int .i64 (rd (rd_L1 aC (l1.length : Int)) aT)]) (ok := fun _ => True) (okp := fun _ => True) ?hr ?hp (fun _ hk => hk) trivial (Below.refl _ _) (Nat.le_refl _) (by simp) ?_; (case hd => rfl); (case hg => rfl); (case hr => first | (go_simp; done) | (go_simp; rfl)); (case hp => exact (Reps.one (show Kd.M (Kd.int .i64) _ _ _ (rd (rd_L1 aC (l1.length : Int)) aT) [.int .i64 (rd (rd_L1 aC (l1.length : Int)) aT)] from rfl) (Reps.none _ _)))
   intro v190 w62 ho63 hb hg_ hnew_
   clear hg_ hnew_
   (first | rw [← Ny189.out] at ho63 | (simp only [Int.reduceToNat] at ho63; rw [← Ny189.out] at ho63))
   have n0_ := Aside0.mk (Kd.N_elder' (by (with_reducible repeat (first | apply Kd.N_alloc | apply Kd.N_drewN | apply Kd.N_drew)); exact HO_8.out) (Kd.R_base ho63) hb)
   have n1_ := Aside0.mk (Kd.R_elder' (by (with_reducible repeat (first | apply Kd.R_alloc | apply Kd.R_drewN | apply Kd.R_drew)); exact HO180.out) (Kd.R_base ho63) hb)
   have n2_ := Aside0.mk (Kd.R_lower (Kd.R_new' (Kd.R_newM (M := fun k_ => (w.heap.size ≤ k_)) ho63 (below_size (by repeat (first | (with_reducible first | exact HB.out | apply below_alloc | apply pw_below_drewN | apply below_drew1 | refine below_set ?_ GE144.out) | exact HB.out))) (fun k_ h_ => h_)) (Kd.R_lt (by (with_reducible repeat (first | apply Kd.R_alloc | apply Kd.R_drewN | apply Kd.R_drew)); exact HO180.out))) (below_size (by repeat (first | (with_reducible first | exact HB.out | apply below_alloc | apply pw_below_drewN | apply below_drew1 | refine below_set ?_ GE144.out) | exact HB.out))))
   have n3_ := Aside0.mk (blk_below (g := gb144) (o := .cells #[.slice aG aD.length aH, .slice (some ad174) aA.length aI, .slice (some ad154) aC.length aJ] 26 (0, 0)) (by (with_reducible repeat (first | refine blk_drewN ?_ _ | refine blk_drew ?_ | refine blk_alloc ?_ _)); exact BK144.out) hb)
   have n4_ := Aside0.mk (below_step (by repeat (first | (with_reducible first | exact HB.out | apply below_alloc | apply pw_below_drewN | apply below_drew1 | refine below_set ?_ GE144.out) | exact HB.out)) hb)
   clear HO_8
   clear HO180
   clear BK144
   clear HB
   have HO_8 := n0_
   have HO180 := n1_
   have HO191 := n2_
   have BK144 := n3_
   have HB := n4_
   clear n0_ n1_ n2_ n3_ n4_
   clear hb ho63
   refine hK.out _ _ ⟨(blk_cell BK144.out 0).trans rfl, (blk_cell BK144.out 1).trans rfl, (blk_cell BK144.out 2).trans rfl⟩ (fun hHeld => ?_)
   clear hK K
   refine norm_ (a' := ?_) ?_ ?_
   rotate_left
   ·
    show Act.put _ (some 84) _ = _
    simp only [Act.put, List.setIfInBounds_toArray, List.set_cons_zero, List.set_cons_succ, i64_w, i32_w]
    rfl
   refine one_ (i := 2) (N := some 80) #[true, true, true, true, false, true, true, false, true, false, false, false] rfl rfl (one_of HT_.out (by kernel_rfl)) (by decide) (fun K hK => ?_)
   refine Kd.R_lit_step (Kd.int .i64) _ 3 ?hg (N := 80) ?hd (xs := ([] : List Int)) (inner := []) (ok := fun _ => True) (okp := fun _ => True) ?hr ?hp (fun _ hk => hk) trivial (Below.refl _ _) (Nat.le_refl _) (by simp) ?_; (case hd => rfl); (case hg => rfl); (case hr => first | (go_simp; done) | (go_simp; rfl)); (case hp => exact (Reps.none _ _))
   intro v184 w64 ho65 hb hg_ hnew_
   clear hg_ hnew_
   (first | rw [← Ny183.out] at ho65 | (simp only [Int.reduceToNat] at ho65; rw [← Ny183.out] at ho65))
   have n0_ := Aside0.mk (Kd.N_elder' (by (with_reducible repeat (first | apply Kd.N_alloc | apply Kd.N_drewN | apply Kd.N_drew)); exact HO_8.out) (Kd.R_base ho65) hb)
   have n1_ := Aside0.mk (Kd.R_elder' (by (with_reducible repeat (first | apply Kd.R_alloc | apply Kd.R_drewN | apply Kd.R_drew)); exact HO180.out) (Kd.R_base ho65) hb)
   have n2_ := Aside0.mk (Kd.R_elder' (by (with_reducible repeat (first | apply Kd.R_alloc | apply Kd.R_drewN | apply Kd.R_drew)); exact HO191.out) (Kd.R_base ho65) hb)
   have n3_ := Aside0.mk (Kd.R_lower (Kd.R_new' (Kd.R_new' (Kd.R_newM (M := fun k_ => (w.heap.size ≤ k_)) ho65 (below_size (by repeat (first | (with_reducible first | exact HB.out | apply below_alloc | apply pw_below_drewN | apply below_drew1 | refine below_set ?_ GE144.out) | exact HB.out))) (fun k_ h_ => h_)) (Kd.R_lt (by (with_reducible repeat (first | apply Kd.R_alloc | apply Kd.R_drewN | apply Kd.R_drew)); exact HO180.out))) (Kd.R_lt (by (with_reducible repeat (first | apply Kd.R_alloc | apply Kd.R_drewN | apply Kd.R_drew)); exact HO191.out))) (below_size (by repeat (first | (with_reducible first | exact HB.out | apply below_alloc | apply pw_below_drewN | apply below_drew1 | refine below_set ?_ GE144.out) | exact HB.out))))
   have n4_ := Aside0.mk (blk_below (g := gb144) (o := .cells #[.slice aG aD.length aH, .slice (some ad174) aA.length aI, .slice (some ad154) aC.length aJ] 26 (0, 0)) (by (with_reducible repeat (first | refine blk_drewN ?_ _ | refine blk_drew ?_ | refine blk_alloc ?_ _)); exact BK144.out) hb)
   have n5_ := Aside0.mk (below_step (by repeat (first | (with_reducible first | exact HB.out | apply below_alloc | apply pw_below_drewN | apply below_drew1 | refine below_set ?_ GE144.out) | exact HB.out)) hb)
   clear HO_8
   clear HO180
   clear HO191
   clear BK144
   clear HB
   have HO_8 := n0_
   have HO180 := n1_
   have HO191 := n2_
   have HO185 := n3_
   have BK144 := n4_
   have HB := n5_
   clear n0_ n1_ n2_ n3_ n4_ n5_
   clear hb ho65
   refine hK.out _ _ ⟨(blk_cell BK144.out 0).trans rfl, (blk_cell BK144.out 1).trans rfl, (blk_cell BK144.out 2).trans rfl⟩ (fun hHeld => ?_)
   clear hK K
   refine norm_ (a' := ?_) ?_ ?_
   rotate_left
   ·
    show Act.put _ (some 80) _ = _
    simp only [Act.put, List.setIfInBounds_toArray, List.set_cons_zero, List.set_cons_succ, i64_w, i32_w]
    rfl
   refine one_ (i := 4) (N := some 82) #[true, true, true, true, true, true, true, false, true, false, false, false] rfl rfl (one_of HT_.out (by kernel_rfl)) (by decide) (fun K hK => ?_)
   refine Kd.R_append_rows_step (Kd.int .i64) (w0 := w) w.heap.size (by rfl) (.tmp 80) (.tmp 81) 22 3 (.int .i64 0) 8 rfl Try.underlying22 info3 rfl (by decide) (by omega) v184 y183 l1 _ _ _ (fun k_ => (w.heap.size ≤ k_) ∧ some k_ ≠ (.slice (some ⟨go47, 0, none⟩) y178.length co57 : Value).ownBlock ∧ some k_ ≠ (v190 : Value).ownBlock) (fun _ => False) rfl rfl ?aO ?aR (fun _ _ h => h) (fun _ h => h.elim) ?aF ?aB ?aS ?aL ?_
   (case aR => repeat (first | exact (Kd.C_below HR1.out HB.out) | (with_reducible refine Kd.C_alloc ?_ _) | (with_reducible refine Kd.C_drewN ?_ _) | (with_reducible refine Kd.C_drew ?_)))
   (case aB => exact (by repeat (first | (with_reducible first | exact HB.out | apply below_alloc | apply pw_below_drewN | apply below_drew1 | refine below_set ?_ GE144.out) | exact HB.out)))
   (case aF => exact (fun k_ hk => ⟨(Nat.le_trans (below_size (by repeat (first | (with_reducible first | exact HB.out | apply below_alloc | apply pw_below_drewN | apply below_drew1 | refine below_set ?_ GE144.out) | exact HB.out))) hk), Kd.fresh' (Kd.R_lt (by (with_reducible repeat (first | apply Kd.R_alloc | apply Kd.R_drewN | apply Kd.R_drew)); exact HO180.out)) k_ hk, Kd.fresh' (Kd.R_lt (by (with_reducible repeat (first | apply Kd.R_alloc | apply Kd.R_drewN | apply Kd.R_drew)); exact HO191.out)) k_ hk⟩))
   (case aO => exact (by (with_reducible repeat (first | apply Kd.R_alloc | apply Kd.R_drewN | apply Kd.R_drew)); exact Kd.R_mono HO185.out (fun _ hk => ⟨hk.1.1.1, ⟨hk.1.2, hk.2⟩⟩)))
   (case aS => exact (below_size (by repeat (first | (with_reducible first | exact HB.out | apply below_alloc | apply pw_below_drewN | apply below_drew1 | refine below_set ?_ GE144.out) | exact HB.out))))
   (case aL => have := LMc48.out; omega)
   intro v187 w66 ho hb hg hat
   rw [← Ny186.out] at ho
   have n0_ := Aside0.mk (Kd.N_afterv (ok := (fun k_ => (w.heap.size ≤ k_) ∧ some k_ ≠ (.slice (some ⟨go47, 0, none⟩) y178.length co57 : Value).ownBlock ∧ some k_ ≠ (v190 : Value).ownBlock ∧ k_ ≠ gb144)) (by (with_reducible repeat (first | apply Kd.N_alloc | apply Kd.N_drewN | apply Kd.N_drew)); exact Kd.N_mono HO_8.out (fun _ hk => ⟨⟨hk.1.1.1.1, ⟨hk.1.1.2, ⟨hk.1.2, hk.1.1.1.2⟩⟩⟩, hk.2⟩)) hg hat)
   have n1_ := Aside0.mk (blk_grown (g := gb144) (o := .cells #[.slice aG aD.length aH, .slice (some ad174) aA.length aI, .slice (some ad154) aC.length aJ] 26 (0, 0)) (by (with_reducible repeat (first | refine blk_drewN ?_ _ | refine blk_drew ?_ | refine blk_alloc ?_ _)); exact BK144.out) hg (Kd.R_ne HO185.out BK144.out (by decide)))
   have n2_ := Aside0.mk (Kd.R_after (ok := (fun k_ => (w.heap.size ≤ k_) ∧ some k_ ≠ (v190 : Value).ownBlock)) (by (with_reducible repeat (first | apply Kd.R_alloc | apply Kd.R_drewN | apply Kd.R_drew)); exact HO180.out) hg hat)
   have n3_ := Aside0.mk (Kd.R_after (ok := (fun k_ => (w.heap.size ≤ k_) ∧ some k_ ≠ (.slice (some ⟨go47, 0, none⟩) y178.length co57 : Value).ownBlock)) (by (with_reducible repeat (first | apply Kd.R_alloc | apply Kd.R_drewN | apply Kd.R_drew)); exact Kd.R_mono HO191.out (fun _ hk => ⟨⟨hk.1.1.1, hk.1.2⟩, hk.2⟩)) hg hat)
   have n4_ := Aside0.mk (hb)
   have n5_ := Aside0.mk (ho)
   clear HO_8
   clear BK144
   clear HO180
   clear HO191
   clear HB
   clear HO185
   have HO_8 := n0_
   have BK144 := n1_
   have HO180 := n2_
   have HO191 := n3_
   have HB := n4_
   have HO188 := n5_
   clear n0_ n1_ n2_ n3_ n4_ n5_
   clear ho hb hg hat
   refine hK.out _ _ ⟨(blk_cell BK144.out 0).trans rfl, (blk_cell BK144.out 1).trans rfl, (blk_cell BK144.out 2).trans rfl⟩ (fun hHeld => ?_)
   clear hK K
   refine norm_ (a' := ?_) ?_ ?_
   rotate_left
   ·
    show Act.put _ (some 82) _ = _
    simp only [Act.put, List.setIfInBounds_toArray, List.set_cons_zero, List.set_cons_succ, i64_w, i32_w]
    rfl
   exact norm_ (by simp only [putAll, Act.put, List.setIfInBounds_toArray, List.set_cons_zero, List.set_cons_succ]) (hCont (v184, v187, v190) _ ⟨hHeld, (by (with_reducible repeat (first | apply Kd.R_alloc | apply Kd.R_drewN | apply Kd.R_drew)); exact Kd.R_mono HO180.out (fun _ hk => ⟨hk.1.1, ⟨hk.2, hk.1.2⟩⟩)), (by (with_reducible repeat (first | apply Kd.R_alloc | apply Kd.R_drewN | apply Kd.R_drew)); exact HO188.out), (by (with_reducible repeat (first | apply Kd.R_alloc | apply Kd.R_drewN | apply Kd.R_drew)); exact Kd.R_mono HO191.out (fun _ hk => ⟨hk.1.1, ⟨hk.1.2, hk.2⟩⟩)), (by (with_reducible repeat (first | apply Kd.N_alloc | apply Kd.N_drewN | apply Kd.N_drew)); exact Kd.N_mono HO_8.out (fun _ hk => ⟨hk.1.1, ⟨hk.1.2.1, ⟨hk.2, ⟨hk.1.2.2.1, hk.1.2.2.2⟩⟩⟩⟩)), (by (with_reducible repeat (first | refine blk_drewN ?_ _ | refine blk_drew ?_ | refine blk_alloc ?_ _)); exact BK144.out), (by repeat (first | (with_reducible first | exact HB.out | apply below_alloc | apply pw_below_drewN | apply below_drew1 | refine below_set ?_ GE144.out) | exact HB.out))⟩)
  rintro ⟨v184, v187, v190⟩ w67 ⟨hS_, h0_, h1_, h2_, h3_, h4_, h5_⟩
  have n0_ : Aside0 (Kd.R (Kd.int .i64) 3 w67 w.heap.size (fun k_ => (w.heap.size ≤ k_) ∧ some k_ ≠ (v187 : Value).ownBlock ∧ some k_ ≠ (v190 : Value).ownBlock) (.slice (some ⟨go47, 0, none⟩) y178.length co57) y182) := ⟨h0_⟩
  have n1_ : Aside0 (Kd.R (Kd.int .i64) 3 w67 w.heap.size (fun k_ => (w.heap.size ≤ k_) ∧ some k_ ≠ (.slice (some ⟨go47, 0, none⟩) y178.length co57 : Value).ownBlock ∧ some k_ ≠ (v190 : Value).ownBlock) v187 y186) := ⟨h1_⟩
  have n2_ : Aside0 (Kd.R (Kd.int .i64) 3 w67 w.heap.size (fun k_ => (w.heap.size ≤ k_) ∧ some k_ ≠ (.slice (some ⟨go47, 0, none⟩) y178.length co57 : Value).ownBlock ∧ some k_ ≠ (v187 : Value).ownBlock) v190 y189) := ⟨h2_⟩
  have n3_ : Aside0 (Kd.N (Kd.slice 3 (Kd.int .i64)) 22 w67 w.heap.size (fun k_ => (w.heap.size ≤ k_) ∧ some k_ ≠ (.slice (some ⟨go47, 0, none⟩) y178.length co57 : Value).ownBlock ∧ some k_ ≠ (v187 : Value).ownBlock ∧ some k_ ≠ (v190 : Value).ownBlock ∧ k_ ≠ gb144) (.slice Ao60 aQ.length co60) aQ) := ⟨h3_⟩
  have n4_ : Aside0 (w67.heap[gb144]? = some (.cells #[.slice aG aD.length aH, .slice (some ad174) aA.length aI, .slice (some ad154) aC.length aJ] 26 (0, 0))) := ⟨h4_⟩
  have n5_ : Aside0 (Below w.heap.size w w67) := ⟨h5_⟩
  clear HO_8
  clear HO180
  clear BK144
  clear HB
  clear h0_ h1_ h2_ h3_ h4_ h5_
  have HO180 := n0_
  have HO188 := n1_
  have HO191 := n2_
  have HO_8 := n3_
  have BK144 := n4_
  have HB := n5_
  clear n0_ n1_ n2_ n3_ n4_ n5_
  have hHeld : w67.cell? ⟨gb144, 0, none⟩ = some (.slice aG aD.length aH) ∧ w67.cell? ⟨gb144, 1, none⟩ = some (.slice (some ad174) aA.length aI) ∧ w67.cell? ⟨gb144, 2, none⟩ = some (.slice (some ad154) aC.length aJ) := hS_
  obtain ⟨Ao69, co69, eo69⟩ := Kd.R_slice HO191.out
  (first | subst eo69 | (injection eo69 with f1_ f2_ f3_; have f4_ := f1_.symm; have f5_ := f3_.symm; clear f1_ f2_ f3_; subst f4_; subst f5_))
  refine norm_ (a' := ?_) ?_ ?_
  rotate_left
  ·
   simp only [putAll, Act.put, List.setIfInBounds_toArray, List.set_cons_zero, List.set_cons_succ]
   rfl
  refine one_ (i := 7) (N := some 85) #[true, true, true, true, true, true, true, true, true, false, false, false] rfl rfl (one_of HT_.out (by kernel_rfl)) (by decide) (fun K hK => ?_)
  refine Kd.R_append_rows_step (Kd.int .i64) (w0 := w) w.heap.size (by rfl) (.tmp 82) (.tmp 84) 22 3 (.int .i64 0) 8 rfl Try.underlying22 info3 rfl (by decide) (by omega) v187 y186 y189 _ _ _ (fun k_ => (w.heap.size ≤ k_) ∧ some k_ ≠ (.slice (some ⟨go47, 0, none⟩) y178.length co57 : Value).ownBlock ∧ some k_ ≠ (.slice Ao69 y189.length co69 : Value).ownBlock) (fun _ => False) rfl rfl ?aO ?aR (fun _ _ h => h) (fun _ h => h.elim) ?aF ?aB ?aS ?aL ?_
  (case aR => repeat (first | exact (Kd.R_reads' HO191.out).2.2 | (with_reducible refine Kd.C_alloc ?_ _) | (with_reducible refine Kd.C_drewN ?_ _) | (with_reducible refine Kd.C_drew ?_)))
  (case aB => exact (by repeat (first | (with_reducible first | exact HB.out | apply below_alloc | apply pw_below_drewN | apply below_drew1 | refine below_set ?_ GE144.out) | exact HB.out)))
  (case aF => exact (fun k_ hk => ⟨(Nat.le_trans (below_size (by repeat (first | (with_reducible first | exact HB.out | apply below_alloc | apply pw_below_drewN | apply below_drew1 | refine below_set ?_ GE144.out) | exact HB.out))) hk), Kd.fresh' (Kd.R_lt (by (with_reducible repeat (first | apply Kd.R_alloc | apply Kd.R_drewN | apply Kd.R_drew)); exact HO180.out)) k_ hk, Kd.fresh' (Kd.R_lt (by (with_reducible repeat (first | apply Kd.R_alloc | apply Kd.R_drewN | apply Kd.R_drew)); exact HO191.out)) k_ hk⟩))
  (case aO => exact (by (with_reducible repeat (first | apply Kd.R_alloc | apply Kd.R_drewN | apply Kd.R_drew)); exact HO188.out))
  (case aS => exact (below_size (by repeat (first | (with_reducible first | exact HB.out | apply below_alloc | apply pw_below_drewN | apply below_drew1 | refine below_set ?_ GE144.out) | exact HB.out))))
  (case aL => have := LMc49.out; omega)
  intro v193 w68 ho hb hg hat
  rw [← Ny192.out] at ho
  have n0_ := Aside0.mk (Kd.N_afterv (ok := (fun k_ => (w.heap.size ≤ k_) ∧ some k_ ≠ (.slice (some ⟨go47, 0, none⟩) y178.length co57 : Value).ownBlock ∧ some k_ ≠ (.slice Ao69 y189.length co69 : Value).ownBlock ∧ k_ ≠ gb144)) (by (with_reducible repeat (first | apply Kd.N_alloc | apply Kd.N_drewN | apply Kd.N_drew)); exact Kd.N_mono HO_8.out (fun _ hk => ⟨⟨hk.1, ⟨hk.2.1, ⟨hk.2.2.2.1, hk.2.2.2.2⟩⟩⟩, hk.2.2.1⟩)) hg hat)
  have n1_ := Aside0.mk (blk_grown (g := gb144) (o := .cells #[.slice aG aD.length aH, .slice (some ad174) aA.length aI, .slice (some ad154) aC.length aJ] 26 (0, 0)) (by (with_reducible repeat (first | refine blk_drewN ?_ _ | refine blk_drew ?_ | refine blk_alloc ?_ _)); exact BK144.out) hg (Kd.R_ne HO188.out BK144.out (by decide)))
  have n2_ := Aside0.mk (Kd.R_after (ok := (fun k_ => (w.heap.size ≤ k_) ∧ some k_ ≠ (.slice Ao69 y189.length co69 : Value).ownBlock)) (by (with_reducible repeat (first | apply Kd.R_alloc | apply Kd.R_drewN | apply Kd.R_drew)); exact Kd.R_mono HO180.out (fun _ hk => ⟨⟨hk.1, hk.2.2⟩, hk.2.1⟩)) hg hat)
  have n3_ := Aside0.mk (Kd.R_after (ok := (fun k_ => (w.heap.size ≤ k_) ∧ some k_ ≠ (.slice (some ⟨go47, 0, none⟩) y178.length co57 : Value).ownBlock)) (by (with_reducible repeat (first | apply Kd.R_alloc | apply Kd.R_drewN | apply Kd.R_drew)); exact Kd.R_mono HO191.out (fun _ hk => ⟨⟨hk.1, hk.2.1⟩, hk.2.2⟩)) hg hat)
  have n4_ := Aside0.mk (hb)
  have n5_ := Aside0.mk (ho)
  clear HO_8
  clear BK144
  clear HO180
  clear HO191
  clear HB
  clear HO188
  have HO_8 := n0_
  have BK144 := n1_
  have HO180 := n2_
  have HO191 := n3_
  have HB := n4_
  have HO194 := n5_
  clear n0_ n1_ n2_ n3_ n4_ n5_
  clear ho hb hg hat
  obtain ⟨Ao70, co70, eo70⟩ := Kd.R_slice HO194.out
  (first | subst eo70 | (injection eo70 with f1_ f2_ f3_; have f4_ := f1_.symm; have f5_ := f3_.symm; clear f1_ f2_ f3_; subst f4_; subst f5_))
  refine hK.out _ _ ⟨(blk_cell BK144.out 0).trans rfl, (blk_cell BK144.out 1).trans rfl, (blk_cell BK144.out 2).trans rfl⟩ (fun hHeld => ?_)
  clear hK K
  refine norm_ (a' := ?_) ?_ ?_
  rotate_left
  ·
   show Act.put _ (some 85) _ = _
   simp only [Act.put, List.setIfInBounds_toArray, List.set_cons_zero, List.set_cons_succ, i64_w, i32_w]
   rfl
  refine one_ (i := 9) (N := some 87) #[true, true, true, true, true, true, true, true, true, true, false, false] rfl rfl (one_of HT_.out (by kernel_rfl)) (by decide) (fun K hK => ?_)
  refine goes_ Try.func63 (by kernel_rfl) rfl #[.agg #[.slice aG aD.length aH, .slice (some ad174) aA.length aI, .slice (some ad154) aC.length aJ], .slice Ao70 y192.length co70, .slice (some ⟨go47, 0, none⟩) y182.length co57] (by rfl) rfl rfl (by (try simp only [List.map_toArray, List.map_cons, List.map_nil]); first | done | (rw [show y182.length = y178.length from (Kd.R_reads' HO180.out).1.symm] <;> rfl) | rfl | (simp only [List.length_drop, List.length_take]; rfl)) ?_
  with_reducible refine (ih k1 (by have := HK1.out; omega) _ _ aD _ _ aA _ _ aC _ _ y192 _ _ y182 t195 _ ?side1 ?side2 ?side3 ?side4 ?side5 ?side6 ?side7 ?side8 ?side9 ?side10 A50.out).mono ?_
  (case side1 => repeat (first | exact (Kd.C_below bA.out HB.out) | (with_reducible refine Kd.C_alloc ?_ _) | (with_reducible refine Kd.C_drewN ?_ _) | (with_reducible refine Kd.C_drew ?_)))
  (case side2 => exact bK.out)
  (case side3 => repeat (first | exact (Kd.C_below aZ.out HB.out) | (with_reducible refine Kd.C_alloc ?_ _) | (with_reducible refine Kd.C_drewN ?_ _) | (with_reducible refine Kd.C_drew ?_)))
  (case side4 => exact bL.out)
  (case side5 => repeat (first | exact (Kd.C_below aX.out HB.out) | (with_reducible refine Kd.C_alloc ?_ _) | (with_reducible refine Kd.C_drewN ?_ _) | (with_reducible refine Kd.C_drew ?_)))
  (case side6 => exact bM.out)
  (case side7 => repeat (first | exact (Kd.R_reads' HO194.out).2.2 | (with_reducible refine Kd.C_alloc ?_ _) | (with_reducible refine Kd.C_drewN ?_ _) | (with_reducible refine Kd.C_drew ?_)))
  (case side8 => exact (Kd.R_reads' HO194.out).2.1)
  (case side9 => repeat (first | exact (Kd.R_reads' HO180.out).2.2 | (with_reducible refine Kd.C_alloc ?_ _) | (with_reducible refine Kd.C_drewN ?_ _) | (with_reducible refine Kd.C_drew ?_)))
  (case side10 => rw [show y182.length = y178.length from (Kd.R_reads' HO180.out).1.symm]; exact (Kd.R_reads' HO180.out).2.1)
  rintro e w71 ⟨v196, rfl, ho0, hb⟩
  refine ⟨_, rfl, ?_⟩
  have n0_ := Aside0.mk (Kd.N_elder' (by (with_reducible repeat (first | apply Kd.N_alloc | apply Kd.N_drewN | apply Kd.N_drew)); exact HO_8.out) (Kd.N_base ho0) hb)
  have n1_ := Aside0.mk (Kd.R_below (by (with_reducible repeat (first | apply Kd.R_alloc | apply Kd.R_drewN | apply Kd.R_drew)); exact HO180.out) hb)
  have n2_ := Aside0.mk (Kd.R_below (by (with_reducible repeat (first | apply Kd.R_alloc | apply Kd.R_drewN | apply Kd.R_drew)); exact HO191.out) hb)
  have n3_ := Aside0.mk (Kd.R_below (by (with_reducible repeat (first | apply Kd.R_alloc | apply Kd.R_drewN | apply Kd.R_drew)); exact HO194.out) hb)
  have n4_ := Aside0.mk (Kd.N_lower (Kd.N_mono (ok' := fun k_ => (w.heap.size ≤ k_) ∧ some k_ ≠ (.slice Ao60 aQ.length co60 : Value).ownBlock ∧ some k_ ≠ (.slice (some ⟨go47, 0, none⟩) y178.length co57 : Value).ownBlock ∧ some k_ ≠ (.slice Ao69 y189.length co69 : Value).ownBlock ∧ some k_ ≠ (.slice Ao70 y192.length co70 : Value).ownBlock ∧ k_ ≠ gb144) ho0 (fun k_ hk_ => ⟨(Nat.le_trans (below_size (by repeat (first | (with_reducible first | exact HB.out | apply below_alloc | apply pw_below_drewN | apply below_drew1 | refine below_set ?_ GE144.out) | exact HB.out))) hk_), (Kd.fresh' (Kd.N_lt (by (with_reducible repeat (first | apply Kd.N_alloc | apply Kd.N_drewN | apply Kd.N_drew)); exact HO_8.out)) k_ hk_), (Kd.fresh' (Kd.R_lt (by (with_reducible repeat (first | apply Kd.R_alloc | apply Kd.R_drewN | apply Kd.R_drew)); exact HO180.out)) k_ hk_), (Kd.fresh' (Kd.R_lt (by (with_reducible repeat (first | apply Kd.R_alloc | apply Kd.R_drewN | apply Kd.R_drew)); exact HO191.out)) k_ hk_), (Kd.fresh' (Kd.R_lt (by (with_reducible repeat (first | apply Kd.R_alloc | apply Kd.R_drewN | apply Kd.R_drew)); exact HO194.out)) k_ hk_), (Kd.freshB (g := gb144) (o := .cells #[.slice aG aD.length aH, .slice (some ad174) aA.length aI, .slice (some ad154) aC.length aJ] 26 (0, 0)) (by (with_reducible repeat (first | refine blk_drewN ?_ _ | refine blk_drew ?_ | refine blk_alloc ?_ _)); exact BK144.out) k_ hk_)⟩)) (below_size (by repeat (first | (with_reducible first | exact HB.out | apply below_alloc | apply pw_below_drewN | apply below_drew1 | refine below_set ?_ GE144.out) | exact HB.out))))
  have n5_ := Aside0.mk (blk_below (g := gb144) (o := .cells #[.slice aG aD.length aH, .slice (some ad174) aA.length aI, .slice (some ad154) aC.length aJ] 26 (0, 0)) (by (with_reducible repeat (first | refine blk_drewN ?_ _ | refine blk_drew ?_ | refine blk_alloc ?_ _)); exact BK144.out) hb)
  have n6_ := Aside0.mk (below_step (by repeat (first | (with_reducible first | exact HB.out | apply below_alloc | apply pw_below_drewN | apply below_drew1 | refine below_set ?_ GE144.out) | exact HB.out)) hb)
  clear HO_8
  clear HO180
  clear HO191
  clear HO194
  clear BK144
  clear HB
  have HO_8 := n0_
  have HO180 := n1_
  have HO191 := n2_
  have HO194 := n3_
  have HO197 := n4_
  have BK144 := n5_
  have HB := n6_
  clear n0_ n1_ n2_ n3_ n4_ n5_ n6_
  (try clear hb)
  (try clear hb2)
  (try clear hk)
  (try clear hi)
  (try clear ho0)
  obtain ⟨Ao73, co73, eo73⟩ := Kd.N_slice HO197.out
  (first | subst eo73 | (injection eo73 with f1_ f2_ f3_; have f4_ := f1_.symm; have f5_ := f3_.symm; clear f1_ f2_ f3_; subst f4_; subst f5_))
  refine hK.out _ _ ⟨(blk_cell BK144.out 0).trans rfl, (blk_cell BK144.out 1).trans rfl, (blk_cell BK144.out 2).trans rfl⟩ (fun hHeld => ?_)
  clear hK K
  refine norm_ (a' := ?_) ?_ ?_
  rotate_left
  ·
   show Act.put _ (some 87) _ = _
   simp only [Act.put, List.setIfInBounds_toArray, List.set_cons_zero, List.set_cons_succ, i64_w, i32_w]
   rfl
  refine one_ (i := 10) (N := some 88) #[true, true, true, true, true, true, true, true, true, true, true, false] rfl rfl (one_of HT_.out (by kernel_rfl)) (by decide) (fun K hK => ?_)
  refine Kd.N_append_rows_step (Kd.slice 3 (Kd.int .i64)) (w0 := w) w.heap.size (by rfl) (.tmp 78) (.tmp 87) 24 22 (.slice none 0 0) 24 rfl Try.underlying24 info22 rfl (by decide) (by omega) (.slice Ao60 aQ.length co60) aQ t195 _ _ _ (fun k_ => (w.heap.size ≤ k_) ∧ some k_ ≠ (.slice (some ⟨go47, 0, none⟩) y178.length co57 : Value).ownBlock ∧ some k_ ≠ (.slice Ao69 y189.length co69 : Value).ownBlock ∧ some k_ ≠ (.slice Ao70 y192.length co70 : Value).ownBlock ∧ k_ ≠ gb144) (fun k_ => ((fun k_ => (w.heap.size ≤ k_) ∧ some k_ ≠ (.slice (some ⟨go47, 0, none⟩) y178.length co57 : Value).ownBlock ∧ some k_ ≠ (.slice Ao69 y189.length co69 : Value).ownBlock ∧ some k_ ≠ (.slice Ao70 y192.length co70 : Value).ownBlock ∧ k_ ≠ gb144)) k_ ∧ some k_ ≠ (.slice Ao60 aQ.length co60 : Value).ownBlock) rfl rfl ?aO ?aR (fun _ hk => hk) ?aF ?aB ?aS ?aL ?_
  (case aR => exact (by skip; exact Kd.N_F (Kd.N_mono (ok' := (fun k_ => ((fun k_ => (w.heap.size ≤ k_) ∧ some k_ ≠ (.slice (some ⟨go47, 0, none⟩) y178.length co57 : Value).ownBlock ∧ some k_ ≠ (.slice Ao69 y189.length co69 : Value).ownBlock ∧ some k_ ≠ (.slice Ao70 y192.length co70 : Value).ownBlock ∧ k_ ≠ gb144)) k_ ∧ some k_ ≠ (.slice Ao60 aQ.length co60 : Value).ownBlock)) (HO197.out) (fun k_ hk => ⟨⟨hk.1, ⟨hk.2.2.1, ⟨hk.2.2.2.1, ⟨hk.2.2.2.2.1, hk.2.2.2.2.2⟩⟩⟩⟩, hk.2.1⟩))))
  (case aB => exact (by repeat (first | (with_reducible first | exact HB.out | apply below_alloc | apply pw_below_drewN | apply below_drew1 | refine below_set ?_ GE144.out) | exact HB.out)))
  (case aF => exact (fun k_ hk => ⟨(Nat.le_trans (below_size (by repeat (first | (with_reducible first | exact HB.out | apply below_alloc | apply pw_below_drewN | apply below_drew1 | refine below_set ?_ GE144.out) | exact HB.out))) hk), Kd.fresh' (Kd.R_lt (by (with_reducible repeat (first | apply Kd.R_alloc | apply Kd.R_drewN | apply Kd.R_drew)); exact HO180.out)) k_ hk, Kd.fresh' (Kd.R_lt (by (with_reducible repeat (first | apply Kd.R_alloc | apply Kd.R_drewN | apply Kd.R_drew)); exact HO191.out)) k_ hk, Kd.fresh' (Kd.R_lt (by (with_reducible repeat (first | apply Kd.R_alloc | apply Kd.R_drewN | apply Kd.R_drew)); exact HO194.out)) k_ hk, Kd.freshB (g := gb144) (o := .cells #[.slice aG aD.length aH, .slice (some ad174) aA.length aI, .slice (some ad154) aC.length aJ] 26 (0, 0)) (by (with_reducible repeat (first | refine blk_drewN ?_ _ | refine blk_drew ?_ | refine blk_alloc ?_ _)); exact BK144.out) k_ hk⟩))
  (case aO => exact (by (with_reducible repeat (first | apply Kd.N_alloc | apply Kd.N_drewN | apply Kd.N_drew)); exact Kd.N_mono HO_8.out (fun _ hk => ⟨hk.1.1.1, ⟨hk.1.1.2.1, ⟨hk.1.1.2.2.1, ⟨hk.1.2, hk.1.1.2.2.2⟩⟩⟩⟩)))
  (case aS => exact (below_size (by repeat (first | (with_reducible first | exact HB.out | apply below_alloc | apply pw_below_drewN | apply below_drew1 | refine below_set ?_ GE144.out) | exact HB.out))))
  (case aL => have := LMc51.out; omega)
  intro v199 w72 ho hb hg hat
  rw [← Ny198.out] at ho
  have n0_ := Aside0.mk (blk_grown (g := gb144) (o := .cells #[.slice aG aD.length aH, .slice (some ad174) aA.length aI, .slice (some ad154) aC.length aJ] 26 (0, 0)) (by (with_reducible repeat (first | refine blk_drewN ?_ _ | refine blk_drew ?_ | refine blk_alloc ?_ _)); exact BK144.out) hg (Kd.N_ne HO_8.out BK144.out (by decide)))
  have n1_ := Aside0.mk (Kd.R_over' (by (with_reducible repeat (first | apply Kd.R_alloc | apply Kd.R_drewN | apply Kd.R_drew)); exact HO180.out) (Kd.N_typed (by (with_reducible repeat (first | apply Kd.N_alloc | apply Kd.N_drewN | apply Kd.N_drew)); exact HO_8.out)) (by decide) hg)
  have n2_ := Aside0.mk (Kd.R_over' (by (with_reducible repeat (first | apply Kd.R_alloc | apply Kd.R_drewN | apply Kd.R_drew)); exact HO191.out) (Kd.N_typed (by (with_reducible repeat (first | apply Kd.N_alloc | apply Kd.N_drewN | apply Kd.N_drew)); exact HO_8.out)) (by decide) hg)
  have n3_ := Aside0.mk (Kd.R_over' (by (with_reducible repeat (first | apply Kd.R_alloc | apply Kd.R_drewN | apply Kd.R_drew)); exact HO194.out) (Kd.N_typed (by (with_reducible repeat (first | apply Kd.N_alloc | apply Kd.N_drewN | apply Kd.N_drew)); exact HO_8.out)) (by decide) hg)
  have n4_ := Aside0.mk (Kd.N_afterv (ok := (fun k_ => (w.heap.size ≤ k_) ∧ some k_ ≠ (.slice (some ⟨go47, 0, none⟩) y178.length co57 : Value).ownBlock ∧ some k_ ≠ (.slice Ao69 y189.length co69 : Value).ownBlock ∧ some k_ ≠ (.slice Ao70 y192.length co70 : Value).ownBlock ∧ k_ ≠ gb144)) (by (with_reducible repeat (first | apply Kd.N_alloc | apply Kd.N_drewN | apply Kd.N_drew)); exact Kd.N_mono HO197.out (fun _ hk => ⟨⟨hk.1, ⟨hk.2.2.1, ⟨hk.2.2.2.1, ⟨hk.2.2.2.2.1, hk.2.2.2.2.2⟩⟩⟩⟩, hk.2.1⟩)) hg hat)
  have n5_ := Aside0.mk (hb)
  have n6_ := Aside0.mk (ho)
  clear BK144
  clear HO180
  clear HO191
  clear HO194
  clear HO197
  clear HB
  clear HO_8
  have BK144 := n0_
  have HO180 := n1_
  have HO191 := n2_
  have HO194 := n3_
  have HO197 := n4_
  have HB := n5_
  have HO200 := n6_
  clear n0_ n1_ n2_ n3_ n4_ n5_ n6_
  clear ho hb hg hat
  refine hK.out _ _ ⟨(blk_cell BK144.out 0).trans rfl, (blk_cell BK144.out 1).trans rfl, (blk_cell BK144.out 2).trans rfl⟩ (fun hHeld => ?_)
  clear hK K
  refine norm_ (a' := ?_) ?_ ?_
  rotate_left
  ·
   show Act.put _ (some 88) _ = _
   simp only [Act.put, List.setIfInBounds_toArray, List.set_cons_zero, List.set_cons_succ, i64_w, i32_w]
   rfl
  refine pure_ (i := 11) (N := some 8) (v := ?_) (a' := ?_) #[true, true, true, true, true, true, true, true, true, true, true, true] rfl rfl (any_of HT_.out (by kernel_rfl)) (fun _ _ _ h => h) (Or.inl ⟨by rfl, ?_⟩) ?_ ?_
  rotate_left
  ·
   intro w'
   go_simp
   with_reducible rfl
  rotate_left
  ·
   simp only [Act.put, List.setIfInBounds_toArray, List.set_cons_zero, List.set_cons_succ, i64_w, i32_w]
   rfl
  refine done_ (done_of HT_.out (by kernel_rfl)) ?_
  try go_wp2
  go_roundg k1
  case measure => have := HK1.out; omega
  case rel => exact ⟨(y198), (wrap64 (aT + 1)), (by first | rfl | (simp; done) | (simp [*]; done)), H', ⟨by have := HK1.out; omega⟩, ⟨by (with_reducible repeat (first | apply Kd.N_alloc | apply Kd.N_drewN | apply Kd.N_drew)); exact Kd.N_mono HO200.out (fun _ hk => ⟨hk.1, hk.2.2.2.2⟩)⟩, ⟨by (with_reducible repeat (first | refine blk_drewN ?_ _ | refine blk_drew ?_ | refine blk_alloc ?_ _)); exact BK144.out⟩, ⟨by repeat (first | (with_reducible first | exact HB.out | apply below_alloc | apply pw_below_drewN | apply below_drew1 | refine below_set ?_ GE144.out) | exact HB.out)⟩⟩
def laganref04_All.f (k : Nat) (aD : List Int) (aA : List (S50)) (aC : List (List Int)) : Option ((List (List Int))) := if 0 ≤ (aA.length : Int) then (if ((aA.length : Int) : Int).toNat ≤ 35184372088832 then ((laganref04_all.f k aD aA aC ([] : List Int) (List.replicate ((aA.length : Int) : Int).toNat 0)).bind fun t205 => (some t205)) else (none)) else (none)
set_option maxHeartbeats 8000000 in
set_option maxRecDepth 100000 in
theorem laganref04_All.calls (k : Nat) (aG : Option Addr) (aH : Nat) (aD : List Int) (aK : Option Addr) (aI : Nat) (aA : List (S50)) (aM : Option Addr) (aJ : Nat) (aC : List (List Int)) (r : List (List Int)) (w : World) (bC : Kd.C (Kd.int .i64) w aG aD.length aD) (bD : aD.length ≤ aH) (bE : Kd.C k50 w aK aA.length aA) (bF : aA.length ≤ aI) (bG : Kd.C (Kd.slice 3 (Kd.int .i64)) w aM aC.length aC) (bH : aC.length ≤ aJ) (h : laganref04_All.f k aD aA aC = some r) :
  Calls Try.prog 20 #[.agg #[.slice aG aD.length aH, .slice aK aA.length aI, .slice aM aC.length aJ]] w fun e w' => ∃ v0_ : Value, e = .returned (v0_) ∧ Kd.N (Kd.slice 3 (Kd.int .i64)) 22 w' w.heap.size (fun k_ => (w.heap.size ≤ k_)) v0_ r ∧ Below w.heap.size w w' := by
 have hu26 := Try.underlying26
 have bA := Aside0.mk bC
 have bK := Aside0.mk bD
 clear bC bD
 have aZ := Aside0.mk bE
 have bL := Aside0.mk bF
 clear bE bF
 have aX := Aside0.mk bG
 have bM := Aside0.mk bH
 clear bG bH
 have HB := Aside0.mk (Below.refl w.heap.size w)
 have H : (if 0 ≤ (aA.length : Int) then (if ((aA.length : Int) : Int).toNat ≤ 35184372088832 then ((laganref04_all.f k aD aA aC ([] : List Int) (List.replicate ((aA.length : Int) : Int).toNat 0)).bind fun t205 => (some t205)) else (none)) else (none)) = some r := h
 clear h
 by_cases c2 : 0 ≤ (aA.length : Int)
 rotate_left
 ·
  rw [if_neg c2] at H
  exact absurd H (by simp)
 rw [if_pos c2] at H
 have c2b0 := eq_true c2
 have c2b1 : decide (0 ≤ (aA.length : Int)) = true := decide_eq_true c2
 clear c2
 by_cases c3 : ((aA.length : Int) : Int).toNat ≤ 35184372088832
 rotate_left
 ·
  rw [if_neg c3] at H
  exact absurd H (by simp)
 rw [if_pos c3] at H
 have c3b0 := eq_true c3
 have c3b1 : decide (((aA.length : Int) : Int).toNat ≤ 35184372088832) = true := decide_eq_true c3
 clear c3
 obtain ⟨y202, hy202⟩ : ∃ y_ : List Int, y_ = (List.replicate ((aA.length : Int) : Int).toNat 0) := ⟨_, rfl⟩
 replace H : ((laganref04_all.f k aD aA aC ([] : List Int) y202).bind fun t205 => (some t205)) = some r := by first | (rw [hy202]; with_reducible exact H) | (have H2_ := (Option.bind_some _ _).symm.trans H; rw [hy202]; with_reducible exact H2_) | (have H2_ := (Option.bind_some _ _).symm.trans H; with_reducible exact H2_) | with_reducible exact H | (rw [hy202]; exact H) | exact H
 have Ny202 := Aside0.mk hy202
 clear hy202
 replace H := Option.bind_eq_some_iff.mp H
 obtain ⟨t205, A40, H⟩ := H
 replace H : (some t205) = some r := H
 have A4 := Aside0.mk A40
 clear A40
 obtain rfl := Option.some.inj H
 go_enter Try.func20, Try.ntmps20
 try go_wp2_with (first | ((with_reducible refine gate_dst (N := 1) rfl ?_); refine box_event ?hg (N := 1) ?hd (cs := #[.slice aG aD.length aH, .slice aK aA.length aI, .slice aM aC.length aJ]) (t := 26) ?hr ?_; (case hd => rfl); (case hg => rfl); (case hr => first | (go_simp; done) | (go_simp; rfl)); intro gb201 hg w5 hbox hb; have n0_ := Aside0.mk (below_step (by repeat (first | (with_reducible first | exact HB.out | apply below_alloc | apply pw_below_drewN | apply below_drew1) | exact HB.out)) hb); have n1_ := Aside0.mk (hbox); have n2_ := Aside0.mk ((by rw [hg]; exact (below_size (by repeat (first | (with_reducible first | exact HB.out | apply below_alloc | apply pw_below_drewN | apply below_drew1) | exact HB.out))) : w.heap.size ≤ gb201)); have n3_ := Aside0.mk ((by rw [hg]; exact (below_size (by repeat (first | (with_reducible first | exact HB.out | apply below_alloc | apply pw_below_drewN | apply below_drew1) | exact HB.out))) : w.heap.size ≤ gb201)); clear HB; have HB := n0_; have BK201 := n1_; have GW201 := n2_; have GE201 := n3_; clear n0_ n1_ n2_ n3_; clear hb hbox hg))
 have n0_ := Aside0.mk (blk_drew BK201.out)
 have n1_ := Aside0.mk (below_drew1 HB.out)
 clear BK201
 clear HB
 have BK201 := n0_
 have HB := n1_
 clear n0_ n1_
 refine start_ (n := 7) (S := fun w' => w'.cell? ⟨gb201, 0, none⟩ = some (.slice aG aD.length aH) ∧ w'.cell? ⟨gb201, 1, none⟩ = some (.slice aK aA.length aI) ∧ w'.cell? ⟨gb201, 2, none⟩ = some (.slice aM aC.length aJ)) (ds := []) #[false, false, false, false, false, false, false] (by kernel_rfl) rfl rfl ⟨(blk_cell BK201.out 0).trans rfl, (blk_cell BK201.out 1).trans rfl, (blk_cell BK201.out 2).trans rfl⟩ (fun hHeld => ?_)
 generalize w5.drew = w6 at BK201 HB hHeld ⊢
 refine pure_ (i := 1) (N := some 4) (v := ?_) (a' := ?_) #[false, true, false, false, false, false, false] rfl rfl (by kernel_rfl) (fun _ _ _ h => h) (Or.inl ⟨by rfl, ?_⟩) ?_ ?_
 rotate_left
 ·
  intro w'
  go_simp
  with_reducible rfl
 rotate_left
 ·
  simp only [Act.put, List.setIfInBounds_toArray, List.set_cons_zero, List.set_cons_succ, i64_w, i32_w]
  rfl
 refine take_ (i := 0) (N := some 3) (v := ?_) (a' := ?_) #[true, true, false, false, false, false, false] rfl rfl (by kernel_rfl) (fun _ _ _ h => h) (Or.inl ⟨by rfl, ?_⟩) hHeld ?_ ?_
 rotate_left
 ·
  rintro w' ⟨s0, s1, s2⟩
  go_simp
  with_reducible rfl
 rotate_left
 ·
  simp only [Act.put, List.setIfInBounds_toArray, List.set_cons_zero, List.set_cons_succ, i64_w, i32_w]
  rfl
 refine take_ (i := 2) (N := some 5) (v := ?_) (a' := ?_) #[true, true, true, false, false, false, false] rfl rfl (by kernel_rfl) (fun _ _ _ h => h) (Or.inl ⟨by rfl, ?_⟩) hHeld ?_ ?_
 rotate_left
 ·
  rintro w' ⟨s0, s1, s2⟩
  go_simp
  with_reducible rfl
 rotate_left
 ·
  simp only [Act.put, List.setIfInBounds_toArray, List.set_cons_zero, List.set_cons_succ, i64_w, i32_w]
  rfl
 refine pure_ (i := 3) (N := some 6) (v := ?_) (a' := ?_) #[true, true, true, true, false, false, false] rfl rfl (by kernel_rfl) (fun _ _ _ h => h) (Or.inl ⟨by rfl, ?_⟩) ?_ ?_
 rotate_left
 ·
  intro w'
  go_simp
  with_reducible rfl
 rotate_left
 ·
  simp only [Act.put, List.setIfInBounds_toArray, List.set_cons_zero, List.set_cons_succ, i64_w, i32_w]
  rfl
 refine one_ (i := 4) (N := some 7) #[true, true, true, true, true, false, false] rfl rfl (by kernel_rfl) (by decide) (fun K hK => ?_)
 refine Kd.R_make_step (Kd.int .i64) _ 3 (by rfl) (N := 7) rfl 22 _ _ rfl (aA.length : Int) rfl rfl Try.underlying22 (.int .i64 0) 8 info3 rfl (by decide) (by omega) 0 (ok := fun _ => True) (okp := fun _ => True) rfl (fun _ hk => hk) trivial (of_decide_eq_true (by assumption)) (Nat.le_trans (Nat.mul_le_mul_right _ (of_decide_eq_true (by assumption) : (aA.length : Int).toNat ≤ 35184372088832)) (by omega)) (Below.refl _ _) (Nat.le_refl _) ?_
 intro v203 w7 ho8 hb hg_ hnew_
 clear hg_ hnew_
 (first | rw [← Ny202.out] at ho8 | (simp only [Int.reduceToNat] at ho8; rw [← Ny202.out] at ho8))
 have n0_ := Aside0.mk (Kd.R_lower (Kd.R_newM (M := fun k_ => (w.heap.size ≤ k_)) ho8 (below_size (by repeat (first | (with_reducible first | exact HB.out | apply below_alloc | apply pw_below_drewN | apply below_drew1 | refine below_set ?_ GE201.out) | exact HB.out))) (fun k_ h_ => h_)) (below_size (by repeat (first | (with_reducible first | exact HB.out | apply below_alloc | apply pw_below_drewN | apply below_drew1 | refine below_set ?_ GE201.out) | exact HB.out))))
 have n1_ := Aside0.mk (blk_below (g := gb201) (o := .cells #[.slice aG aD.length aH, .slice aK aA.length aI, .slice aM aC.length aJ] 26 (0, 0)) (by (with_reducible repeat (first | refine blk_drewN ?_ _ | refine blk_drew ?_ | refine blk_alloc ?_ _)); exact BK201.out) hb)
 have n2_ := Aside0.mk (below_step (by repeat (first | (with_reducible first | exact HB.out | apply below_alloc | apply pw_below_drewN | apply below_drew1 | refine below_set ?_ GE201.out) | exact HB.out)) hb)
 clear BK201
 clear HB
 have HO204 := n0_
 have BK201 := n1_
 have HB := n2_
 clear n0_ n1_ n2_
 clear hb ho8
 obtain ⟨Ao9, co9, eo9⟩ := Kd.R_slice HO204.out
 (first | subst eo9 | (injection eo9 with f1_ f2_ f3_; have f4_ := f1_.symm; have f5_ := f3_.symm; clear f1_ f2_ f3_; subst f4_; subst f5_))
 refine hK.out _ _ ⟨(blk_cell BK201.out 0).trans rfl, (blk_cell BK201.out 1).trans rfl, (blk_cell BK201.out 2).trans rfl⟩ (fun hHeld => ?_)
 clear hK K
 refine norm_ (a' := ?_) ?_ ?_
 rotate_left
 ·
  show Act.put _ (some 7) _ = _
  simp only [Act.put, List.setIfInBounds_toArray, List.set_cons_zero, List.set_cons_succ, i64_w, i32_w]
  rfl
 refine one_ (i := 5) (N := some 8) #[true, true, true, true, true, true, false] rfl rfl (by kernel_rfl) (by decide) (fun K hK => ?_)
 refine goes_ Try.func63 (by kernel_rfl) rfl #[.agg #[.slice aG aD.length aH, .slice aK aA.length aI, .slice aM aC.length aJ], .slice none 0 0, .slice Ao9 y202.length co9] (by rfl) rfl rfl (by (try simp only [List.map_toArray, List.map_cons, List.map_nil]); first | done | rfl | (simp only [List.length_drop, List.length_take]; rfl)) ?_
 refine (laganref04_all.calls k _ _ aD _ _ aA _ _ aC _ _ ([] : List Int) _ _ y202 t205 _ ?side1 ?side2 ?side3 ?side4 ?side5 ?side6 ?side7 ?side8 ?side9 ?side10 A4.out).mono ?_
 (case side1 => repeat (first | exact (Kd.C_below bA.out HB.out) | (with_reducible refine Kd.C_alloc ?_ _) | (with_reducible refine Kd.C_drewN ?_ _) | (with_reducible refine Kd.C_drew ?_)))
 (case side2 => exact bK.out)
 (case side3 => repeat (first | exact (Kd.C_below aZ.out HB.out) | (with_reducible refine Kd.C_alloc ?_ _) | (with_reducible refine Kd.C_drewN ?_ _) | (with_reducible refine Kd.C_drew ?_)))
 (case side4 => exact bL.out)
 (case side5 => repeat (first | exact (Kd.C_below aX.out HB.out) | (with_reducible refine Kd.C_alloc ?_ _) | (with_reducible refine Kd.C_drewN ?_ _) | (with_reducible refine Kd.C_drew ?_)))
 (case side6 => exact bM.out)
 (case side7 => exact Kd.C_nil _ _)
 (case side8 => exact Nat.le_refl _)
 (case side9 => repeat (first | exact (Kd.R_reads' HO204.out).2.2 | (with_reducible refine Kd.C_alloc ?_ _) | (with_reducible refine Kd.C_drewN ?_ _) | (with_reducible refine Kd.C_drew ?_)))
 (case side10 => exact (Kd.R_reads' HO204.out).2.1)
 rintro e w10 ⟨v206, rfl, ho0, hb⟩
 refine ⟨_, rfl, ?_⟩
 have n0_ := Aside0.mk (Kd.R_below (by (with_reducible repeat (first | apply Kd.R_alloc | apply Kd.R_drewN | apply Kd.R_drew)); exact HO204.out) hb)
 have n1_ := Aside0.mk (Kd.N_lower (Kd.N_mono (ok' := fun k_ => (w.heap.size ≤ k_) ∧ some k_ ≠ (.slice Ao9 y202.length co9 : Value).ownBlock ∧ k_ ≠ gb201) ho0 (fun k_ hk_ => ⟨(Nat.le_trans (below_size (by repeat (first | (with_reducible first | exact HB.out | apply below_alloc | apply pw_below_drewN | apply below_drew1 | refine below_set ?_ GE201.out) | exact HB.out))) hk_), (Kd.fresh' (Kd.R_lt (by (with_reducible repeat (first | apply Kd.R_alloc | apply Kd.R_drewN | apply Kd.R_drew)); exact HO204.out)) k_ hk_), (Kd.freshB (g := gb201) (o := .cells #[.slice aG aD.length aH, .slice aK aA.length aI, .slice aM aC.length aJ] 26 (0, 0)) (by (with_reducible repeat (first | refine blk_drewN ?_ _ | refine blk_drew ?_ | refine blk_alloc ?_ _)); exact BK201.out) k_ hk_)⟩)) (below_size (by repeat (first | (with_reducible first | exact HB.out | apply below_alloc | apply pw_below_drewN | apply below_drew1 | refine below_set ?_ GE201.out) | exact HB.out))))
 have n2_ := Aside0.mk (blk_below (g := gb201) (o := .cells #[.slice aG aD.length aH, .slice aK aA.length aI, .slice aM aC.length aJ] 26 (0, 0)) (by (with_reducible repeat (first | refine blk_drewN ?_ _ | refine blk_drew ?_ | refine blk_alloc ?_ _)); exact BK201.out) hb)
 have n3_ := Aside0.mk (below_step (by repeat (first | (with_reducible first | exact HB.out | apply below_alloc | apply pw_below_drewN | apply below_drew1 | refine below_set ?_ GE201.out) | exact HB.out)) hb)
 clear HO204
 clear BK201
 clear HB
 have HO204 := n0_
 have HO207 := n1_
 have BK201 := n2_
 have HB := n3_
 clear n0_ n1_ n2_ n3_
 (try clear hb)
 (try clear hb2)
 (try clear hk)
 (try clear hi)
 (try clear ho0)
 refine hK.out _ _ ⟨(blk_cell BK201.out 0).trans rfl, (blk_cell BK201.out 1).trans rfl, (blk_cell BK201.out 2).trans rfl⟩ (fun hHeld => ?_)
 clear hK K
 refine norm_ (a' := ?_) ?_ ?_
 rotate_left
 ·
  show Act.put _ (some 8) _ = _
  simp only [Act.put, List.setIfInBounds_toArray, List.set_cons_zero, List.set_cons_succ, i64_w, i32_w]
  rfl
 refine pure_ (i := 6) (N := some 2) (v := ?_) (a' := ?_) #[true, true, true, true, true, true, true] rfl rfl (by kernel_rfl) (fun _ _ _ h => h) (Or.inl ⟨by rfl, ?_⟩) ?_ ?_
 rotate_left
 ·
  intro w'
  go_simp
  with_reducible rfl
 rotate_left
 ·
  simp only [Act.put, List.setIfInBounds_toArray, List.set_cons_zero, List.set_cons_succ, i64_w, i32_w]
  rfl
 refine done_ (by kernel_rfl) ?_
 try go_wp2
 go_ret
 exact ⟨_, by first | rfl | (simp [errW_none, errW_some] <;> rfl) | (simp [*, errW_none, errW_some] <;> rfl), by (with_reducible repeat (first | apply Kd.N_alloc | apply Kd.N_drewN | apply Kd.N_drew)); exact Kd.N_mono HO207.out (fun _ hk => hk.1), by repeat (first | (with_reducible first | exact HB.out | apply below_alloc | apply pw_below_drewN | apply below_drew1 | refine below_set ?_ GE201.out) | exact HB.out)⟩
mutual
def laganref04_Chances.l0 : Nat → List (List Int) → List (List Int) → Int → List Int → List (S50) → List (List Int) → Option ((List (List Int)))
 | 0, _, _, _, _, _, _ => none
 | k + 1, x1, x5, x6, x209000, x209001, x209002 => if x6 < (x209000.length : Int) then (laganref04_Chances.l1 k x1 x5 x6 0 x209000 x209001 x209002) else (some x5)
def laganref04_Chances.l1 : Nat → List (List Int) → List (List Int) → Int → Int → List Int → List (S50) → List (List Int) → Option ((List (List Int)))
 | 0, _, _, _, _, _, _, _ => none
 | k + 1, x1, x5, x6, x7, x209000, x209001, x209002 => if x7 < (x209001.length : Int) then (laganref04_Chances.l2 k x1 x5 x6 x7 false 0 x209000 x209001 x209002) else (laganref04_Chances.l0 k x1 x5 (wrap64 (x6 + 1)) x209000 x209001 x209002)
def laganref04_Chances.l2 : Nat → List (List Int) → List (List Int) → Int → Int → Bool → Int → List Int → List (S50) → List (List Int) → Option ((List (List Int)))
 | 0, _, _, _, _, _, _, _, _, _ => none
 | k + 1, x1, x5, x6, x7, x8, x9, x209000, x209001, x209002 => if x9 < (x1.length : Int) then (if x8 = true then (laganref04_Chances.l2 k x1 x5 x6 x7 true (wrap64 (x9 + 1)) x209000 x209001 x209002) else (if 0 ≤ x9 then (if 0 ≤ x6 then (if x6 < ((rd_L1 x1 x9).length : Int) then (laganref04_Chances.l2 k x1 x5 x6 x7 ((rd (rd_L1 x1 x9) x6) == x7) (wrap64 (x9 + 1)) x209000 x209001 x209002) else (none)) else (none)) else (none))) else (if x8 = true then (if 0 ≤ x6 then (if x6 < (x5.length : Int) then (if (rd_L1 x5 x6).length < 17592186044416 then (laganref04_Chances.l1 k x1 (x5.set (x6 : Int).toNat ((rd_L1 x5 x6) ++ [x7])) x6 (wrap64 (x7 + 1)) x209000 x209001 x209002) else (none)) else (none)) else (none)) else (laganref04_Chances.l1 k x1 x5 x6 (wrap64 (x7 + 1)) x209000 x209001 x209002))
end
def laganref04_Chances.f (k : Nat) (aD : List Int) (aA : List (S50)) (aC : List (List Int)) (l1 : List (List Int)) : Option ((List (List Int))) := if 0 ≤ (aD.length : Int) then (if ((aD.length : Int) : Int).toNat ≤ 11728124029610 then (laganref04_Chances.l0 k l1 (List.replicate ((aD.length : Int) : Int).toNat []) 0 aD aA aC) else (none)) else (none)
set_option maxHeartbeats 8000000 in
set_option maxRecDepth 100000 in
theorem laganref04_Chances.calls (k : Nat) (aG : Option Addr) (aH : Nat) (aD : List Int) (aK : Option Addr) (aI : Nat) (aA : List (S50)) (aM : Option Addr) (aJ : Nat) (aC : List (List Int)) (A1 : Option Addr) (c1 : Nat) (l1 : List (List Int)) (r : List (List Int)) (w : World) (bC : Kd.C (Kd.int .i64) w aG aD.length aD) (bD : aD.length ≤ aH) (bE : Kd.C k50 w aK aA.length aA) (bF : aA.length ≤ aI) (bG : Kd.C (Kd.slice 3 (Kd.int .i64)) w aM aC.length aC) (bH : aC.length ≤ aJ) (hr1 : Kd.C (Kd.slice 3 (Kd.int .i64)) w A1 l1.length l1) (hc1 : l1.length ≤ c1) (h : laganref04_Chances.f k aD aA aC l1 = some r) :
  Calls Try.prog 21 #[.agg #[.slice aG aD.length aH, .slice aK aA.length aI, .slice aM aC.length aJ], .slice A1 l1.length c1] w fun e w' => ∃ v0_ : Value, e = .returned (v0_) ∧ Kd.S (Kd.slice 3 (Kd.int .i64)) 22 w' w.heap.size (fun _ => True) v0_ r ∧ Below w.heap.size w w' := by
 have hu26 := Try.underlying26
 have bA := Aside0.mk bC
 have bK := Aside0.mk bD
 clear bC bD
 have aZ := Aside0.mk bE
 have bL := Aside0.mk bF
 clear bE bF
 have aX := Aside0.mk bG
 have bM := Aside0.mk bH
 clear bG bH
 have HR1 := Aside0.mk hr1
 have HC1 := Aside0.mk hc1
 clear hr1 hc1
 have HB := Aside0.mk (Below.refl w.heap.size w)
 have H : (if 0 ≤ (aD.length : Int) then (if ((aD.length : Int) : Int).toNat ≤ 11728124029610 then (laganref04_Chances.l0 k l1 (List.replicate ((aD.length : Int) : Int).toNat []) 0 aD aA aC) else (none)) else (none)) = some r := h
 clear h
 by_cases c3 : 0 ≤ (aD.length : Int)
 rotate_left
 ·
  rw [if_neg c3] at H
  exact absurd H (by simp)
 rw [if_pos c3] at H
 have c3b0 := eq_true c3
 have c3b1 : decide (0 ≤ (aD.length : Int)) = true := decide_eq_true c3
 clear c3
 by_cases c4 : ((aD.length : Int) : Int).toNat ≤ 11728124029610
 rotate_left
 ·
  rw [if_neg c4] at H
  exact absurd H (by simp)
 rw [if_pos c4] at H
 have c4b0 := eq_true c4
 have c4b1 : decide (((aD.length : Int) : Int).toNat ≤ 11728124029610) = true := decide_eq_true c4
 clear c4
 obtain ⟨y209, hy209⟩ : ∃ y_ : List (List Int), y_ = (List.replicate ((aD.length : Int) : Int).toNat []) := ⟨_, rfl⟩
 replace H : (laganref04_Chances.l0 k l1 y209 0 aD aA aC) = some r := by first | (rw [hy209]; with_reducible exact H) | (have H2_ := (Option.bind_some _ _).symm.trans H; rw [hy209]; with_reducible exact H2_) | (have H2_ := (Option.bind_some _ _).symm.trans H; with_reducible exact H2_) | with_reducible exact H | (rw [hy209]; exact H) | exact H
 have Ny209 := Aside0.mk hy209
 clear hy209
 have H' := Aside0.mk H
 clear H
 go_enter Try.func21, Try.ntmps21
 go_wp2_with (first | ((with_reducible refine gate_dst (N := 2) rfl ?_); refine box_event ?hg (N := 2) ?hd (cs := #[.slice aG aD.length aH, .slice aK aA.length aI, .slice aM aC.length aJ]) (t := 26) ?hr ?_; (case hd => rfl); (case hg => rfl); (case hr => first | (go_simp; done) | (go_simp; rfl)); intro gb208 hg w5 hbox hb; have n0_ := Aside0.mk (below_step (by repeat (first | (with_reducible first | exact HB.out | apply below_alloc | apply pw_below_drewN | apply below_drew1) | exact HB.out)) hb); have n1_ := Aside0.mk (hbox); have n2_ := Aside0.mk ((by rw [hg]; exact (below_size (by repeat (first | (with_reducible first | exact HB.out | apply below_alloc | apply pw_below_drewN | apply below_drew1) | exact HB.out))) : w.heap.size ≤ gb208)); have n3_ := Aside0.mk ((by rw [hg]; exact (below_size (by repeat (first | (with_reducible first | exact HB.out | apply below_alloc | apply pw_below_drewN | apply below_drew1) | exact HB.out))) : w.heap.size ≤ gb208)); clear HB; have HB := n0_; have BK208 := n1_; have GW208 := n2_; have GE208 := n3_; clear n0_ n1_ n2_ n3_; clear hb hbox hg; have dM : w5.cell? ⟨gb208, 0, none⟩ = some (.slice aG aD.length aH) := (blk_cell BK208.out 0).trans rfl; have dN : w5.cell? ⟨gb208, 1, none⟩ = some (.slice aK aA.length aI) := (blk_cell BK208.out 1).trans rfl; have dO : w5.cell? ⟨gb208, 2, none⟩ = some (.slice aM aC.length aJ) := (blk_cell BK208.out 2).trans rfl; have dP := blk_frozen BK208.out 0; have dQ := blk_frozen BK208.out 1; have dR := blk_frozen BK208.out 2) | ((with_reducible refine gate_dst (N := 13) rfl ?_); refine Kd.S_make (Kd.slice 3 (Kd.int .i64)) _ 22 rfl (N := 13) rfl 24 _ _ rfl (aD.length : Int) rfl rfl Try.underlying24 (.slice none 0 0) 24 info22 rfl (by decide) (by omega) [] (ok := fun _ => True) (okp := fun _ => True) ⟨_, rfl, Kd.R_nil _ _ _ _ _⟩ (fun _ hk => hk) trivial (of_decide_eq_true (by assumption)) (Nat.le_trans (Nat.mul_le_mul_right _ (of_decide_eq_true (by assumption) : (aD.length : Int).toNat ≤ 11728124029610)) (by omega)) (Below.refl _ _) (Nat.le_refl _) ?_; intro v210 w7 ho8 hb hg_ hnew_; clear hg_ hnew_; (first | rw [← Ny209.out] at ho8 | (simp only [Int.reduceToNat] at ho8; rw [← Ny209.out] at ho8)); have n0_ := Aside0.mk (Kd.S_lower ho8 (below_size (by repeat (first | (with_reducible first | exact HB.out | apply below_alloc | apply pw_below_drewN | apply below_drew1 | refine below_set ?_ GE208.out) | exact HB.out)))); have n1_ := Aside0.mk (blk_below (g := gb208) (o := .cells #[.slice aG aD.length aH, .slice aK aA.length aI, .slice aM aC.length aJ] 26 (0, 0)) (by (with_reducible repeat (first | refine blk_drewN ?_ _ | refine blk_drew ?_ | refine blk_alloc ?_ _)); exact BK208.out) hb); have n2_ := Aside0.mk (below_step (by repeat (first | (with_reducible first | exact HB.out | apply below_alloc | apply pw_below_drewN | apply below_drew1 | refine below_set ?_ GE208.out) | exact HB.out)) hb); clear BK208; clear HB; have HO211 := n0_; have BK208 := n1_; have HB := n2_; clear n0_ n1_ n2_; clear hb ho8))
 go_loopg [6] k (fun kq v6 w' => ∃ (aN : List (List Int)) (aE : Int), v6 = .int .i64 aE ∧ Aside0 (laganref04_Chances.l0 kq l1 aN aE aD aA aC = some r) ∧ Aside0 (kq ≤ k) ∧ Aside0 (Kd.S (Kd.slice 3 (Kd.int .i64)) 22 w' w.heap.size (fun _ => True) v210 aN) ∧ Aside0 (w'.heap[gb208]? = some (.cells #[(.slice aG aD.length aH), (.slice aK aA.length aI), (.slice aM aC.length aJ)] 26 (0, 0))) ∧ Aside0 (Below w.heap.size w w'))
 case atStart => exact ⟨(y209), (0), (by first | rfl | (simp; done) | (simp [*]; done)), H', ⟨Nat.le_refl _⟩, ⟨by (with_reducible repeat (first | apply Kd.S_alloc | apply Kd.S_drewN | apply Kd.S_drew)); exact HO211.out⟩, ⟨by (with_reducible repeat (first | refine blk_drewN ?_ _ | refine blk_drew ?_ | refine blk_alloc ?_ _)); exact BK208.out⟩, ⟨by repeat (first | (with_reducible first | exact HB.out | apply below_alloc | apply pw_below_drewN | apply below_drew1 | refine below_set ?_ GE208.out) | exact HB.out)⟩⟩
 clear H'
 try clear dM
 try clear dN
 try clear dO
 try clear dP
 try clear dQ
 try clear dR
 obtain ⟨aN, aE, rfl, HA, HK1, HO_5, BK208, HB⟩ := hrel
 cases gk with
 | zero => exact absurd HA.out (by simp [laganref04_Chances.l0])
 | succ k1 =>
  have H := HA.out
  clear HA
  simp only [laganref04_Chances.l0] at H
  by_cases c9 : aE < (aD.length : Int)
  rotate_left
  ·
   rw [if_neg c9] at H
   have c9b0 : decide (aE < (aD.length : Int)) = false := decide_eq_false c9
   clear c9
   obtain rfl := Option.some.inj H
   have qV : wr.cell? ⟨gb208, 0, none⟩ = some (.slice aG aD.length aH) := (blk_cell BK208.out 0).trans rfl
   have qW : wr.cell? ⟨gb208, 1, none⟩ = some (.slice aK aA.length aI) := (blk_cell BK208.out 1).trans rfl
   have qX : wr.cell? ⟨gb208, 2, none⟩ = some (.slice aM aC.length aJ) := (blk_cell BK208.out 2).trans rfl
   have qY := blk_frozen BK208.out 0
   have qZ := blk_frozen BK208.out 1
   have rA := blk_frozen BK208.out 2
   go_wp2
   go_ret
   exact ⟨_, by first | rfl | (simp [errW_none, errW_some] <;> rfl) | (simp [*, errW_none, errW_some] <;> rfl), by (with_reducible repeat (first | apply Kd.S_alloc | apply Kd.S_drewN | apply Kd.S_drew)); exact HO_5.out, by repeat (first | (with_reducible first | exact HB.out | apply below_alloc | apply pw_below_drewN | apply below_drew1 | refine below_set ?_ GE208.out) | exact HB.out)⟩
  rw [if_pos c9] at H
  have c9b0 : decide (aE < (aD.length : Int)) = true := decide_eq_true c9
  clear c9
  have H' := Aside0.mk H
  clear H
  have nO : wr.cell? ⟨gb208, 0, none⟩ = some (.slice aG aD.length aH) := (blk_cell BK208.out 0).trans rfl
  have nP : wr.cell? ⟨gb208, 1, none⟩ = some (.slice aK aA.length aI) := (blk_cell BK208.out 1).trans rfl
  have nQ : wr.cell? ⟨gb208, 2, none⟩ = some (.slice aM aC.length aJ) := (blk_cell BK208.out 2).trans rfl
  have nR := blk_frozen BK208.out 0
  have nS := blk_frozen BK208.out 1
  have nT := blk_frozen BK208.out 2
  go_wp2
  go_loopg [7] k1 (fun kq v7 w' => ∃ (bJ : List (List Int)) (bO : Int), v7 = .int .i64 bO ∧ Aside0 (laganref04_Chances.l1 kq l1 bJ aE bO aD aA aC = some r) ∧ Aside0 (kq ≤ k1) ∧ Aside0 (Kd.S (Kd.slice 3 (Kd.int .i64)) 22 w' w.heap.size (fun _ => True) v210 bJ) ∧ Aside0 (w'.heap[gb208]? = some (.cells #[(.slice aG aD.length aH), (.slice aK aA.length aI), (.slice aM aC.length aJ)] 26 (0, 0))) ∧ Aside0 (Below w.heap.size w w'))
  case atStart => exact ⟨(aN), (0), (by first | rfl | (simp; done) | (simp [*]; done)), H', ⟨Nat.le_refl _⟩, ⟨by (with_reducible repeat (first | apply Kd.S_alloc | apply Kd.S_drewN | apply Kd.S_drew)); exact HO_5.out⟩, ⟨by (with_reducible repeat (first | refine blk_drewN ?_ _ | refine blk_drew ?_ | refine blk_alloc ?_ _)); exact BK208.out⟩, ⟨by repeat (first | (with_reducible first | exact HB.out | apply below_alloc | apply pw_below_drewN | apply below_drew1 | refine below_set ?_ GE208.out) | exact HB.out)⟩⟩
  clear H'
  try clear nO
  try clear nP
  try clear nQ
  try clear dM
  try clear dN
  try clear dO
  try clear nR
  try clear nS
  try clear nT
  try clear dP
  try clear dQ
  try clear dR
  obtain ⟨bJ, bO, rfl, HA, HK2, HO_5, BK208, HB⟩ := hrel
  cases gk with
  | zero => exact absurd HA.out (by simp [laganref04_Chances.l1])
  | succ k2 =>
   have H := HA.out
   clear HA
   simp only [laganref04_Chances.l1] at H
   by_cases c11 : bO < (aA.length : Int)
   rotate_left
   ·
    rw [if_neg c11] at H
    have c11b0 : decide (bO < (aA.length : Int)) = false := decide_eq_false c11
    clear c11
    have H' := Aside0.mk H
    clear H
    have fV : wr.cell? ⟨gb208, 0, none⟩ = some (.slice aG aD.length aH) := (blk_cell BK208.out 0).trans rfl
    have fW : wr.cell? ⟨gb208, 1, none⟩ = some (.slice aK aA.length aI) := (blk_cell BK208.out 1).trans rfl
    have fX : wr.cell? ⟨gb208, 2, none⟩ = some (.slice aM aC.length aJ) := (blk_cell BK208.out 2).trans rfl
    have fY := blk_frozen BK208.out 0
    have fZ := blk_frozen BK208.out 1
    have gA := blk_frozen BK208.out 2
    go_wp2
    go_roundg k2
    case measure => have := HK1.out; have := HK2.out; omega
    case rel => exact ⟨(bJ), (wrap64 (aE + 1)), (by first | rfl | (simp; done) | (simp [*]; done)), H', ⟨by have := HK1.out; have := HK2.out; omega⟩, ⟨by (with_reducible repeat (first | apply Kd.S_alloc | apply Kd.S_drewN | apply Kd.S_drew)); exact HO_5.out⟩, ⟨by (with_reducible repeat (first | refine blk_drewN ?_ _ | refine blk_drew ?_ | refine blk_alloc ?_ _)); exact BK208.out⟩, ⟨by repeat (first | (with_reducible first | exact HB.out | apply below_alloc | apply pw_below_drewN | apply below_drew1 | refine below_set ?_ GE208.out) | exact HB.out)⟩⟩
   rw [if_pos c11] at H
   have c11b0 : decide (bO < (aA.length : Int)) = true := decide_eq_true c11
   clear c11
   have H' := Aside0.mk H
   clear H
   have kS : wr.cell? ⟨gb208, 0, none⟩ = some (.slice aG aD.length aH) := (blk_cell BK208.out 0).trans rfl
   have kT : wr.cell? ⟨gb208, 1, none⟩ = some (.slice aK aA.length aI) := (blk_cell BK208.out 1).trans rfl
   have kU : wr.cell? ⟨gb208, 2, none⟩ = some (.slice aM aC.length aJ) := (blk_cell BK208.out 2).trans rfl
   have kV := blk_frozen BK208.out 0
   have kW := blk_frozen BK208.out 1
   have kX := blk_frozen BK208.out 2
   go_wp2
   go_loopg [8, 9] k2 (fun kq v8 v9 w' => ∃ (iI : Bool) (bV : Int), v8 = .bool iI ∧ v9 = .int .i64 bV ∧ Aside0 (laganref04_Chances.l2 kq l1 bJ aE bO iI bV aD aA aC = some r) ∧ Aside0 (kq ≤ k2) ∧ Aside0 (Kd.S (Kd.slice 3 (Kd.int .i64)) 22 w' w.heap.size (fun _ => True) v210 bJ) ∧ Aside0 (w'.heap[gb208]? = some (.cells #[(.slice aG aD.length aH), (.slice aK aA.length aI), (.slice aM aC.length aJ)] 26 (0, 0))) ∧ Aside0 (Below w.heap.size w w'))
   case atStart => exact ⟨(false), (0), (by first | rfl | (simp; done) | (simp [*]; done)), (by first | rfl | (simp; done) | (simp [*]; done)), H', ⟨Nat.le_refl _⟩, ⟨by (with_reducible repeat (first | apply Kd.S_alloc | apply Kd.S_drewN | apply Kd.S_drew)); exact HO_5.out⟩, ⟨by (with_reducible repeat (first | refine blk_drewN ?_ _ | refine blk_drew ?_ | refine blk_alloc ?_ _)); exact BK208.out⟩, ⟨by repeat (first | (with_reducible first | exact HB.out | apply below_alloc | apply pw_below_drewN | apply below_drew1 | refine below_set ?_ GE208.out) | exact HB.out)⟩⟩
   clear H'
   try clear nO
   try clear nP
   try clear nQ
   try clear kS
   try clear kT
   try clear kU
   try clear dM
   try clear dN
   try clear dO
   try clear nR
   try clear nS
   try clear nT
   try clear kV
   try clear kW
   try clear kX
   try clear dP
   try clear dQ
   try clear dR
   obtain ⟨iI, bV, rfl, rfl, HA, HK3, HO_5, BK208, HB⟩ := hrel
   cases gk with
   | zero => exact absurd HA.out (by simp [laganref04_Chances.l2])
   | succ k3 =>
    have H := HA.out
    clear HA
    simp only [laganref04_Chances.l2] at H
    by_cases c13 : bV < (l1.length : Int)
    ·
     rw [if_pos c13] at H
     have c13b0 : decide (bV < (l1.length : Int)) = true := decide_eq_true c13
     clear c13
     by_cases c14 : iI = true
     ·
      subst c14
      have H1 : (laganref04_Chances.l2 k3 l1 bJ aE bO true (wrap64 (bV + 1)) aD aA aC) = some r := by rw [if_pos rfl] at H; exact H
      clear H
      have H := H1
      clear H1
      have H' := Aside0.mk H
      clear H
      go_wp2
      go_roundg k3
      case measure => have := HK1.out; have := HK2.out; have := HK3.out; omega
      case rel => exact ⟨(true), (wrap64 (bV + 1)), (by first | rfl | (simp; done) | (simp [*]; done)), (by first | rfl | (simp; done) | (simp [*]; done)), H', ⟨by have := HK1.out; have := HK2.out; have := HK3.out; omega⟩, ⟨by (with_reducible repeat (first | apply Kd.S_alloc | apply Kd.S_drewN | apply Kd.S_drew)); exact HO_5.out⟩, ⟨by (with_reducible repeat (first | refine blk_drewN ?_ _ | refine blk_drew ?_ | refine blk_alloc ?_ _)); exact BK208.out⟩, ⟨by repeat (first | (with_reducible first | exact HB.out | apply below_alloc | apply pw_below_drewN | apply below_drew1 | refine below_set ?_ GE208.out) | exact HB.out)⟩⟩
     replace c14 := Bool.eq_false_iff.mpr c14
     subst c14
     have H1 : (if 0 ≤ bV then (if 0 ≤ aE then (if aE < ((rd_L1 l1 bV).length : Int) then (laganref04_Chances.l2 k3 l1 bJ aE bO ((rd (rd_L1 l1 bV) aE) == bO) (wrap64 (bV + 1)) aD aA aC) else (none)) else (none)) else (none)) = some r := by rw [if_neg (show ¬ (false = true) by decide)] at H; exact H
     clear H
     have H := H1
     clear H1
     by_cases c15 : 0 ≤ bV
     rotate_left
     ·
      rw [if_neg c15] at H
      exact absurd H (by simp)
     rw [if_pos c15] at H
     have c15b0 : decide (0 ≤ bV) = true := decide_eq_true c15
     clear c15
     by_cases c16 : 0 ≤ aE
     rotate_left
     ·
      rw [if_neg c16] at H
      exact absurd H (by simp)
     rw [if_pos c16] at H
     have c16b0 : decide (0 ≤ aE) = true := decide_eq_true c16
     clear c16
     by_cases c17 : aE < ((rd_L1 l1 bV).length : Int)
     rotate_left
     ·
      rw [if_neg c17] at H
      exact absurd H (by simp)
     rw [if_pos c17] at H
     have c17b0 : decide (aE < ((rd_L1 l1 bV).length : Int)) = true := decide_eq_true c17
     clear c17
     have H' := Aside0.mk H
     clear H
     have p212 : 0 ≤ (bV : Int) := of_decide_eq_true (by assumption)
     have q212 : bV < (l1.length : Int) := of_decide_eq_true (by assumption)
     obtain ⟨ad212, A212_0, c212_0, e212, lL, nU, nV⟩ := at_L1 HR1.out bV p212 q212
     cases e212
     replace lL := (HB.out.cell (World.block_lt_of_cell? w _ lL)).trans lL
     have sP := Aside0.mk nV
     have HC212_0 := Aside0.mk nU
     clear nV nU
     replace p212 := eq_true p212
     replace q212 := eq_true q212
     have p213 : 0 ≤ (aE : Int) := of_decide_eq_true (by assumption)
     have q213 : aE < ((rd_L1 l1 bV).length : Int) := of_decide_eq_true (by assumption)
     obtain ⟨ad213, e213, lM⟩ := Kd.at_int sP.out aE p213 q213
     cases e213
     replace lM := (HB.out.cell (World.block_lt_of_cell? w _ lM)).trans lM
     replace p213 := eq_true p213
     replace q213 := eq_true q213
     go_wp2
     go_roundg k3
     case measure => have := HK1.out; have := HK2.out; have := HK3.out; omega
     case rel => exact ⟨(((rd (rd_L1 l1 bV) aE) == bO)), (wrap64 (bV + 1)), (by first | rfl | (simp; done) | (simp [*]; done)), (by first | rfl | (simp; done) | (simp [*]; done)), H', ⟨by have := HK1.out; have := HK2.out; have := HK3.out; omega⟩, ⟨by (with_reducible repeat (first | apply Kd.S_alloc | apply Kd.S_drewN | apply Kd.S_drew)); exact HO_5.out⟩, ⟨by (with_reducible repeat (first | refine blk_drewN ?_ _ | refine blk_drew ?_ | refine blk_alloc ?_ _)); exact BK208.out⟩, ⟨by repeat (first | (with_reducible first | exact HB.out | apply below_alloc | apply pw_below_drewN | apply below_drew1 | refine below_set ?_ GE208.out) | exact HB.out)⟩⟩
    rw [if_neg c13] at H
    have c13b0 : decide (bV < (l1.length : Int)) = false := decide_eq_false c13
    clear c13
    by_cases c18 : iI = true
    rotate_left
    ·
     replace c18 := Bool.eq_false_iff.mpr c18
     subst c18
     have H1 : (laganref04_Chances.l1 k3 l1 bJ aE (wrap64 (bO + 1)) aD aA aC) = some r := by rw [if_neg (show ¬ (false = true) by decide)] at H; exact H
     clear H
     have H := H1
     clear H1
     have H' := Aside0.mk H
     clear H
     go_wp2
     go_roundg k3
     case measure => have := HK1.out; have := HK2.out; have := HK3.out; omega
     case rel => exact ⟨(bJ), (wrap64 (bO + 1)), (by first | rfl | (simp; done) | (simp [*]; done)), H', ⟨by have := HK1.out; have := HK2.out; have := HK3.out; omega⟩, ⟨by (with_reducible repeat (first | apply Kd.S_alloc | apply Kd.S_drewN | apply Kd.S_drew)); exact HO_5.out⟩, ⟨by (with_reducible repeat (first | refine blk_drewN ?_ _ | refine blk_drew ?_ | refine blk_alloc ?_ _)); exact BK208.out⟩, ⟨by repeat (first | (with_reducible first | exact HB.out | apply below_alloc | apply pw_below_drewN | apply below_drew1 | refine below_set ?_ GE208.out) | exact HB.out)⟩⟩
    subst c18
    have H1 : (if 0 ≤ aE then (if aE < (bJ.length : Int) then (if (rd_L1 bJ aE).length < 17592186044416 then (laganref04_Chances.l1 k3 l1 (bJ.set (aE : Int).toNat ((rd_L1 bJ aE) ++ [bO])) aE (wrap64 (bO + 1)) aD aA aC) else (none)) else (none)) else (none)) = some r := by rw [if_pos rfl] at H; exact H
    clear H
    have H := H1
    clear H1
    by_cases c19 : 0 ≤ aE
    rotate_left
    ·
     rw [if_neg c19] at H
     exact absurd H (by simp)
    rw [if_pos c19] at H
    have c19b0 : decide (0 ≤ aE) = true := decide_eq_true c19
    clear c19
    by_cases c20 : aE < (bJ.length : Int)
    rotate_left
    ·
     rw [if_neg c20] at H
     exact absurd H (by simp)
    rw [if_pos c20] at H
    have c20b0 : decide (aE < (bJ.length : Int)) = true := decide_eq_true c20
    clear c20
    by_cases c21 : (rd_L1 bJ aE).length < 17592186044416
    rotate_left
    ·
     rw [if_neg c21] at H
     exact absurd H (by simp)
    rw [if_pos c21] at H
    have LMc21 := Aside0.mk c21
    clear c21
    obtain ⟨y215, hy215⟩ : ∃ y_ : List Int, y_ = ((rd_L1 bJ aE) ++ [bO]) := ⟨_, rfl⟩
    replace H : (laganref04_Chances.l1 k3 l1 (bJ.set (aE : Int).toNat y215) aE (wrap64 (bO + 1)) aD aA aC) = some r := by first | (rw [hy215]; with_reducible exact H) | (have H2_ := (Option.bind_some _ _).symm.trans H; rw [hy215]; with_reducible exact H2_) | (have H2_ := (Option.bind_some _ _).symm.trans H; with_reducible exact H2_) | with_reducible exact H | (rw [hy215]; exact H) | exact H
    have Ny215 := Aside0.mk hy215
    clear hy215
    obtain ⟨y218, hy218⟩ : ∃ y_ : List (List Int), y_ = (bJ.set (aE : Int).toNat y215) := ⟨_, rfl⟩
    replace H : (laganref04_Chances.l1 k3 l1 y218 aE (wrap64 (bO + 1)) aD aA aC) = some r := by first | (rw [hy218]; with_reducible exact H) | (have H2_ := (Option.bind_some _ _).symm.trans H; rw [hy218]; with_reducible exact H2_) | (have H2_ := (Option.bind_some _ _).symm.trans H; with_reducible exact H2_) | with_reducible exact H | (rw [hy218]; exact H) | exact H
    have Ny218 := Aside0.mk hy218
    clear hy218
    have H' := Aside0.mk H
    clear H
    obtain ⟨Ao23, co23, eo23⟩ := Kd.S_slice HO_5.out
    subst eo23
    have p214 : 0 ≤ (aE : Int) := of_decide_eq_true (by assumption)
    have q214 : aE < (bJ.length : Int) := of_decide_eq_true (by assumption)
    obtain ⟨ad214, nW, nX, e214, lN, nY, nZ⟩ := at_L1 (Kd.S_reads' HO_5.out).2.2 aE p214 q214
    cases e214
    obtain ⟨ce214, hce214, hMe214, hcc214⟩ := Kd.S_get HO_5.out [] aE p214 (by first | exact q214 | exact of_decide_eq_true (by assumption) | (have e_ := (Kd.S_reads' HO_5.out).1; omega))
    obtain ⟨ve214_0, rfl, lO⟩ := hMe214
    have iJ := hcc214 0 _ rfl
    rw [Nat.add_zero, show ((Kd.slice 3 (Kd.int .i64))).sz = 1 from rfl, Nat.mul_one] at iJ
    replace iJ := Option.some.inj (iJ.symm.trans lN)
    rw [iJ] at lO
    have oA := Aside0.mk (show Kd.R (Kd.int .i64) 3 _ _ _ _ (rd_L1 bJ aE) from lO)
    clear iJ lO
    have sQ := Aside0.mk lN
    clear hcc214 hce214
    have HR214_0 := Aside0.mk nZ
    have HC214_0 := Aside0.mk nY
    clear nZ nY
    replace p214 := eq_true p214
    replace q214 := eq_true q214
    obtain ⟨go24, co24, eo24, gb24, gl24, cl24, HG24⟩ := Kd.S_form HO_5.out (by have h_ : (aE : Int) < ((bJ.length : Int) : Int) := of_decide_eq_true (by assumption); have h2_ : 0 ≤ (aE : Int) := (of_decide_eq_true (by assumption)); omega)
    (first | cases eo24 | (injection eo24 with ea_ en_ ec_; (first | subst ea_ | (injection ea_ with ea_; subst ea_)); subst ec_; clear en_))
    have GB24 := Aside0.mk gb24
    have GG24 := Aside0.mk HG24
    clear gb24 gl24 HG24
    (first | simp only [add_plain] at lN | skip)
    obtain ⟨oki24, ce24, hcl24, hM24, hcc24, _, _, hH24⟩ := Kd.S_elem HO_5.out [] (aE : Int) (of_decide_eq_true (by assumption)) (by have h_ : (aE : Int) < ((bJ.length : Int) : Int) := of_decide_eq_true (by assumption); first | exact h_ | (have e_ := (Kd.S_reads' HO_5.out).1; omega) | simpa using h_)
    obtain ⟨ve24_0, rfl, oB⟩ := hM24
    have hv24 := hcc24 0 _ rfl
    have hX24 := sQ.out
    (try simp only [add_plain] at hX24)
    (try simp only [Nat.add_zero] at hv24)
    (try rw [show ((Kd.slice 3 (Kd.int .i64))).sz = 1 from rfl, Nat.mul_one] at hv24)
    replace hv24 := Option.some.inj (hv24.symm.trans hX24)
    subst hv24
    clear hX24 hcc24 hcl24
    have UU24 := Aside0.mk (show Kd.R (Kd.int .i64) 3 _ w.heap.size oki24 (.slice nW (rd_L1 bJ aE).length nX) (rd_L1 bJ aE) from oB)
    have HH24 := Aside0.mk hH24
    have HN24 := Aside0.mk (Kd.S_reads' HO_5.out).1
    clear hH24 oB
    go_wp2_with (first | ((with_reducible refine gate_builtin (b := .append) (xs := #[.tmp 52, .tmp 54]) rfl ?_); at_builtin; refine Kd.R_append (Kd.int .i64) (w0 := w) w.heap.size rfl (.tmp 52) (.tmp 54) 22 3 (.int .i64 0) 8 rfl Try.underlying22 info3 rfl (by decide) (by omega) (.slice nW (rd_L1 bJ aE).length nX) (rd_L1 bJ aE) bO [.int .i64 bO] (fun k_ => oki24 k_ ∨ ((fun _ => True)) k_ ∧ wr.heap.size ≤ k_) (fun _ => False) rfl rfl ?aP (fun _ hk => hk.elim) ?aF ?aO ?aB ?aS ?aL ?_; (case aP => exact rfl); (case aB => exact (by repeat (first | (with_reducible first | exact HB.out | apply below_alloc | apply pw_below_drewN | apply below_drew1 | refine below_set ?_ GE208.out) | exact HB.out))); (case aF => exact (fun k_ hk => .inr ⟨trivial, hk⟩)); (case aO => exact (by (with_reducible repeat (first | apply Kd.R_alloc | apply Kd.R_drewN | apply Kd.R_drew)); exact Kd.R_mono UU24.out (fun _ hk => .inl hk))); (case aS => exact (below_size (by repeat (first | (with_reducible first | exact HB.out | apply below_alloc | apply pw_below_drewN | apply below_drew1 | refine below_set ?_ GE208.out) | exact HB.out)))); (case aL => have := LMc21.out; omega); intro v216 w25 ho hb hg hat; rw [← Ny215.out] at ho; have n0_ := Aside0.mk (blk_grown (g := gb208) (o := .cells #[.slice aG aD.length aH, .slice aK aA.length aI, .slice aM aC.length aJ] 26 (0, 0)) (by (with_reducible repeat (first | refine blk_drewN ?_ _ | refine blk_drew ?_ | refine blk_alloc ?_ _)); exact BK208.out) hg (Kd.R_ne oA.out BK208.out (by decide))); have n1_ := Aside0.mk (hb); have n2_ := Aside0.mk (Kd.H_grown (Kd.H_widen (by repeat (first | exact HH24.out | refine Kd.H_alloc ?_ _ | refine Kd.H_drewN ?_ _ | refine Kd.H_drew ?_))) hg (fun k_ e_ => .inl (UU24.out.1 k_ e_))); have n3_ := Aside0.mk (ho); clear BK208; clear HB; clear HH24; clear HO_5; clear UU24; clear oA; have BK208 := n0_; have HB := n1_; have HH24 := n2_; have HO217 := n3_; clear n0_ n1_ n2_ n3_; clear ho hb hg hat; have p22 : 0 ≤ (aE : Int) := of_decide_eq_true (by assumption); have q22 : (aE : Int) < ((bJ.length : Int) : Int) := of_decide_eq_true (by assumption); replace p22 := eq_true p22; replace q22 := eq_true q22; obtain ⟨Ao28, co28, eo28⟩ := Kd.R_slice HO217.out; subst eo28; obtain ⟨_, _, hraw26, _, _, hcc26, _⟩ := Kd.H_raw HH24.out (of_decide_eq_true (by assumption)) (by have h_ : (aE : Int) < ((bJ.length : Int) : Int) := of_decide_eq_true (by assumption); first | exact h_ | (have e_ := (HN24.out); omega) | simpa using h_); obtain ⟨_, hfr26⟩ := Kd.H_at HH24.out (of_decide_eq_true (by assumption)) (by have h_ : (aE : Int) < ((bJ.length : Int) : Int) := of_decide_eq_true (by assumption); first | exact h_ | (have e_ := (HN24.out); omega) | simpa using h_); have oC := hcc26 0 _ rfl; have oD := hfr26 0; (try simp only [Nat.add_zero] at oC oD); (try rw [show ((Kd.slice 3 (Kd.int .i64))).sz = 1 from rfl, Nat.mul_one] at oC); (try rw [show ((Kd.slice 3 (Kd.int .i64))).sz = 1 from rfl, Nat.mul_one] at oD); have HP26 := Kd.S_seg0 HH24.out (of_decide_eq_true (by assumption)) (by have h_ : (aE : Int) < ((bJ.length : Int) : Int) := of_decide_eq_true (by assumption); first | exact h_ | (have e_ := (HN24.out); omega) | simpa using h_) (seg := [.slice Ao28 y215.length co28]) (j := 0) (show 1 ≤ 1 from by decide) (x' := y215) (Kd.M_row HO217.out) (fun _ hk => hk); (try simp only [show ((Kd.slice 3 (Kd.int .i64))).sz = 1 from rfl, Nat.mul_one, Nat.add_zero] at HP26); clear hcc26 hfr26) | ((with_reducible refine gate_store (t := 22) (p := 56) rfl ?_); refine store_event (t := 22) (p := 56) (v := ?vo_w27) (w1 := (w25.setCell ⟨go24, (aE : Int).toNat, none⟩ (.slice Ao28 y215.length co28))) ?hg ?ho ?hn ?hr ?_; (case ho => rfl); (case hg => rfl); (case hn => rfl); (case hr => first | (go_simp; done) | (go_simp; rfl)); intro w27 hw; have hg : w25.grownBy w27 (some go24) := (by rw [hw]; exact HP26.2); have hp_ : Kd.S (Kd.slice 3 (Kd.int .i64)) 22 w27 w.heap.size (fun _ => True) (.slice (some ⟨go24, 0, none⟩) bJ.length co23) y218 := (by rw [hw, Ny218.out]; exact HP26.1); clear HP26; have n0_ := Aside0.mk (blk_grown (g := gb208) (o := .cells #[.slice aG aD.length aH, .slice aK aA.length aI, .slice aM aC.length aJ] 26 (0, 0)) (by (with_reducible repeat (first | refine blk_drewN ?_ _ | refine blk_drew ?_ | refine blk_alloc ?_ _)); exact BK208.out) hg (Kd.R_ne hraw26 BK208.out (by decide))); have n1_ := Aside0.mk ((by rw [hw]; exact below_set HB.out GB24.out : Below w.heap.size w w27)); have n2_ := Aside0.mk (hp_); clear BK208; clear HB; clear HO217; clear HH24; have BK208 := n0_; have HB := n1_; have HO_5 := n2_; clear n0_ n1_ n2_; clear hg hw hp_ hraw26))
    go_roundg k3
    case measure => have := HK1.out; have := HK2.out; have := HK3.out; omega
    case rel => exact ⟨(y218), (wrap64 (bO + 1)), (by first | rfl | (simp; done) | (simp [*]; done)), H', ⟨by have := HK1.out; have := HK2.out; have := HK3.out; omega⟩, ⟨by (with_reducible repeat (first | apply Kd.S_alloc | apply Kd.S_drewN | apply Kd.S_drew)); exact HO_5.out⟩, ⟨by (with_reducible repeat (first | refine blk_drewN ?_ _ | refine blk_drew ?_ | refine blk_alloc ?_ _)); exact BK208.out⟩, ⟨by repeat (first | (with_reducible first | exact HB.out | apply below_alloc | apply pw_below_drewN | apply below_drew1 | refine below_set ?_ GE208.out) | exact HB.out)⟩⟩
end Go.Proofs.Ytkmmihadcbfkoaa.PM
end

section
namespace Go.Proofs.Ytkmmihadcbfkoaa.PM
open Go.RowKit Go.Proofs.YtkmmihadcbfkoaaW.PrintWords Go.Proofs.YtkmmihadcbfkoaaW.PrintLast Go.Proofs.YtkmmihadcbfkoaaW.PrintMore
set_option linter.unusedVariables false
set_option linter.unusedSimpArgs false
mutual
def laganlaw04_few.j0 : Nat → Bool → List Int → List (S50) → List (List Int) → Option (Bool)
 | 0, _, _, _, _ => none
 | k + 1, x19, x102000, x102001, x102002 => if x19 = true then (some false) else (laganlaw04_few.l0 k 0 x102000 x102001 x102002)
def laganlaw04_few.l0 : Nat → Int → List Int → List (S50) → List (List Int) → Option (Bool)
 | 0, _, _, _, _ => none
 | k + 1, x3, x102000, x102001, x102002 => if x3 < (x102002.length : Int) then (if 0 ≤ x3 then (if ((rd_L1 x102002 x3).length : Int) > 5 then (some false) else (laganlaw04_few.l0 k (wrap64 (x3 + 1)) x102000 x102001 x102002)) else (none)) else (if (x102000.length : Int) ≤ 6 then (if (x102001.length : Int) ≤ 12 then (some true) else (if (x102000.length : Int) > 60 then (some true) else (some (decide ((x102001.length : Int) > 200))))) else (if (x102000.length : Int) > 60 then (some true) else (some (decide ((x102001.length : Int) > 200)))))
end
def laganlaw04_few.f (k : Nat) (aD : List Int) (aA : List (S50)) (aC : List (List Int)) : Option (Bool) := if (aD.length : Int) > 70 then (laganlaw04_few.j0 k true aD aA aC) else (if (aA.length : Int) > 210 then (laganlaw04_few.j0 k true aD aA aC) else (laganlaw04_few.j0 k (decide ((aC.length : Int) > 70)) aD aA aC))
set_option maxHeartbeats 8000000 in
set_option maxRecDepth 100000 in
theorem laganlaw04_few.calls (k : Nat) (aG : Option Addr) (aH : Nat) (aD : List Int) (aK : Option Addr) (aI : Nat) (aA : List (S50)) (aM : Option Addr) (aJ : Nat) (aC : List (List Int)) (r : Bool) (w : World) (bC : Kd.C (Kd.int .i64) w aG aD.length aD) (bD : aD.length ≤ aH) (bE : Kd.C k50 w aK aA.length aA) (bF : aA.length ≤ aI) (bG : Kd.C (Kd.slice 3 (Kd.int .i64)) w aM aC.length aC) (bH : aC.length ≤ aJ) (h : laganlaw04_few.f k aD aA aC = some r) :
  Calls Try.prog 13 #[.agg #[.slice aG aD.length aH, .slice aK aA.length aI, .slice aM aC.length aJ]] w fun e w' => e = .returned (.bool r) ∧ Below w.heap.size w w' := by
 have hu26 := Try.underlying26
 have bA := Aside0.mk bC
 have bK := Aside0.mk bD
 clear bC bD
 have aZ := Aside0.mk bE
 have bL := Aside0.mk bF
 clear bE bF
 have aX := Aside0.mk bG
 have bM := Aside0.mk bH
 clear bG bH
 have HB := Aside0.mk (Below.refl w.heap.size w)
 have H : (if (aD.length : Int) > 70 then (laganlaw04_few.j0 k true aD aA aC) else (if (aA.length : Int) > 210 then (laganlaw04_few.j0 k true aD aA aC) else (laganlaw04_few.j0 k (decide ((aC.length : Int) > 70)) aD aA aC))) = some r := h
 clear h
 have HC2 := Aside0.mk H
 clear H
 go_enter Try.func13, Try.ntmps13
 go_upto_region 1 with (first | ((with_reducible refine gate_dst (N := 1) rfl ?_); (try (refine gate_guard (by rfl) ?_; dsimp only)); refine box_event ?hg (N := 1) ?hd (cs := #[.slice aG aD.length aH, .slice aK aA.length aI, .slice aM aC.length aJ]) (t := 26) ?hr ?_; (case hd => rfl); (case hg => rfl); (case hr => first | (go_simp; done) | (go_simp; rfl)); intro gb101 hg w3 hbox hb; have n0_ := Aside0.mk (below_step (by repeat (first | (with_reducible first | exact HB.out | apply below_alloc | apply pw_below_drewN | apply below_drew1) | exact HB.out)) hb); have n1_ := Aside0.mk (hbox); have n2_ := Aside0.mk ((by rw [hg]; exact (below_size (by repeat (first | (with_reducible first | exact HB.out | apply below_alloc | apply pw_below_drewN | apply below_drew1) | exact HB.out))) : w.heap.size ≤ gb101)); have n3_ := Aside0.mk ((by rw [hg]; exact (below_size (by repeat (first | (with_reducible first | exact HB.out | apply below_alloc | apply pw_below_drewN | apply below_drew1) | exact HB.out))) : w.heap.size ≤ gb101)); clear HB; have HB := n0_; have BK101 := n1_; have GW101 := n2_; have GE101 := n3_; clear n0_ n1_ n2_ n3_; clear hb hbox hg))
 (try simp only [Act.put, List.setIfInBounds_toArray, List.set_cons_zero, List.set_cons_succ])
 go_cut [19] (fun v19 wc => ∃ (kq : Nat) (jX : Bool), v19 = .bool jX ∧ Aside0 (laganlaw04_few.j0 kq jX aD aA aC = some r) ∧ Aside0 (kq ≤ k) ∧ Aside0 (wc.heap[gb101]? = some (.cells #[(.slice aG aD.length aH), (.slice aK aA.length aI), (.slice aM aC.length aJ)] 26 (0, 0))) ∧ Aside0 (Below w.heap.size w wc))
 case first =>
  have H := HC2.out
  clear HC2
  by_cases c4 : (aD.length : Int) > 70
  ·
   rw [if_pos c4] at H
   have c4b0 : decide (70 < (aD.length : Int)) = true := decide_eq_true c4
   have c4b1 : decide (70 < aD.length) = true := decide_eq_true (by omega)
   clear c4
   (first | rw [c4b0] | (simp only [i64_w, i32_w]; rw [c4b0]) | skip)
   have H' := Aside0.mk H
   clear H
   have dG : w3.cell? ⟨gb101, 0, none⟩ = some (.slice aG aD.length aH) := (blk_cell BK101.out 0).trans rfl
   have dH : w3.cell? ⟨gb101, 1, none⟩ = some (.slice aK aA.length aI) := (blk_cell BK101.out 1).trans rfl
   have dI : w3.cell? ⟨gb101, 2, none⟩ = some (.slice aM aC.length aJ) := (blk_cell BK101.out 2).trans rfl
   have dJ := blk_frozen BK101.out 0
   have dK := blk_frozen BK101.out 1
   have dL := blk_frozen BK101.out 2
   go_wp2
   go_meet
   case rel => exact ⟨_, (true), (by first | rfl | (simp; done) | (simp [*]; done)), H', ⟨by first | omega | exact Nat.le_refl _⟩, ⟨by (with_reducible repeat (first | refine blk_drewN ?_ _ | refine blk_drew ?_ | refine blk_alloc ?_ _)); exact BK101.out⟩, ⟨by repeat (first | (with_reducible first | exact HB.out | apply below_alloc | apply pw_below_drewN | apply below_drew1 | refine below_set ?_ GE101.out) | exact HB.out)⟩⟩
  rw [if_neg c4] at H
  have c4b0 : decide (70 < (aD.length : Int)) = false := decide_eq_false c4
  have c4b1 : decide (70 < aD.length) = false := decide_eq_false (by omega)
  clear c4
  (first | rw [c4b0] | (simp only [i64_w, i32_w]; rw [c4b0]) | skip)
  by_cases c6 : (aA.length : Int) > 210
  ·
   rw [if_pos c6] at H
   have c6b0 : decide (210 < (aA.length : Int)) = true := decide_eq_true c6
   have c6b1 : decide (210 < aA.length) = true := decide_eq_true (by omega)
   clear c6
   have H' := Aside0.mk H
   clear H
   have eL : w3.cell? ⟨gb101, 0, none⟩ = some (.slice aG aD.length aH) := (blk_cell BK101.out 0).trans rfl
   have eM : w3.cell? ⟨gb101, 1, none⟩ = some (.slice aK aA.length aI) := (blk_cell BK101.out 1).trans rfl
   have eN : w3.cell? ⟨gb101, 2, none⟩ = some (.slice aM aC.length aJ) := (blk_cell BK101.out 2).trans rfl
   have eO := blk_frozen BK101.out 0
   have eP := blk_frozen BK101.out 1
   have eQ := blk_frozen BK101.out 2
   go_wp2
   go_meet
   case rel => exact ⟨_, (true), (by first | rfl | (simp; done) | (simp [*]; done)), H', ⟨by first | omega | exact Nat.le_refl _⟩, ⟨by (with_reducible repeat (first | refine blk_drewN ?_ _ | refine blk_drew ?_ | refine blk_alloc ?_ _)); exact BK101.out⟩, ⟨by repeat (first | (with_reducible first | exact HB.out | apply below_alloc | apply pw_below_drewN | apply below_drew1 | refine below_set ?_ GE101.out) | exact HB.out)⟩⟩
  rw [if_neg c6] at H
  have c6b0 : decide (210 < (aA.length : Int)) = false := decide_eq_false c6
  have c6b1 : decide (210 < aA.length) = false := decide_eq_false (by omega)
  clear c6
  have H' := Aside0.mk H
  clear H
  have kM : w3.cell? ⟨gb101, 0, none⟩ = some (.slice aG aD.length aH) := (blk_cell BK101.out 0).trans rfl
  have kN : w3.cell? ⟨gb101, 1, none⟩ = some (.slice aK aA.length aI) := (blk_cell BK101.out 1).trans rfl
  have kO : w3.cell? ⟨gb101, 2, none⟩ = some (.slice aM aC.length aJ) := (blk_cell BK101.out 2).trans rfl
  have kP := blk_frozen BK101.out 0
  have kQ := blk_frozen BK101.out 1
  have kR := blk_frozen BK101.out 2
  go_wp2
  go_meet
  case rel => exact ⟨_, (decide ((aC.length : Int) > 70)), (by first | rfl | (simp; done) | (simp [*]; done)), H', ⟨by first | omega | exact Nat.le_refl _⟩, ⟨by (with_reducible repeat (first | refine blk_drewN ?_ _ | refine blk_drew ?_ | refine blk_alloc ?_ _)); exact BK101.out⟩, ⟨by repeat (first | (with_reducible first | exact HB.out | apply below_alloc | apply pw_below_drewN | apply below_drew1 | refine below_set ?_ GE101.out) | exact HB.out)⟩⟩
 case rest =>
  clear HC2
  try clear dG
  try clear dH
  try clear dI
  try clear eL
  try clear eM
  try clear eN
  try clear kM
  try clear kN
  try clear kO
  try clear dJ
  try clear dK
  try clear dL
  try clear eO
  try clear eP
  try clear eQ
  try clear kP
  try clear kQ
  try clear kR
  obtain ⟨kq, jX, rfl, HA, HJ1, BK101, HB⟩ := hcut
  cases kq with
  | zero => exact absurd HA.out (by simp [laganlaw04_few.j0])
  | succ kj1 =>
   have H := HA.out
   clear HA
   simp only [laganlaw04_few.j0] at H
   by_cases c9 : jX = true
   ·
    subst c9
    have H1 : (some false) = some r := by rw [if_pos rfl] at H; exact H
    clear H
    have H := H1
    clear H1
    obtain rfl := Option.some.inj H
    go_wp2
    go_ret
    exact ⟨by first | rfl | (simp [errW_none, errW_some] <;> rfl) | (simp [*, errW_none, errW_some] <;> rfl), by repeat (first | (with_reducible first | exact HB.out | apply below_alloc | apply pw_below_drewN | apply below_drew1 | refine below_set ?_ GE101.out) | exact HB.out)⟩
   replace c9 := Bool.eq_false_iff.mpr c9
   subst c9
   have H1 : (laganlaw04_few.l0 kj1 0 aD aA aC) = some r := by rw [if_neg (show ¬ (false = true) by decide)] at H; exact H
   clear H
   have H := H1
   clear H1
   have H' := Aside0.mk H
   clear H
   go_wp2
   go_loopg [3] kj1 (fun kq v3 w' => ∃ (aV : Int), v3 = .int .i64 aV ∧ Aside0 (laganlaw04_few.l0 kq aV aD aA aC = some r) ∧ Aside0 (kq ≤ kj1) ∧ Aside0 (w'.heap[gb101]? = some (.cells #[(.slice aG aD.length aH), (.slice aK aA.length aI), (.slice aM aC.length aJ)] 26 (0, 0))) ∧ Aside0 (Below w.heap.size w w'))
   case atStart => exact ⟨(0), (by first | rfl | (simp; done) | (simp [*]; done)), H', ⟨Nat.le_refl _⟩, ⟨by (with_reducible repeat (first | refine blk_drewN ?_ _ | refine blk_drew ?_ | refine blk_alloc ?_ _)); exact BK101.out⟩, ⟨by repeat (first | (with_reducible first | exact HB.out | apply below_alloc | apply pw_below_drewN | apply below_drew1 | refine below_set ?_ GE101.out) | exact HB.out)⟩⟩
   clear H'
   try clear dG
   try clear dH
   try clear dI
   try clear eL
   try clear eM
   try clear eN
   try clear kM
   try clear kN
   try clear kO
   try clear dJ
   try clear dK
   try clear dL
   try clear eO
   try clear eP
   try clear eQ
   try clear kP
   try clear kQ
   try clear kR
   obtain ⟨aV, rfl, HA, HK2, BK101, HB⟩ := hrel
   cases gk with
   | zero => exact absurd HA.out (by simp [laganlaw04_few.l0])
   | succ k2 =>
    have H := HA.out
    clear HA
    simp only [laganlaw04_few.l0] at H
    by_cases c10 : aV < (aC.length : Int)
    ·
     rw [if_pos c10] at H
     have c10b0 : decide (aV < (aC.length : Int)) = true := decide_eq_true c10
     clear c10
     by_cases c11 : 0 ≤ aV
     rotate_left
     ·
      rw [if_neg c11] at H
      exact absurd H (by simp)
     rw [if_pos c11] at H
     have c11b0 : decide (0 ≤ aV) = true := decide_eq_true c11
     clear c11
     by_cases c12 : ((rd_L1 aC aV).length : Int) > 5
     ·
      rw [if_pos c12] at H
      have c12b0 : decide (5 < ((rd_L1 aC aV).length : Int)) = true := decide_eq_true c12
      have c12b1 : decide (5 < (rd_L1 aC aV).length) = true := decide_eq_true (by omega)
      clear c12
      obtain rfl := Option.some.inj H
      have iO : wr.cell? ⟨gb101, 0, none⟩ = some (.slice aG aD.length aH) := (blk_cell BK101.out 0).trans rfl
      have iP : wr.cell? ⟨gb101, 1, none⟩ = some (.slice aK aA.length aI) := (blk_cell BK101.out 1).trans rfl
      have iQ : wr.cell? ⟨gb101, 2, none⟩ = some (.slice aM aC.length aJ) := (blk_cell BK101.out 2).trans rfl
      have iR := blk_frozen BK101.out 0
      have iS := blk_frozen BK101.out 1
      have iT := blk_frozen BK101.out 2
      have p102 : 0 ≤ (aV : Int) := of_decide_eq_true (by assumption)
      have q102 : aV < (aC.length : Int) := of_decide_eq_true (by assumption)
      obtain ⟨ad102, sR, sS, e102, eZ, iK, iL⟩ := at_L1 aX.out aV p102 q102
      cases e102
      replace eZ := (HB.out.cell (World.block_lt_of_cell? w _ eZ)).trans eZ
      have sT := Aside0.mk iL
      have sU := Aside0.mk iK
      clear iL iK
      replace p102 := eq_true p102
      replace q102 := eq_true q102
      go_wp2
      go_ret
      exact ⟨by first | rfl | (simp [errW_none, errW_some] <;> rfl) | (simp [*, errW_none, errW_some] <;> rfl), by repeat (first | (with_reducible first | exact HB.out | apply below_alloc | apply pw_below_drewN | apply below_drew1 | refine below_set ?_ GE101.out) | exact HB.out)⟩
     rw [if_neg c12] at H
     have c12b0 : decide (5 < ((rd_L1 aC aV).length : Int)) = false := decide_eq_false c12
     have c12b1 : decide (5 < (rd_L1 aC aV).length) = false := decide_eq_false (by omega)
     clear c12
     have H' := Aside0.mk H
     clear H
     have mP : wr.cell? ⟨gb101, 0, none⟩ = some (.slice aG aD.length aH) := (blk_cell BK101.out 0).trans rfl
     have mQ : wr.cell? ⟨gb101, 1, none⟩ = some (.slice aK aA.length aI) := (blk_cell BK101.out 1).trans rfl
     have mR : wr.cell? ⟨gb101, 2, none⟩ = some (.slice aM aC.length aJ) := (blk_cell BK101.out 2).trans rfl
     have mS := blk_frozen BK101.out 0
     have mT := blk_frozen BK101.out 1
     have mU := blk_frozen BK101.out 2
     have p102 : 0 ≤ (aV : Int) := of_decide_eq_true (by assumption)
     have q102 : aV < (aC.length : Int) := of_decide_eq_true (by assumption)
     obtain ⟨ad102, sR, sS, e102, eZ, iK, iL⟩ := at_L1 aX.out aV p102 q102
     cases e102
     replace eZ := (HB.out.cell (World.block_lt_of_cell? w _ eZ)).trans eZ
     have sT := Aside0.mk iL
     have sU := Aside0.mk iK
     clear iL iK
     replace p102 := eq_true p102
     replace q102 := eq_true q102
     go_wp2
     go_roundg k2
     case measure => have := HJ1.out; have := HK2.out; omega
     case rel => exact ⟨(wrap64 (aV + 1)), (by first | rfl | (simp; done) | (simp [*]; done)), H', ⟨by have := HJ1.out; have := HK2.out; omega⟩, ⟨by (with_reducible repeat (first | refine blk_drewN ?_ _ | refine blk_drew ?_ | refine blk_alloc ?_ _)); exact BK101.out⟩, ⟨by repeat (first | (with_reducible first | exact HB.out | apply below_alloc | apply pw_below_drewN | apply below_drew1 | refine below_set ?_ GE101.out) | exact HB.out)⟩⟩
    rw [if_neg c10] at H
    have c10b0 : decide (aV < (aC.length : Int)) = false := decide_eq_false c10
    clear c10
    by_cases c15 : (aD.length : Int) ≤ 6
    rotate_left
    ·
     rw [if_neg c15] at H
     have c15b0 : decide ((aD.length : Int) ≤ 6) = false := decide_eq_false c15
     have c15b1 : decide (aD.length ≤ 6) = false := decide_eq_false (by omega)
     clear c15
     by_cases c21 : (aD.length : Int) > 60
     ·
      rw [if_pos c21] at H
      have c21b0 : decide (60 < (aD.length : Int)) = true := decide_eq_true c21
      have c21b1 : decide (60 < aD.length) = true := decide_eq_true (by omega)
      clear c21
      obtain rfl := Option.some.inj H
      have fP : wr.cell? ⟨gb101, 0, none⟩ = some (.slice aG aD.length aH) := (blk_cell BK101.out 0).trans rfl
      have fQ : wr.cell? ⟨gb101, 1, none⟩ = some (.slice aK aA.length aI) := (blk_cell BK101.out 1).trans rfl
      have fR : wr.cell? ⟨gb101, 2, none⟩ = some (.slice aM aC.length aJ) := (blk_cell BK101.out 2).trans rfl
      have fS := blk_frozen BK101.out 0
      have fT := blk_frozen BK101.out 1
      have fU := blk_frozen BK101.out 2
      go_wp2
      go_ret
      exact ⟨by first | rfl | (simp [errW_none, errW_some] <;> rfl) | (simp [*, errW_none, errW_some] <;> rfl), by repeat (first | (with_reducible first | exact HB.out | apply below_alloc | apply pw_below_drewN | apply below_drew1 | refine below_set ?_ GE101.out) | exact HB.out)⟩
     rw [if_neg c21] at H
     have c21b0 : decide (60 < (aD.length : Int)) = false := decide_eq_false c21
     have c21b1 : decide (60 < aD.length) = false := decide_eq_false (by omega)
     clear c21
     obtain rfl := Option.some.inj H
     have hcz23_0 : wr.cell? ⟨gb101, 0, none⟩ = some (.slice aG aD.length aH) := (blk_cell BK101.out 0).trans rfl
     have hcz23_1 : wr.cell? ⟨gb101, 1, none⟩ = some (.slice aK aA.length aI) := (blk_cell BK101.out 1).trans rfl
     have hcz23_2 : wr.cell? ⟨gb101, 2, none⟩ = some (.slice aM aC.length aJ) := (blk_cell BK101.out 2).trans rfl
     have hfz23_0 := blk_frozen BK101.out 0
     have hfz23_1 := blk_frozen BK101.out 1
     have hfz23_2 := blk_frozen BK101.out 2
     go_wp2
     go_ret
     exact ⟨by first | rfl | (simp [errW_none, errW_some] <;> rfl) | (simp [*, errW_none, errW_some] <;> rfl), by repeat (first | (with_reducible first | exact HB.out | apply below_alloc | apply pw_below_drewN | apply below_drew1 | refine below_set ?_ GE101.out) | exact HB.out)⟩
    rw [if_pos c15] at H
    have c15b0 : decide ((aD.length : Int) ≤ 6) = true := decide_eq_true c15
    have c15b1 : decide (aD.length ≤ 6) = true := decide_eq_true (by omega)
    clear c15
    by_cases c16 : (aA.length : Int) ≤ 12
    ·
     rw [if_pos c16] at H
     have c16b0 : decide ((aA.length : Int) ≤ 12) = true := decide_eq_true c16
     have c16b1 : decide (aA.length ≤ 12) = true := decide_eq_true (by omega)
     clear c16
     obtain rfl := Option.some.inj H
     have rB : wr.cell? ⟨gb101, 0, none⟩ = some (.slice aG aD.length aH) := (blk_cell BK101.out 0).trans rfl
     have rC : wr.cell? ⟨gb101, 1, none⟩ = some (.slice aK aA.length aI) := (blk_cell BK101.out 1).trans rfl
     have rD : wr.cell? ⟨gb101, 2, none⟩ = some (.slice aM aC.length aJ) := (blk_cell BK101.out 2).trans rfl
     have rE := blk_frozen BK101.out 0
     have rF := blk_frozen BK101.out 1
     have rG := blk_frozen BK101.out 2
     go_wp2
     go_ret
     exact ⟨by first | rfl | (simp [errW_none, errW_some] <;> rfl) | (simp [*, errW_none, errW_some] <;> rfl), by repeat (first | (with_reducible first | exact HB.out | apply below_alloc | apply pw_below_drewN | apply below_drew1 | refine below_set ?_ GE101.out) | exact HB.out)⟩
    rw [if_neg c16] at H
    have c16b0 : decide ((aA.length : Int) ≤ 12) = false := decide_eq_false c16
    have c16b1 : decide (aA.length ≤ 12) = false := decide_eq_false (by omega)
    clear c16
    by_cases c18 : (aD.length : Int) > 60
    ·
     rw [if_pos c18] at H
     have c18b0 : decide (60 < (aD.length : Int)) = true := decide_eq_true c18
     have c18b1 : decide (60 < aD.length) = true := decide_eq_true (by omega)
     clear c18
     obtain rfl := Option.some.inj H
     have fG : wr.cell? ⟨gb101, 0, none⟩ = some (.slice aG aD.length aH) := (blk_cell BK101.out 0).trans rfl
     have fH : wr.cell? ⟨gb101, 1, none⟩ = some (.slice aK aA.length aI) := (blk_cell BK101.out 1).trans rfl
     have fI : wr.cell? ⟨gb101, 2, none⟩ = some (.slice aM aC.length aJ) := (blk_cell BK101.out 2).trans rfl
     have fJ := blk_frozen BK101.out 0
     have fK := blk_frozen BK101.out 1
     have fL := blk_frozen BK101.out 2
     go_wp2
     go_ret
     exact ⟨by first | rfl | (simp [errW_none, errW_some] <;> rfl) | (simp [*, errW_none, errW_some] <;> rfl), by repeat (first | (with_reducible first | exact HB.out | apply below_alloc | apply pw_below_drewN | apply below_drew1 | refine below_set ?_ GE101.out) | exact HB.out)⟩
    rw [if_neg c18] at H
    have c18b0 : decide (60 < (aD.length : Int)) = false := decide_eq_false c18
    have c18b1 : decide (60 < aD.length) = false := decide_eq_false (by omega)
    clear c18
    obtain rfl := Option.some.inj H
    have iU : wr.cell? ⟨gb101, 0, none⟩ = some (.slice aG aD.length aH) := (blk_cell BK101.out 0).trans rfl
    have iV : wr.cell? ⟨gb101, 1, none⟩ = some (.slice aK aA.length aI) := (blk_cell BK101.out 1).trans rfl
    have iW : wr.cell? ⟨gb101, 2, none⟩ = some (.slice aM aC.length aJ) := (blk_cell BK101.out 2).trans rfl
    have iX := blk_frozen BK101.out 0
    have iY := blk_frozen BK101.out 1
    have iZ := blk_frozen BK101.out 2
    go_wp2
    go_ret
    exact ⟨by first | rfl | (simp [errW_none, errW_some] <;> rfl) | (simp [*, errW_none, errW_some] <;> rfl), by repeat (first | (with_reducible first | exact HB.out | apply below_alloc | apply pw_below_drewN | apply below_drew1 | refine below_set ?_ GE101.out) | exact HB.out)⟩
end Go.Proofs.Ytkmmihadcbfkoaa.PM
end

section
namespace Go.Proofs.Ytkmmihadcbfkoaa
open Go.RowKit Go.Proofs.YtkmmihadcbfkoaaW.PrintWords PM
set_option linter.unusedVariables false
set_option linter.unusedSimpArgs false
section
variable {F : List Int} {S : List S50} {T : List (List Int)}
theorem pow5 {d : Nat} (h : d ≤ 6) : 5 ^ d ≤ 15625 := Nat.pow_le_pow_right (n := 5) (by omega) h
def rowP (S : List S50) (T : List (List Int)) (d : Nat) (b row : List Int) : List (List Int) := row.flatMap fun s => if (rooms S).getD s.toNat 0 ≤ (b.count s : Nat) then [] else allP S T d (b ++ [s])
theorem rowP_cons (d : Nat) (b : List Int) (s : Int) (row : List Int) : rowP S T d b (s :: row) = (if (rooms S).getD s.toNat 0 ≤ (b.count s : Nat) then [] else allP S T d (b ++ [s])) ++ rowP S T d b row := by
 unfold rowP
 rw [List.flatMap_cons]
theorem all_loop (d : Nat) (b L row : List Int) (hL : L.length = S.length) (hns : S.length ≤ 200) (hbl : b.length ≤ 60) (hrd : rd_L1 T (b.length : Int) = row) (hlt : b.length < T.length) (hrl : row.length ≤ 5) (hin : ∀ s, s ∈ row → 0 ≤ s ∧ s < S.length) (hcnt : ∀ s : Nat, s < S.length → L.getD s 0 = (b.count (s : Int) : Nat)) (N : Nat) (hN : N ≤ 15625) (hlen : ∀ s, s ∈ row → (allP S T d (b ++ [s])).length ≤ N)
  (ihd : ∀ s, s ∈ row → Ev (fun k => laganref04_all.f k F S T (b ++ [s]) (L.set s.toNat ((b.count s : Nat) + 1))) (allP S T d (b ++ [s]))) (m : Nat) :
  ∀ (i : Nat) (acc : List (List Int)), row.length - i = m → i ≤ row.length → acc.length ≤ i * N → Ev (fun k => laganref04_all.l0 k b L (b.length : Int) acc (i : Int) F S T) (acc ++ rowP S T d b (row.drop i)) := by
 induction m with
 | zero =>
  intro i acc hm hi ha
  rw [List.drop_of_length_le (by omega)]
  have h1 : ¬ (i : Int) < ((rd_L1 T (b.length : Int)).length : Int) := by rw [hrd]; omega
  refine Ev.into (fun k => by rw [laganref04_all.l0]) (Ev.pos (by omega) (Ev.pos (by omega) (Ev.neg h1 ?_)))
  simpa [rowP] using Ev.const acc
 | succ m ih =>
  intro i acc hm hi ha
  have hil : i < row.length := by omega
  have hi1 : row.length - (i + 1) = m := by omega
  have hi2 : i + 1 ≤ row.length := by omega
  have hi3 : (i : Int) < (row.length : Int) := by omega
  have hi4 : (0 : Int) ≤ (i : Int) := by omega
  have hi6 : i ≤ 4 := by omega
  have hb1 : b.length + 1 < 17592186044416 := by omega
  have hb2 : ([] : List Int).length + L.length < 17592186044416 := by rw [List.length_nil]; omega
  have hb3 : ([] : List Int).length + b.length < 17592186044416 := by rw [List.length_nil]; omega
  have hp0 : (0 : Int) ≤ (b.length : Int) := by omega
  have hp1 : (b.length : Int) < (T.length : Int) := by omega
  have hi7 : (i : Int) + 1 = ((i + 1 : Nat) : Int) := by omega
  have hw := wrap_pm (i := (i : Int)) (by omega) (by omega)
  obtain ⟨s, hs⟩ : ∃ s, row[i] = s := ⟨_, rfl⟩
  have hsm : s ∈ row := by rw [← hs]; exact List.getElem_mem hil
  obtain ⟨s0, s1⟩ := hin s hsm
  have hsL : s < (L.length : Int) := by rw [hL]; exact s1
  have hbc : b.count s ≤ b.length := List.count_le_length
  have hLw : wrap64 ((b.count s : Nat) + 1) = (b.count s : Nat) + 1 := (wrap_pm (i := (b.count s : Nat)) (Int.natCast_nonneg _) (Int.le_trans (Int.ofNat_le.2 (Nat.le_trans hbc hbl)) (by decide))).1
  have hrs : rd row (i : Int) = s := by rw [rd_nat, List.getD_eq_getElem?_getD, List.getElem?_eq_getElem hil]; exact hs
  have hLs : rd L s = (b.count s : Nat) := by
   have := hcnt s.toNat (by omega)
   rw [Int.toNat_of_nonneg s0] at this
   exact this
  have hSs : (rd_T50 S s).f2 = (rooms S).getD s.toNat 0 := by
   rw [rooms_at S s.toNat (by omega)]
   rfl
  have hmul : (i + 1) * N = i * N + N := Nat.succ_mul _ _
  rw [List.drop_eq_getElem_cons hil, hs, rowP_cons]
  refine Ev.into (fun k => by rw [laganref04_all.l0]) (Ev.pos hp0 (Ev.pos hp1 ?_))
  rw [hrd, hrs, hw.1, hi7, hLs, hSs]
  refine Ev.pos hi3 (Ev.pos hi4 (Ev.pos s0 (Ev.pos hsL (Ev.pos s1 ?_))))
  by_cases hfull : (rooms S).getD s.toNat 0 ≤ (b.count s : Nat)
  ·
   rw [if_pos hfull, List.nil_append]
   exact Ev.pos hfull (ih (i + 1) acc hi1 hi2 (by rw [hmul]; exact Nat.le_trans ha (Nat.le_add_right _ _)))
  rw [if_neg hfull]
  refine Ev.neg hfull (Ev.bind (Ev.const ([] : List Int)) (Ev.pos hb2 (Ev.bind (Ev.const L) (Ev.pos hsL (Ev.bind (Ev.const ([] : List Int)) (Ev.pos hb3 (Ev.bind (Ev.const b) (Ev.bind (Ev.const [s]) (Ev.pos hb1 ?_)))))))))
  rw [hLs, hLw]
  refine Ev.bind (ihd s hsm) ?_
  have hal := hlen s hsm
  have hi5 : i * N ≤ 4 * 15625 := Nat.mul_le_mul hi6 hN
  have hsum : acc.length + (allP S T d (b ++ [s])).length < 5864062014805 := Nat.lt_of_le_of_lt (Nat.add_le_add (Nat.le_trans ha hi5) (Nat.le_trans hal hN)) (by decide)
  rw [← List.append_assoc]
  exact Ev.pos hsum (ih (i + 1) (acc ++ allP S T d (b ++ [s])) hi1 hi2 (by rw [List.length_append, hmul]; exact Nat.add_le_add ha hal))
theorem all_ev (hc : checkB F S T = 0) (h5 : ∀ j : Nat, (T.getD j []).length ≤ 5) (hn : T.length ≤ 6) : ∀ (d : Nat) (b L : List Int), b.length + d = T.length → L.length = S.length → (∀ s : Nat, s < S.length → L.getD s 0 = (b.count (s : Int) : Nat)) →
  Ev (fun k => laganref04_all.f k F S T b L) (allP S T d b)
 | 0, b, L, hd, hL, hcnt => by
  have hnt := (bok_of_check hc).nt
  have hb3 : ([] : List Int).length + b.length < 17592186044416 := by rw [List.length_nil]; omega
  exact Ev.into (fun k => by rw [laganref04_all.f]) (Ev.pos (by omega) (Ev.bind (Ev.const ([] : List Int)) (Ev.pos hb3 (Ev.const _))))
 | d + 1, b, L, hd, hL, hcnt => by
  have hnt := (bok_of_check hc).nt
  have hns := (bok_of_check hc).ns
  have hlt : b.length < T.length := by omega
  have hb3 : ([] : List Int).length + b.length < 17592186044416 := by rw [List.length_nil]; omega
  have hrd : rd_L1 T (b.length : Int) = T.getD b.length [] := by simp [rd_L1]
  refine Ev.into (fun k => by rw [laganref04_all.f]) (Ev.neg (by omega) (Ev.pos (by omega) (Ev.pos (by omega) ?_)))
  unfold allP
  by_cases e : T.getD b.length [] = []
  ·
   rw [if_pos e, hrd]
   have ih := all_ev hc h5 hn d (b ++ [-1]) L (by simp; omega) hL (fun s hs => by
    rw [hcnt s hs, List.count_append, List.count_singleton, if_neg (by simp)]
    rfl)
   refine Ev.pos (by rw [e]; rfl) (Ev.bind (Ev.const ([] : List Int)) (Ev.pos hb3 (Ev.bind (Ev.const b) (Ev.bind (Ev.const [(-1 : Int)]) (Ev.pos (by show b.length + 1 < 17592186044416; omega) ?_)))))
   exact Ev.bind ih (Ev.const _)
  ·
   rw [if_neg e]
   refine Ev.neg (fun h => e (List.length_eq_zero_iff.1 (by rw [hrd] at h; omega))) ?_
   have hsl : ∀ s, s ∈ T.getD b.length [] → 0 ≤ s ∧ s < S.length := fun s hs => fitsok_of hc b.length hlt s hs
   have := all_loop (F := F) (S := S) (T := T) d b L (T.getD b.length []) hL hns (by omega) hrd hlt (h5 _) hsl hcnt (5 ^ d) (pow5 (by omega)) (fun s _ => all_len d _ h5) (fun s hs => by
    have hs' := hsl s hs
    refine all_ev hc h5 hn d (b ++ [s]) _ (by simp; omega) (by rw [List.length_set]; exact hL) (fun t ht => ?_)
    rw [getD_set L s.toNat _ 0 t (by omega), List.count_append, List.count_singleton]
    by_cases k : t = s.toNat
    ·
     rw [if_pos k, if_pos (by rw [beq_iff_eq]; omega), show (t : Int) = s by omega]
     omega
    ·
     rw [if_neg k, if_neg (by rw [beq_iff_eq]; omega), hcnt t ht]
     omega) (T.getD b.length []).length 0 [] (by omega) (by omega) (by simp)
   simpa [rowP] using this
theorem refall_is (hc : checkB F S T = 0) (h5 : ∀ j : Nat, (T.getD j []).length ≤ 5) (hn : T.length ≤ 6) : Ev (fun k => laganref04_All.f k F S T) (allB S T) := by
 have hk := bok_of_check hc
 have hns := hk.ns
 refine Ev.pos (by omega) (Ev.pos (by omega) ?_)
 refine Ev.bind (all_ev hc h5 hn T.length [] (List.replicate (((S.length : Int)) : Int).toNat 0) (by simp) (by simp) (fun s hs => ?_)) (Ev.const _)
 simp [List.getD_eq_getElem?_getD, List.getElem?_replicate, hs]
theorem few_ev (hT : T.length ≤ 9223372036854775807) (m : Nat) : ∀ i : Nat, T.length - i = m → i ≤ T.length → ∃ b, Ev (fun k => laganlaw04_few.l0 k (i : Int) F S T) b ∧ (b = true → (∀ j : Nat, i ≤ j → (T.getD j []).length ≤ 5) ∧ (F.length ≤ 6 ∧ S.length ≤ 12 ∨ F.length > 60 ∨ S.length > 200)) := by
 induction m with
 | zero =>
  intro i hm hi
  have hz : ∀ j : Nat, i ≤ j → (T.getD j []).length ≤ 5 := fun j hj => by
   rw [List.getD_eq_getElem?_getD, List.getElem?_eq_none (by omega)]
   simp
  have h : ∃ b : Bool, Ev (fun _ => if (F.length : Int) ≤ 6 then (if (S.length : Int) ≤ 12 then (some true) else (if (F.length : Int) > 60 then (some true) else (some (decide ((S.length : Int) > 200))))) else (if (F.length : Int) > 60 then (some true) else (some (decide ((S.length : Int) > 200))))) b ∧ (b = true → (F.length ≤ 6 ∧ S.length ≤ 12 ∨ F.length > 60 ∨ S.length > 200)) := by
   by_cases h1 : (F.length : Int) ≤ 6
   ·
    by_cases h2 : (S.length : Int) ≤ 12
    ·
     exact ⟨_, Ev.pos h1 (Ev.pos h2 (Ev.const _)), fun _ => by omega⟩
    ·
     by_cases h3 : (F.length : Int) > 60
     ·
      exact ⟨_, Ev.pos h1 (Ev.neg h2 (Ev.pos h3 (Ev.const _))), fun _ => by omega⟩
     ·
      exact ⟨_, Ev.pos h1 (Ev.neg h2 (Ev.neg h3 (Ev.const _))), fun h => by have := of_decide_eq_true h; omega⟩
   ·
    by_cases h3 : (F.length : Int) > 60
    ·
     exact ⟨_, Ev.neg h1 (Ev.pos h3 (Ev.const _)), fun _ => by omega⟩
    ·
     exact ⟨_, Ev.neg h1 (Ev.neg h3 (Ev.const _)), fun h => by have := of_decide_eq_true h; omega⟩
  obtain ⟨b, hb, hb2⟩ := h
  exact ⟨b, Ev.into (fun k => by rw [laganlaw04_few.l0]) (Ev.neg (by omega) hb), fun h => ⟨hz, hb2 h⟩⟩
 | succ m ih =>
  intro i hm hi
  have hw := wrap_pm (i := (i : Int)) (by omega) (by omega)
  obtain ⟨b, hb, hb2⟩ := ih (i + 1) (by omega) (by omega)
  rw [show ((i + 1 : Nat) : Int) = (i : Int) + 1 by omega, ← hw.1] at hb
  have hrd : rd_L1 T (i : Int) = T.getD i [] := by simp [rd_L1]
  by_cases h : ((rd_L1 T (i : Int)).length : Int) > 5
  ·
   exact ⟨false, Ev.into (fun k => by rw [laganlaw04_few.l0]) (Ev.pos (by omega) (Ev.pos (by omega) (Ev.pos h (Ev.const _)))), fun h => (by cases h)⟩
  refine ⟨b, Ev.into (fun k => by rw [laganlaw04_few.l0]) (Ev.pos (by omega) (Ev.pos (by omega) (Ev.neg h hb))), fun k => ⟨fun j hj => ?_, (hb2 k).2⟩⟩
  by_cases e : j = i
  rotate_left
  ·
   exact (hb2 k).1 j (by omega)
  subst e
  rw [hrd] at h
  omega
theorem few_is (F : List Int) (S : List S50) (T : List (List Int)) (hT : T.length ≤ 9223372036854775807) : ∃ b, Ev (fun k => laganlaw04_few.f k F S T) b ∧ (b = true → (∀ j : Nat, (T.getD j []).length ≤ 5) ∧ (F.length ≤ 6 ∧ S.length ≤ 12 ∨ F.length > 60 ∨ S.length > 200)) := by
 have hj : ∀ x, ∃ b, Ev (fun k => laganlaw04_few.j0 k x F S T) b ∧ (b = true → (∀ j : Nat, (T.getD j []).length ≤ 5) ∧ (F.length ≤ 6 ∧ S.length ≤ 12 ∨ F.length > 60 ∨ S.length > 200)) := fun x => by
  cases x with
  | true => exact ⟨_, Ev.into (fun k => by rw [laganlaw04_few.j0]) (Ev.pos rfl (Ev.const _)), fun h => (by cases h)⟩
  | false =>
   obtain ⟨b, hb, hb2⟩ := few_ev (F := F) (S := S) hT T.length 0 (by omega) (by omega)
   rw [show ((0 : Nat) : Int) = 0 from rfl] at hb
   exact ⟨b, Ev.into (fun k => by rw [laganlaw04_few.j0]) (Ev.neg (by simp) hb), fun h => ⟨fun j => (hb2 h).1 j (Nat.zero_le _), (hb2 h).2⟩⟩
 by_cases h1 : (F.length : Int) > 70
 ·
  obtain ⟨b, hb, hb2⟩ := hj true
  exact ⟨b, Ev.pos h1 hb, hb2⟩
 by_cases h2 : (S.length : Int) > 210
 ·
  obtain ⟨b, hb, hb2⟩ := hj true
  exact ⟨b, Ev.neg h1 (Ev.pos h2 hb), hb2⟩
 obtain ⟨b, hb, hb2⟩ := hj (decide ((T.length : Int) > 70))
 exact ⟨b, Ev.neg h1 (Ev.neg h2 hb), hb2⟩
end
end Go.Proofs.Ytkmmihadcbfkoaa
end

section
namespace Go.Proofs.Ytkmmihadcbfkoaa
open Go.RowKit Go.Proofs.YtkmmihadcbfkoaaW.PrintWords PM
set_option linter.unusedVariables false
set_option linter.unusedSimpArgs false
section
variable {F : List Int} {S : List S50} {T : List (List Int)}
def partCh (L : List (List Int)) (i s : Nat) : List Int := ((List.range s).filter fun s : Nat => L.any fun l => decide (l.getD i 0 = (s : Int))).map Int.ofNat
theorem partCh_step (L : List (List Int)) (i s : Nat) : partCh L i (s + 1) = if (L.any fun l => decide (l.getD i 0 = (s : Int))) = true then partCh L i s ++ [(s : Int)] else partCh L i s := by
 unfold partCh
 rw [List.range_succ, List.filter_append, List.map_append]
 by_cases h : (L.any fun l => decide (l.getD i 0 = (s : Int))) = true
 ·
  rw [if_pos h, List.filter_cons_of_pos (p := fun s : Nat => L.any fun l => decide (l.getD i 0 = (s : Int))) h]
  rfl
 rw [if_neg h, List.filter_cons_of_neg (p := fun s : Nat => L.any fun l => decide (l.getD i 0 = (s : Int))) h]
 simp
theorem partCh_len (L : List (List Int)) (i s : Nat) : (partCh L i s).length ≤ s := by
 unfold partCh
 rw [List.length_map]
 exact Nat.le_trans (List.length_filter_le _ _) (by simp)
structure ChAt (F : List Int) (ns : Nat) (L : List (List Int)) (i s : Nat) (X : List (List Int)) : Prop where
 len : X.length = F.length
 row : ∀ j : Nat, j < F.length → X.getD j [] = if j < i then refCh ns L j else if j = i then partCh L i s else []
theorem ch_l2 (L : List (List Int)) (X : List (List Int)) (i s : Nat) (hL : L.length ≤ 1000000) (hl : ∀ l, l ∈ L → i < l.length) (hX : i < X.length) (hXl : (X.getD i []).length ≤ 1000) (r : List (List Int))
  (hy : Ev (fun k => laganref04_Chances.l1 k L (X.set i ((X.getD i []) ++ [(s : Int)])) (i : Int) (wrap64 ((s : Int) + 1)) F S T) r → Ev (fun k => laganref04_Chances.l1 k L (X.set i ((X.getD i []) ++ [(s : Int)])) (i : Int) (wrap64 ((s : Int) + 1)) F S T) r)
  (m : Nat) : ∀ (j : Nat) (x : Bool), L.length - j = m → j ≤ L.length →
  Ev (fun k => if (x || (L.drop j).any fun l => decide (l.getD i 0 = (s : Int))) = true then laganref04_Chances.l1 k L (X.set i ((X.getD i []) ++ [(s : Int)])) (i : Int) (wrap64 ((s : Int) + 1)) F S T else laganref04_Chances.l1 k L X (i : Int) (wrap64 ((s : Int) + 1)) F S T) r →
  Ev (fun k => laganref04_Chances.l2 k L X (i : Int) (s : Int) x (j : Int) F S T) r := by
 induction m with
 | zero =>
  intro j x hm hj hend
  rw [List.drop_of_length_le (by omega)] at hend
  refine Ev.into (fun k => by rw [laganref04_Chances.l2]) (Ev.neg (by omega) ?_)
  have e1 : rd_L1 X (i : Int) = X.getD i [] := by simp [rd_L1]
  rw [e1, Int.toNat_natCast]
  cases x with
  | true =>
   have := hend.congr (f := fun k => laganref04_Chances.l1 k L (X.set i ((X.getD i []) ++ [(s : Int)])) (i : Int) (wrap64 ((s : Int) + 1)) F S T) (fun k => by simp)
   exact Ev.pos rfl (Ev.pos (by omega) (Ev.pos (by omega) (Ev.pos (by omega) this)))
  | false =>
   have := hend.congr (f := fun k => laganref04_Chances.l1 k L X (i : Int) (wrap64 ((s : Int) + 1)) F S T) (fun k => by simp)
   exact Ev.neg (by simp) this
 | succ m ih =>
  intro j x hm hj hend
  have hlt : j < L.length := by omega
  have hw := wrap_pm (i := (j : Int)) (by omega) (by omega)
  have hj7 : (j : Int) + 1 = ((j + 1 : Nat) : Int) := by omega
  have hrd : rd_L1 L (j : Int) = L[j] := by simp [rd_L1, List.getD_eq_getElem?_getD, List.getElem?_eq_getElem hlt]
  have hil := hl _ (List.getElem_mem hlt)
  refine Ev.into (fun k => by rw [laganref04_Chances.l2]) (Ev.pos (by omega) ?_)
  rw [hw.1, hj7]
  cases x with
  | true =>
   refine Ev.pos rfl (ih (j + 1) true (by omega) (by omega) ?_)
   simpa using hend
  | false =>
   refine Ev.neg (by simp) (Ev.pos (by omega) (Ev.pos (by omega) (Ev.pos (by rw [hrd]; omega) ?_)))
   refine ih (j + 1) _ (by omega) (by omega) ?_
   rw [hrd, rd_nat]
   rw [List.drop_eq_getElem_cons hlt, List.any_cons, Bool.false_or] at hend
   exact hend
theorem ch_l1 (L : List (List Int)) (hL : L.length ≤ 1000000) (hS : S.length ≤ 200) (hF : F.length ≤ 60) (i : Nat) (hi : i < F.length) (hl : ∀ l, l ∈ L → l.length = F.length) (r : List (List Int))
  (hend : ∀ X, ChAt F S.length L (i + 1) 0 X → Ev (fun k => laganref04_Chances.l0 k L X ((i + 1 : Nat) : Int) F S T) r) (m : Nat) :
  ∀ (s : Nat) (X : List (List Int)), S.length - s = m → s ≤ S.length → ChAt F S.length L i s X → Ev (fun k => laganref04_Chances.l1 k L X (i : Int) (s : Int) F S T) r := by
 induction m with
 | zero =>
  intro s X hm hs hX
  have e : s = S.length := by omega
  subst e
  have hw := wrap_pm (i := (i : Int)) (by omega) (by omega)
  refine Ev.into (fun k => by rw [laganref04_Chances.l1]) (Ev.neg (by omega) ?_)
  rw [hw.1, show (i : Int) + 1 = ((i + 1 : Nat) : Int) by omega]
  refine hend X ⟨hX.len, fun j hj => ?_⟩
  rw [hX.row j hj]
  by_cases h1 : j < i
  ·
   rw [if_pos h1, if_pos (by omega)]
  rw [if_neg h1]
  by_cases h2 : j = i
  ·
   subst h2
   rw [if_pos rfl, if_pos (by omega)]
   rfl
  rw [if_neg h2, if_neg (by omega)]
  by_cases h3 : j = i + 1
  rotate_left
  ·
   rw [if_neg h3]
  rw [if_pos h3]; rfl
 | succ m ih =>
  intro s X hm hs hX
  have hlt : s < S.length := by omega
  have hiX : i < X.length := by rw [hX.len]; exact hi
  have hrow : X.getD i [] = partCh L i s := by rw [hX.row i hi, if_neg (Nat.lt_irrefl _), if_pos rfl]
  have hw := wrap_pm (i := (s : Int)) (by omega) (by omega)
  refine Ev.into (fun k => by rw [laganref04_Chances.l1]) (Ev.pos (by omega) ?_)
  refine ch_l2 (F := F) (S := S) (T := T) L X i s hL (fun l h => by rw [hl l h]; exact hi) hiX (by rw [hrow]; have := partCh_len L i s; omega) r (fun h => h) L.length 0 false (by omega) (by omega) ?_
  rw [List.drop_zero, Bool.false_or, hw.1, show (s : Int) + 1 = ((s + 1 : Nat) : Int) by omega]
  by_cases h : (L.any fun l => decide (l.getD i 0 = (s : Int))) = true
  rotate_left
  ·
   refine Ev.neg h (ih (s + 1) _ (by omega) (by omega) ⟨hX.len, fun j hj => ?_⟩)
   rw [hX.row j hj, partCh_step, if_neg h]
  refine Ev.pos h (ih (s + 1) _ (by omega) (by omega) ⟨by rw [List.length_set]; exact hX.len, fun j hj => ?_⟩)
  rw [getD_set X i _ [] j hiX]
  by_cases e : j = i
  rotate_left
  ·
   rw [if_neg e, hX.row j hj, if_neg e, if_neg e]
  subst e
  rw [if_pos rfl, if_neg (Nat.lt_irrefl _), if_pos rfl, partCh_step, if_pos h, hrow]
theorem ch_l0 (L : List (List Int)) (hL : L.length ≤ 1000000) (hS : S.length ≤ 200) (hF : F.length ≤ 60) (hl : ∀ l, l ∈ L → l.length = F.length) (m : Nat) :
  ∀ (i : Nat) (X : List (List Int)), F.length - i = m → i ≤ F.length → ChAt F S.length L i 0 X → Ev (fun k => laganref04_Chances.l0 k L X (i : Int) F S T) ((List.range F.length).map (refCh S.length L)) := by
 induction m with
 | zero =>
  intro i X hm hi hX
  refine Ev.into (fun k => by rw [laganref04_Chances.l0]) (Ev.neg (by omega) ?_)
  have e : X = (List.range F.length).map (refCh S.length L) := by
   refine List.ext_getElem (by simpa using hX.len) fun j h1 h2 => ?_
   have hj : j < F.length := by rw [← hX.len]; exact h1
   have := hX.row j hj
   rw [if_pos (by omega), List.getD_eq_getElem?_getD, List.getElem?_eq_getElem h1, Option.getD_some] at this
   rw [this]
   simp
  rw [← e]
  exact Ev.const X
 | succ m ih =>
  intro i X hm hi hX
  refine Ev.into (fun k => by rw [laganref04_Chances.l0]) (Ev.pos (by omega) ?_)
  exact ch_l1 (F := F) (S := S) (T := T) L hL hS hF i (by omega) hl _ (fun X' hX' => ih (i + 1) X' (by omega) (by omega) hX') S.length 0 X (by omega) (by omega) hX
theorem refchances_is (L : List (List Int)) (hL : L.length ≤ 1000000) (hS : S.length ≤ 200) (hF : F.length ≤ 60) (hl : ∀ l, l ∈ L → l.length = F.length) : Ev (fun k => laganref04_Chances.f k F S T L) ((List.range F.length).map (refCh S.length L)) := by
 have h := ch_l0 (F := F) (S := S) (T := T) L hL hS hF hl F.length 0 (List.replicate F.length []) (by omega) (by omega) ⟨by simp, fun j hj => by
  rw [if_neg (Nat.not_lt_zero _)]
  by_cases e : j = 0
  ·
   rw [if_pos e]; simp [List.getD_eq_getElem?_getD, List.getElem?_replicate, hj, partCh]
  ·
   rw [if_neg e]; simp [List.getD_eq_getElem?_getD, List.getElem?_replicate, hj]⟩
 refine Ev.pos (by omega) (Ev.pos (by omega) ?_)
 rw [Int.toNat_natCast]
 exact h
theorem refall_chances (hc : checkB F S T = 0) (his : isF F S T = true) : (List.range F.length).map (refCh S.length (allB S T)) = allChances F S T := by
 unfold allChances
 refine List.map_congr_left fun f hf => ?_
 have hnt := (bok_of_check hc).nt
 exact chances_eq hc his (by have := List.mem_range.1 hf; omega)
end
end Go.Proofs.Ytkmmihadcbfkoaa
end

section
namespace Go.Proofs.Ytkmmihadcbfkoaa
open Go.RowKit Go.Proofs.YtkmmihadcbfkoaaW.PrintWords PM
set_option linter.unusedVariables false
set_option linter.unusedSimpArgs false
section
variable {F : List Int} {S : List S50} {T : List (List Int)}
theorem ask_bad (hq : checkB F S T ≠ 0) (find slot : Int) (g0 g1 : Bool) : askB F S T find slot g0 g1 = checkB F S T := by
 unfold askB
 rw [if_pos hq]
theorem all_ref (hc : checkB F S T = 0) (h5 : ∀ j : Nat, (T.getD j []).length ≤ 5) (hsz : F.length ≤ 6 ∧ S.length ≤ 12 ∨ F.length > 60 ∨ S.length > 200) : T.length ≤ 6 ∧ (allB S T).length ≤ 15625 ∧ (∀ l, l ∈ allB S T → l.length = F.length) ∧ ∃ K, laganref04_All.f K F S T = some (allB S T) := by
 have hk := bok_of_check hc
 have h1 := hk.nf
 have h2 := hk.ns
 have h3 := hk.nt
 have hn : T.length ≤ 6 := by omega
 obtain ⟨K, hK⟩ := refall_is hc h5 hn
 refine ⟨hn, Nat.le_trans (all_len T.length [] h5) (pow5 hn), fun l hl => ?_, K, hK K (Nat.le_refl _)⟩
 have := ((mem_allB hc l).1 hl).len
 omega
theorem chances_small (hc : checkB F S T = 0) : (allChances F S T).length = F.length ∧ (∀ l, l ∈ allChances F S T → l.length ≤ 9223372036854775807) := by
 have hk := bok_of_check hc
 refine ⟨by simp [allChances], fun l hl => ?_⟩
 unfold allChances at hl
 obtain ⟨f, hf, rfl⟩ := List.mem_map.1 hl
 have h1 := List.mem_range.1 hf
 have := hk.row f (by rw [hk.nt]; exact h1)
 unfold chancesF
 exact Nat.le_trans (List.length_filter_le _ _) (by omega)
end
end Go.Proofs.Ytkmmihadcbfkoaa
end

section
namespace Go.Proofs.Ytkmmihadcbfkoaa
open Go.RowKit Go.Proofs.YtkmmihadcbfkoaaW.PrintWords PM
set_option linter.unusedVariables false
set_option linter.unusedSimpArgs false
def PM.match_Through.f (F : List Int) (S : List S50) (T : List (List Int)) (find slot : Int) : Option (List Int × Bool × Int) :=
 if askB F S T find slot false false ≠ 0 then some ([], false, askB F S T find slot false false)
 else if isF F S T = false then some ([], false, 40)
 else some ((withF T (rooms S) S.length (hasF F S T) find.toNat slot).has, (withF T (rooms S) S.length (hasF F S T) find.toNat slot).ok, 0)
set_option maxRecDepth 100000 in
set_option maxHeartbeats 8000000 in
theorem through_walk (A0 : Option Addr) (c0 : Nat) (F : List Int) (A1 : Option Addr) (c1 : Nat) (S : List S50) (A2 : Option Addr) (c2 : Nat) (T : List (List Int)) (find slot : Int) (r1 : List Int) (r2 : Bool) (r3 : Int) (w : World)
  (hr0 : Kd.C (Kd.int .i64) w A0 F.length F) (hc0 : F.length ≤ c0) (hr1 : Kd.C k50 w A1 S.length S) (hr2 : Kd.C (Kd.slice 3 (Kd.int .i64)) w A2 T.length T) (h : match_Through.f F S T find slot = some (r1, r2, r3)) :
  Calls Try.prog 30 #[.agg #[.slice A0 F.length c0, .slice A1 S.length c1, .slice A2 T.length c2], .int .i64 find, .int .i64 slot] w (LBE r1 r2 r3 w) := by
 have hB0 := (Below.refl w.heap.size w).alloc (Nat.le_refl _) (.cells #[.slice A0 F.length c0, .slice A1 S.length c1, .slice A2 T.length c2] 26)
 have CB := both_calls A0 c0 F A1 c1 S A2 c2 T find slot _ (Kd.C_below hr0 hB0) hc0 (Kd.C_below hr1 hB0) (Kd.C_below hr2 hB0)
 unfold match_Through.f at h
 obtain ⟨q, hq⟩ : ∃ q, askB F S T find slot false false = q := ⟨_, rfl⟩
 rw [hq] at h CB
 have HB0 := Go.Lib.hid hB0
 have HR := Go.Lib.hid (And.intro hr1 hr2)
 have HQ := Go.Lib.hid hq
 have HH := Go.Lib.hid h
 clear hr0 hr1 hr2 hB0 hq h
 go_enter Try.func30, Try.ntmps30
 go_wp2_with fail
 refine CB.mono ?_
 clear CB
 rintro e w1 ⟨rfl, hB1⟩
 have b1 : w1.heap[w.heap.size]? = some (.cells #[.slice A0 F.length c0, .slice A1 S.length c1, .slice A2 T.length c2] 26 (0, 0)) := by
  rw [hB1.block w.heap.size (by simp)]
  exact World.alloc_heap_new w _
 have hW1 : Below w.heap.size w w1 := HB0.out.trans (hB1.mono HB0.out.size)
 have k0 := cell_of_heap b1 (j := 0) rfl
 have k1 := cell_of_heap b1 (j := 1) rfl
 have k2 := cell_of_heap b1 (j := 2) rfl
 have HW1 := Go.Lib.hid hW1
 have BX1 := Go.Lib.hid b1
 clear hB1 b1 hW1
 by_cases hq0 : q = 0
 rotate_left
 ·
  have g9 : decide (q = 0) = false := by simpa using hq0
  have hf := HH.out
  rw [if_pos hq0] at hf
  injection hf with hf
  injection hf with hf1 hf
  injection hf with hf2 hf3
  subst hf1 hf2 hf3
  go_wp2_with fail
  go_ret3
  exact ⟨_, rfl, R_nil _ _, HW1.out⟩
 subst hq0
 obtain ⟨hcb, hfd, hsl⟩ := ask_parts HQ.out
 obtain ⟨hfd0, hfd1⟩ := hfd rfl
 obtain ⟨hsl0, hsl1⟩ := hsl rfl
 have hk := bok_of_check hcb
 have hfd2 : find < (T.length : Int) := by rw [hk.nt]; exact hfd1
 have hf := HH.out
 rw [if_neg (by simp)] at hf
 have HK := Go.Lib.hid hk
 have HCB := Go.Lib.hid hcb
 clear HH HQ hk hcb
 cases hok : isF F S T with
 | false =>
  have MC := matched_no A0 c0 F A1 c1 S A2 c2 T w1 HK.out (Kd.C_below HR.out.1 HW1.out) (Kd.C_below HR.out.2 HW1.out) hok
  rw [if_pos hok] at hf
  injection hf with hf
  injection hf with hf1 hf
  injection hf with hf2 hf3
  subst hf1 hf2 hf3
  clear hok
  go_wp2_with fail
  refine MC.mono ?_
  clear MC
  rintro e w2 ⟨rfl, hB2⟩
  have HB2 := Go.Lib.hid (HW1.out.trans (hB2.mono HW1.out.size))
  clear hB2
  go_wp2_with fail
  go_ret3
  exact ⟨_, rfl, R_nil _ _, HB2.out⟩
 | true =>
  have MC := matched_yes A0 c0 F A1 c1 S A2 c2 T w1 HK.out (Kd.C_below HR.out.1 HW1.out) (Kd.C_below HR.out.2 HW1.out) hok
  rw [if_neg (by rw [hok]; simp)] at hf
  injection hf with hf
  obtain ⟨fn, rfl⟩ : ∃ fn : Nat, find = (fn : Int) := ⟨find.toNat, by omega⟩
  rw [Int.toNat_natCast] at hf
  obtain ⟨rr, hrr⟩ : ∃ rr, withF T (rooms S) S.length (hasF F S T) fn slot = rr := ⟨_, rfl⟩
  rw [hrr] at hf
  injection hf with hf1 hf
  injection hf with hf2 hf3
  subst hf1 hf2 hf3
  have HRR := Go.Lib.hid hrr
  clear hok hrr
  go_wp2_with fail
  refine MC.mono ?_
  clear MC
  rintro e w2 ⟨t, rfl, en1, enh, es0, hT, hB2⟩
  have hW2 := HW1.out.trans (hB2.mono HW1.out.size)
  have hG := good_of_in HCB.out hT en1 es0
  have WC := with_calls t T (rooms S) (hasF F S T) fn slot w2 (by omega) hG
  rw [en1, HRR.out] at WC
  unfold WithPost at WC
  have HW2 := Go.Lib.hid hW2
  clear hB2 hW2 hG hT en1 enh es0
  go_wp2_with fail
  refine WC.mono ?_
  clear WC
  rintro e w3 ⟨v, rfl, hR, hB3⟩
  have HB3 := Go.Lib.hid (HW2.out.trans (hB3.mono HW2.out.size))
  have HR3 := Go.Lib.hid (Kd.R_lower hR HW2.out.size)
  clear hR hB3
  go_wp2_with fail
  go_ret3
  exact ⟨v, rfl, HR3.out, HB3.out⟩
theorem PM.match_Through.calls (A0 : Option Addr) (c0 : Nat) (F : List Int) (A1 : Option Addr) (c1 : Nat) (S : List S50) (A2 : Option Addr) (c2 : Nat) (T : List (List Int)) (find slot : Int) (r1 : List Int) (r2 : Bool) (r3 : Int) (w : World)
  (hr0 : Kd.C (Kd.int .i64) w A0 F.length F) (hc0 : F.length ≤ c0) (hr1 : Kd.C k50 w A1 S.length S) (hc1 : S.length ≤ c1) (hr2 : Kd.C (Kd.slice 3 (Kd.int .i64)) w A2 T.length T) (hc2 : T.length ≤ c2) (h : match_Through.f F S T find slot = some (r1, r2, r3)) :
  Calls Try.prog 30 #[.agg #[.slice A0 F.length c0, .slice A1 S.length c1, .slice A2 T.length c2], .int .i64 find, .int .i64 slot] w (LBE r1 r2 r3 w) := through_walk A0 c0 F A1 c1 S A2 c2 T find slot r1 r2 r3 w hr0 hc0 hr1 hr2 h
end Go.Proofs.Ytkmmihadcbfkoaa
end

section
namespace Go.Proofs.Ytkmmihadcbfkoaa.PM
open Go.RowKit Go.Proofs.YtkmmihadcbfkoaaW.PrintWords Go.Proofs.YtkmmihadcbfkoaaW.PrintLast Go.Proofs.YtkmmihadcbfkoaaW.PrintMore
set_option linter.unusedVariables false
set_option linter.unusedSimpArgs false
def match_May.f (aD : List Int) (aA : List (S50)) (aC : List (List Int)) (a1 : Int) (a2 : Int) : Option (Bool × Int) := (match_Through.f aD aA aC a1 a2).bind fun bt396 => (some (bt396.2.1, bt396.2.2))
set_option maxHeartbeats 8000000 in
set_option maxRecDepth 100000 in
theorem match_May.calls (aG : Option Addr) (aH : Nat) (aD : List Int) (aK : Option Addr) (aI : Nat) (aA : List (S50)) (aM : Option Addr) (aJ : Nat) (aC : List (List Int)) (a1 : Int) (a2 : Int) (r1 : Bool) (r2 : Int) (w : World) (bC : Kd.C (Kd.int .i64) w aG aD.length aD) (bD : aD.length ≤ aH) (bE : Kd.C k50 w aK aA.length aA) (bF : aA.length ≤ aI) (bG : Kd.C (Kd.slice 3 (Kd.int .i64)) w aM aC.length aC) (bH : aC.length ≤ aJ) (h : match_May.f aD aA aC a1 a2 = some (r1, r2)) :
  Calls Try.prog 29 #[.agg #[.slice aG aD.length aH, .slice aK aA.length aI, .slice aM aC.length aJ], .int .i64 a1, .int .i64 a2] w fun e w' => e = .returned (.tuple #[.bool r1, .int .i64 r2]) ∧ Below w.heap.size w w' := by
 have hu26 := Try.underlying26
 have bA := Aside0.mk bC
 have bK := Aside0.mk bD
 clear bC bD
 have aZ := Aside0.mk bE
 have bL := Aside0.mk bF
 clear bE bF
 have aX := Aside0.mk bG
 have bM := Aside0.mk bH
 clear bG bH
 have HB := Aside0.mk (Below.refl w.heap.size w)
 have H : ((match_Through.f aD aA aC a1 a2).bind fun bt396 => (some (bt396.2.1, bt396.2.2))) = some (r1, r2) := h
 clear h
 replace H := Option.bind_eq_some_iff.mp H
 obtain ⟨⟨t396, t399, t400⟩, A40, H⟩ := H
 replace H : (some (t399, t400)) = some (r1, r2) := H
 have A4 := Aside0.mk A40
 clear A40
 simp only [Option.some.injEq, Prod.mk.injEq] at H
 obtain ⟨rfl, rfl⟩ := H
 go_enter Try.func29, Try.ntmps29
 go_wp2_with (first | ((with_reducible refine gate_dst (N := 3) rfl ?_); refine box_event ?hg (N := 3) ?hd (cs := #[.slice aG aD.length aH, .slice aK aA.length aI, .slice aM aC.length aJ]) (t := 26) ?hr ?_; (case hd => rfl); (case hg => rfl); (case hr => first | (go_simp; done) | (go_simp; rfl)); intro gb395 hg w5 hbox hb; have n0_ := Aside0.mk (below_step (by repeat (first | (with_reducible first | exact HB.out | apply below_alloc | apply pw_below_drewN | apply below_drew1) | exact HB.out)) hb); have n1_ := Aside0.mk (hbox); have n2_ := Aside0.mk ((by rw [hg]; exact (below_size (by repeat (first | (with_reducible first | exact HB.out | apply below_alloc | apply pw_below_drewN | apply below_drew1) | exact HB.out))) : w.heap.size ≤ gb395)); have n3_ := Aside0.mk ((by rw [hg]; exact (below_size (by repeat (first | (with_reducible first | exact HB.out | apply below_alloc | apply pw_below_drewN | apply below_drew1) | exact HB.out))) : w.heap.size ≤ gb395)); clear HB; have HB := n0_; have BK395 := n1_; have GW395 := n2_; have GE395 := n3_; clear n0_ n1_ n2_ n3_; clear hb hbox hg; have dM : w5.cell? ⟨gb395, 0, none⟩ = some (.slice aG aD.length aH) := (blk_cell BK395.out 0).trans rfl; have dN : w5.cell? ⟨gb395, 1, none⟩ = some (.slice aK aA.length aI) := (blk_cell BK395.out 1).trans rfl; have dO : w5.cell? ⟨gb395, 2, none⟩ = some (.slice aM aC.length aJ) := (blk_cell BK395.out 2).trans rfl; have dP := blk_frozen BK395.out 0; have dQ := blk_frozen BK395.out 1; have dR := blk_frozen BK395.out 2) | ((with_reducible refine gate_callee (f := 30) rfl ?_); refine goesL_ (some 15) rfl rfl Try.func30 (by kernel_rfl) rfl #[.agg #[.slice aG aD.length aH, .slice aK aA.length aI, .slice aM aC.length aJ], .int .i64 a1, .int .i64 a2] rfl (by (try simp only [List.map_toArray, List.map_cons, List.map_nil]); first | done | rfl | (simp only [List.length_drop, List.length_take]; rfl)) ?_; (with_reducible refine (match_Through.calls _ _ aD _ _ aA _ _ aC a1 a2 t396 t399 t400 _ ?side1 ?side2 ?side3 ?side4 ?side5 ?side6 A4.out).mono ?_); (case side1 => repeat (first | exact (Kd.C_below bA.out HB.out) | (with_reducible refine Kd.C_alloc ?_ _) | (with_reducible refine Kd.C_drewN ?_ _) | (with_reducible refine Kd.C_drew ?_))); (case side2 => exact bK.out); (case side3 => repeat (first | exact (Kd.C_below aZ.out HB.out) | (with_reducible refine Kd.C_alloc ?_ _) | (with_reducible refine Kd.C_drewN ?_ _) | (with_reducible refine Kd.C_drew ?_))); (case side4 => exact bL.out); (case side5 => repeat (first | exact (Kd.C_below aX.out HB.out) | (with_reducible refine Kd.C_alloc ?_ _) | (with_reducible refine Kd.C_drewN ?_ _) | (with_reducible refine Kd.C_drew ?_))); (case side6 => exact bM.out); rintro e w7 ⟨v397, rfl, ho0, hb⟩; refine ⟨_, rfl, ?_⟩; have n0_ := Aside0.mk (Kd.R_lower ho0 (below_size (by repeat (first | (with_reducible first | exact HB.out | apply below_alloc | apply pw_below_drewN | apply below_drew1 | refine below_set ?_ GE395.out) | exact HB.out)))); have n1_ := Aside0.mk (blk_below (g := gb395) (o := .cells #[.slice aG aD.length aH, .slice aK aA.length aI, .slice aM aC.length aJ] 26 (0, 0)) (by (with_reducible repeat (first | refine blk_drewN ?_ _ | refine blk_drew ?_ | refine blk_alloc ?_ _)); exact BK395.out) hb); have n2_ := Aside0.mk (below_step (by repeat (first | (with_reducible first | exact HB.out | apply below_alloc | apply pw_below_drewN | apply below_drew1 | refine below_set ?_ GE395.out) | exact HB.out)) hb); clear BK395; clear HB; have HO398 := n0_; have BK395 := n1_; have HB := n2_; clear n0_ n1_ n2_; (try clear hb); (try clear hb2); (try clear hk); (try clear hi); (try clear ho0)))
 go_ret2
 exact ⟨by first | rfl | (simp [errW_none, errW_some] <;> rfl) | (simp [*, errW_none, errW_some] <;> rfl), by repeat (first | (with_reducible first | exact HB.out | apply below_alloc | apply pw_below_drewN | apply below_drew1 | refine below_set ?_ GE395.out) | exact HB.out)⟩
end Go.Proofs.Ytkmmihadcbfkoaa.PM
end

section
namespace Go.Proofs.Ytkmmihadcbfkoaa
open Go.RowKit Go.Proofs.YtkmmihadcbfkoaaW.PrintWords PM
set_option linter.unusedVariables false
set_option linter.unusedSimpArgs false
section
variable {F : List Int} {S : List S50} {T : List (List Int)}
structure Shown (F : List Int) (S : List S50) (T : List (List Int)) (fn : Nat) (slot : Int) (t r : List Int) (may : Bool) : Prop where
 through : match_Through.f F S T (fn : Int) slot = some (t, may, 0)
 refuse : match_Refuse.f F S T (fn : Int) slot = some (r, !may, 0)
 can : may = true ↔ CanB S T fn slot
 yes : may = true → AsgB S T t ∧ t.getD fn 0 = slot ∧ r = []
 no : may = false → t = [] ∧ refuseP F S T (fn : Int) slot r = (true, 0)
theorem shown_is {fn : Nat} {slot : Int} (hq : askB F S T (fn : Int) slot false false = 0) (his : isF F S T = true) : ∃ t r may, Shown F S T fn slot t r may := by
 obtain ⟨hc, hfd, hsl⟩ := ask_parts hq
 have h1 := hfd rfl
 have h2 := hsl rfl
 have hnt := (bok_of_check hc).nt
 have hft : fn < T.length := by omega
 obtain ⟨w1, w2⟩ := withB_spec hc his hft h2.1
 have wi := withB_iff hc his hft h2.1
 have hT : match_Through.f F S T (fn : Int) slot = some ((withF T (rooms S) S.length (hasF F S T) fn slot).has, (withF T (rooms S) S.length (hasF F S T) fn slot).ok, 0) := by
  unfold match_Through.f
  rw [if_neg (fun h => h hq), if_neg (by rw [his]; simp), Int.toNat_natCast]
 by_cases hin : slot ∈ T.getD fn []
 rotate_left
 ·
  have hR : match_Refuse.f F S T (fn : Int) slot = some ([], true, 0) := by
   unfold match_Refuse.f
   rw [if_neg (fun h => h hq), if_neg (by rw [his]; simp), Int.toNat_natCast, if_pos hin]
  have hf : (withF T (rooms S) S.length (hasF F S T) fn slot).ok = false := by
   cases e : (withF T (rooms S) S.length (hasF F S T) fn slot).ok with
   | false => rfl
   | true => exact absurd (can_in hft h2.1 (wi.1 e)) hin
  rw [hf] at hT wi w2
  refine ⟨_, _, _, hT, hR, wi, fun h => (by cases h), fun _ => ⟨(w2 rfl).1, ?_⟩⟩
  unfold refuseP
  rw [if_neg (fun h => h hq), Int.toNat_natCast, if_pos hin]
  rfl
 have hR : match_Refuse.f F S T (fn : Int) slot = some ((hallR F S T (fn : Int) (roomsLess S slot)).hall, !(hallR F S T (fn : Int) (roomsLess S slot)).ok, 0) := by
  unfold match_Refuse.f
  rw [if_neg (fun h => h hq), if_neg (by rw [his]; simp), Int.toNat_natCast, if_neg (fun h => h hin)]
 have hnn := less_nn hc h2.1 h2.2
 have hiff : (hallR F S T (fn : Int) (roomsLess S slot)).ok = true ↔ CanB S T fn slot := (hallR_iff hc hnn).trans (canB_iff hc hft hin).symm
 have hsame : (hallR F S T (fn : Int) (roomsLess S slot)).ok = (withF T (rooms S) S.length (hasF F S T) fn slot).ok := by
  cases e : (withF T (rooms S) S.length (hasF F S T) fn slot).ok with
  | true => exact hiff.2 (wi.1 e)
  | false =>
   cases e2 : (hallR F S T (fn : Int) (roomsLess S slot)).ok with
   | false => rfl
   | true => exact absurd (hiff.1 e2) (w2 e).2
 rw [hsame] at hR
 refine ⟨_, _, _, hT, hR, wi, fun h => ⟨(w1 h).1, (w1 h).2, hallR_yes hc hnn (hsame.trans h)⟩, fun h => ⟨(w2 h).1, ?_⟩⟩
 unfold refuseP
 rw [if_neg (fun h => h hq), Int.toNat_natCast, if_neg (fun h => h hin)]
 have := (crowded_deny hc h2.1 h2.2).2 (hallR_no hc hnn (hsame.trans h))
 rw [this]
theorem refuseP_err {find slot : Int} (hq : askB F S T find slot false false = 0) (fs : List Int) : refuseP F S T find slot fs = ((refuseP F S T find slot fs).1, 0) := by
 unfold refuseP
 rw [if_neg (fun h => h hq)]
 split <;> rfl
theorem shown_may {fn : Nat} {slot : Int} {t r : List Int} {may : Bool} (h : Shown F S T fn slot t r may) : match_May.f F S T (fn : Int) slot = some (may, 0) := by
 unfold match_May.f
 rw [h.through]
 rfl
theorem shown_len {fn : Nat} {slot : Int} {t r : List Int} {may : Bool} (hq : askB F S T (fn : Int) slot false false = 0) (h : Shown F S T fn slot t r may) : r.length ≤ 9223372036854775807 := by
 obtain ⟨hc, hfd, hsl⟩ := ask_parts hq
 by_cases hm : may = true
 ·
  rw [(h.yes hm).2.2]; simp
 have hm' : may = false := by simpa using hm
 have hd := (h.no hm').2
 unfold refuseP at hd
 rw [if_neg (fun h => h hq)] at hd
 by_cases hin : slot ∈ T.getD ((fn : Int)).toNat []
 rotate_left
 ·
  rw [if_pos hin] at hd
  have : decide (r = []) = true := congrArg Prod.fst hd
  rw [of_decide_eq_true this]; simp
 rw [if_neg (fun h => h hin)] at hd
 have hcr : crowdedB F S T r (fn : Int) slot = true := congrArg Prod.fst hd
 have h2 := hsl rfl
 have := hall_len hc ((crowded_deny hc h2.1 h2.2).1 hcr)
 omega
end
end Go.Proofs.Ytkmmihadcbfkoaa
end
