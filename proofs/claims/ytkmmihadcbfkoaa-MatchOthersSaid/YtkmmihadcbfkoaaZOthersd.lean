/-
  MatchOthers holds: for every board, find and slot, the law returns true and what it is given reads as it did. (part 4 of 6 of the texts that it stands on)
-/
import Derived.Lib.SliceRun
import Derived.Test.YtkmmihadcbfkoaaZOthersc
section
namespace Go.Proofs.Ytkmmihadcbfkoaa
open Go.RowKit Go.Proofs.YtkmmihadcbfkoaaW.PrintWords PM
set_option linter.unusedVariables false
set_option linter.unusedSimpArgs false
theorem fits2_world (w : World) (o : Obj) :
    ∃ W, (((((w.alloc o).alloc (.cells #[.int .i64 0] 3)).alloc (.cells #[.int .i64 0] 3)).alloc (.cells #[.int .i64 0, .int .i64 1] 3)).alloc
      (.cells #[.slice (some ⟨w.heap.size + 1, 0, none⟩) 1 1, .slice (some ⟨w.heap.size + 1 + 1, 0, none⟩) 1 1, .slice (some ⟨w.heap.size + 1 + 1 + 1, 0, none⟩) 2 2] 22)) = W ∧
      Below w.heap.size w W ∧ Kd.C (Kd.slice 3 (Kd.int .i64)) W (some ⟨w.heap.size + 1 + 1 + 1 + 1, 0, none⟩) bdT2.length bdT2 := by
  have hB : Below w.heap.size w (((((w.alloc o).alloc (.cells #[.int .i64 0] 3)).alloc (.cells #[.int .i64 0] 3)).alloc (.cells #[.int .i64 0, .int .i64 1] 3)).alloc
      (.cells #[.slice (some ⟨w.heap.size + 1, 0, none⟩) 1 1, .slice (some ⟨w.heap.size + 1 + 1, 0, none⟩) 1 1, .slice (some ⟨w.heap.size + 1 + 1 + 1, 0, none⟩) 2 2] 22)) := by
    repeat (first | exact Below.refl _ _ | refine below_alloc ?_ _)
  refine ⟨_, rfl, hB, ?_⟩
  obtain ⟨W, hW⟩ : ∃ W, (((((w.alloc o).alloc (.cells #[.int .i64 0] 3)).alloc (.cells #[.int .i64 0] 3)).alloc (.cells #[.int .i64 0, .int .i64 1] 3)).alloc
      (.cells #[.slice (some ⟨w.heap.size + 1, 0, none⟩) 1 1, .slice (some ⟨w.heap.size + 1 + 1, 0, none⟩) 1 1, .slice (some ⟨w.heap.size + 1 + 1 + 1, 0, none⟩) 2 2] 22)) = W := ⟨_, rfl⟩
  have e1 : W.heap[w.heap.size + 1]? = some (.cells #[.int .i64 0] 3 (0, 0)) := by
    rw [← hW]
    repeat (first | exact blk_new _ _ | (refine (congrArg _ ?_).trans (blk_new _ _); simp only [World.size_alloc]; done) | refine blk_alloc ?_ _)
  have e2 : W.heap[w.heap.size + 1 + 1]? = some (.cells #[.int .i64 0] 3 (0, 0)) := by
    rw [← hW]
    repeat (first | exact blk_new _ _ | (refine (congrArg _ ?_).trans (blk_new _ _); simp only [World.size_alloc]; done) | refine blk_alloc ?_ _)
  have e3 : W.heap[w.heap.size + 1 + 1 + 1]? = some (.cells #[.int .i64 0, .int .i64 1] 3 (0, 0)) := by
    rw [← hW]
    repeat (first | exact blk_new _ _ | (refine (congrArg _ ?_).trans (blk_new _ _); simp only [World.size_alloc]; done) | refine blk_alloc ?_ _)
  have e4 : W.heap[w.heap.size + 1 + 1 + 1 + 1]? = some (.cells #[.slice (some ⟨w.heap.size + 1, 0, none⟩) 1 1, .slice (some ⟨w.heap.size + 1 + 1, 0, none⟩) 1 1, .slice (some ⟨w.heap.size + 1 + 1 + 1, 0, none⟩) 2 2] 22 (0, 0)) := by
    rw [← hW]
    repeat (first | exact blk_new _ _ | (refine (congrArg _ ?_).trans (blk_new _ _); simp only [World.size_alloc]; done) | refine blk_alloc ?_ _)
  rw [hW]
  have r0 := rowC (l := [0]) e1 (by decide) (fun j v hv => by
    match j, hv with
    | 0, hv => have : (0 : Int) = v := by simpa using hv
               subst this; rfl)
  have r1 := rowC (l := [0]) e2 (by decide) (fun j v hv => by
    match j, hv with
    | 0, hv => have : (0 : Int) = v := by simpa using hv
               subst this; rfl)
  have r2 := rowC (l := [0, 1]) e3 (by decide) (fun j v hv => by
    match j, hv with
    | 0, hv => have : (0 : Int) = v := by simpa using hv
               subst this; rfl
    | 1, hv => have : (1 : Int) = v := by simpa using hv
               subst this; rfl)
  refine rowsC e4 (by decide) (fun j v hv => ?_)
  match j, hv with
  | 0, hv => have : ([0] : List Int) = v := by simpa [bdT2] using hv
             subst this; exact ⟨_, _, rfl, by decide, r0⟩
  | 1, hv => have : ([0] : List Int) = v := by simpa [bdT2] using hv
             subst this; exact ⟨_, _, rfl, by decide, r1⟩
  | 2, hv => have : ([0, 1] : List Int) = v := by simpa [bdT2] using hv
             subst this; exact ⟨_, _, rfl, by decide, r2⟩
  | n + 3, hv => simp [bdT2] at hv
/-- A list as said, beside a new one of the same numbers. -/
theorem same_calls {A : Option Addr} {c : Nat} {l : List Int} {w : World} (hr : Kd.C (Kd.int .i64) w A l.length l) (hc : l.length ≤ c) (hf : laganref04_SameInts.f 5 l l = some true) (hl : l.length ≤ 100) :
  Calls Try.prog 22 #[.slice A l.length c, .slice (some ⟨w.heap.size, 0, none⟩) l.length l.length] (w.alloc (.cells (l.map (Value.int .i64)).toArray 3)) fun e w' => e = .returned (.bool true) ∧ Below w.heap.size w w' := by
 have hb := (Below.refl w.heap.size w).alloc (Nat.le_refl _) (.cells (l.map (Value.int .i64)).toArray 3)
 refine (laganref04_SameInts.calls 5 A c l (some ⟨w.heap.size, 0, none⟩) l.length l true _ (Kd.C_below hr hb) hc (rowC (World.alloc_heap_new w _) (by omega) (fun j v hv => by simp [hv])) (Nat.le_refl _) hf).mono ?_
 rintro e w' ⟨rfl, hd⟩
 exact ⟨rfl, hb.trans (hd.below.mono hb.size)⟩
set_option maxRecDepth 100000 in
set_option maxHeartbeats 8000000 in
theorem matched_walk (w : World) : Calls Try.prog 14 #[] w fun e w' => e = .returned (.bool true) ∧ Below w.heap.size w w' := by
 go_enter Try.func14, Try.ntmps14
 go_wp2_with fail
 refine (board_calls 1 _).mono ?_
 rintro e w1 ⟨A0, c0, A1, c1, A2, c2, rfl, hc0, hc1, hc2, h0, h1, h2, hb1⟩
 have AC := PM.match_Assign.calls A0 c0 bdF A1 c1 (bdS 1) A2 c2 bdT _ _ _ w1 h0 hc0 h1 hc1 h2 hc2 bd_assign
 have HB1 := Go.Lib.hid hb1
 clear hc0 hc1 hc2 h0 h1 h2 hb1
 go_wp2_with fail
 refine AC.mono ?_
 clear AC
 rintro e w2 ⟨va, rfl, hRa, hb2⟩
 obtain ⟨Aa, ca, rfl, hla, hCa⟩ := Kd.R_reads hRa
 have HB2 := Go.Lib.hid (HB1.out.trans (hb2.mono HB1.out.size))
 have HCa := Go.Lib.hid hCa
 clear hRa hb2 hCa HB1
 go_wp2_with fail
 refine (board_calls 1 _).mono ?_
 rintro e w3 ⟨A0, c0, A1, c1, A2, c2, rfl, hc0, hc1, hc2, h0, h1, h2, hb3⟩
 have MC := PM.match_Must.calls 5 A0 c0 bdF A1 c1 (bdS 1) A2 c2 bdT _ _ w3 h0 hc0 h1 hc1 h2 hc2 bd_must1
 have HB3 := Go.Lib.hid (HB2.out.trans (hb3.mono HB2.out.size))
 have HCa3 := Go.Lib.hid (Kd.C_below HCa.out hb3)
 clear hc0 hc1 hc2 h0 h1 h2 hb3 HB2 HCa
 go_wp2_with fail
 refine MC.mono ?_
 clear MC
 rintro e w4 ⟨vb, rfl, hRb, hb4⟩
 obtain ⟨Ab, cb, rfl, hlb, hCb⟩ := Kd.R_reads hRb
 have HB4 := Go.Lib.hid (HB3.out.trans (hb4.mono HB3.out.size))
 have HCa4 := Go.Lib.hid (Kd.C_below HCa3.out hb4)
 have HCb4 := Go.Lib.hid hCb
 clear hRb hb4 hCb HB3 HCa3
 go_wp2_with fail
 refine (board_calls 2 _).mono ?_
 rintro e w5 ⟨A0, c0, A1, c1, A2, c2, rfl, hc0, hc1, hc2, h0, h1, h2, hb5⟩
 have MC := PM.match_Must.calls 5 A0 c0 bdF A1 c1 (bdS 2) A2 c2 bdT _ _ w5 h0 hc0 h1 hc1 h2 hc2 bd_must2
 have HB5 := Go.Lib.hid (HB4.out.trans (hb5.mono HB4.out.size))
 have HCa5 := Go.Lib.hid (Kd.C_below HCa4.out hb5)
 have HCb5 := Go.Lib.hid (Kd.C_below HCb4.out hb5)
 clear hc0 hc1 hc2 h0 h1 h2 hb5 HB4 HCa4 HCb4
 go_wp2_with fail
 refine MC.mono ?_
 clear MC
 rintro e w6 ⟨vc, rfl, hRc, hb6⟩
 obtain ⟨Ac, cc, rfl, hlc, hCc⟩ := Kd.R_reads hRc
 have HB6 := Go.Lib.hid (HB5.out.trans (hb6.mono HB5.out.size))
 have HCa6 := Go.Lib.hid (Kd.C_below HCa5.out hb6)
 have HCb6 := Go.Lib.hid (Kd.C_below HCb5.out hb6)
 have HCc6 := Go.Lib.hid hCc
 clear hRc hb6 hCc HB5 HCa5 HCb5
 go_wp2_with fail
 refine (board_calls 1 _).mono ?_
 rintro e w7 ⟨A0, c0, A1, c1, A2, c2, rfl, hc0, hc1, hc2, h0, h1, h2, hb7⟩
 have RC := PM.match_Refuse.calls A0 c0 bdF A1 c1 (bdS 1) A2 c2 bdT 2 1 _ _ _ w7 h0 hc0 h1 hc1 h2 hc2 bd_refuse
 have HB7 := Go.Lib.hid (HB6.out.trans (hb7.mono HB6.out.size))
 have HCa7 := Go.Lib.hid (Kd.C_below HCa6.out hb7)
 have HCb7 := Go.Lib.hid (Kd.C_below HCb6.out hb7)
 have HCc7 := Go.Lib.hid (Kd.C_below HCc6.out hb7)
 clear hc0 hc1 hc2 h0 h1 h2 hb7 HB6 HCa6 HCb6 HCc6
 go_wp2_with fail
 refine RC.mono ?_
 clear RC
 rintro e w8 ⟨vd, rfl, hRd, hb8⟩
 obtain ⟨Ad, cd, rfl, hld, hCd⟩ := Kd.R_reads hRd
 have HB8 := Go.Lib.hid (HB7.out.trans (hb8.mono HB7.out.size))
 have HC8 := Go.Lib.hid (And.intro (Kd.C_below HCa7.out hb8) (And.intro (Kd.C_below HCb7.out hb8) (And.intro (Kd.C_below HCc7.out hb8) hCd)))
 clear hRd hb8 hCd HB7 HCa7 HCb7 HCc7
 go_wp2_with fail
 refine (board_calls 2 _).mono ?_
 rintro e w9 ⟨A0, c0, A1, c1, A2, c2, rfl, hc0, hc1, hc2, h0, h1, h2, hb9⟩
 have LC := PM.match_Load.calls A0 c0 bdF A1 c1 (bdS 2) A2 c2 bdT 0 _ _ _ w9 h0 hc0 h1 hc1 h2 hc2 bd_load
 have HB9 := Go.Lib.hid (HB8.out.trans (hb9.mono HB8.out.size))
 have HC9 := Go.Lib.hid (And.intro (Kd.C_below HC8.out.1 hb9) (And.intro (Kd.C_below HC8.out.2.1 hb9) (And.intro (Kd.C_below HC8.out.2.2.1 hb9) (Kd.C_below HC8.out.2.2.2 hb9))))
 clear hc0 hc1 hc2 h0 h1 h2 hb9 HB8 HC8
 go_wp2_with fail
 refine LC.mono ?_
 clear LC
 rintro e w10 ⟨rfl, hb10⟩
 have HB10 := Go.Lib.hid (HB9.out.trans (hb10.mono HB9.out.size))
 have HC10 := Go.Lib.hid (And.intro (Kd.C_below HC9.out.1 hb10) (And.intro (Kd.C_below HC9.out.2.1 hb10) (And.intro (Kd.C_below HC9.out.2.2.1 hb10) (Kd.C_below HC9.out.2.2.2 hb10))))
 clear hb10 HB9 HC9
 go_wp2_with fail
 refine (board_calls 1 _).mono ?_
 rintro e w11 ⟨A0, c0, A1, c1, A2, c2, rfl, hc0, hc1, hc2, h0, h1, h2, hb11⟩
 have HB11 := Go.Lib.hid (HB10.out.trans (hb11.mono HB10.out.size))
 have HC11 := Go.Lib.hid (And.intro (Kd.C_below HC10.out.1 hb11) (And.intro (Kd.C_below HC10.out.2.1 hb11) (And.intro (Kd.C_below HC10.out.2.2.1 hb11) (Kd.C_below HC10.out.2.2.2 hb11))))
 have HD := Go.Lib.hid (And.intro h0 h1)
 clear hc2 h0 h1 h2 hb11 HB10 HC10
 go_wp2_with fail
 obtain ⟨W12, hW12, hb12, hT2⟩ := fits2_world w11 (.cells #[.slice A0 bdF.length c0, .slice A1 (bdS 1).length c1, .slice (some ⟨w11.heap.size + 1 + 1 + 1 + 1, 0, none⟩) 3 3] 26)
 rw [hW12]
 have HC := PM.match_Hall.calls A0 c0 bdF A1 c1 (bdS 1) _ 3 bdT2 _ _ _ W12 (Kd.C_below HD.out.1 hb12) hc0 (Kd.C_below HD.out.2 hb12) hc1 hT2 (by decide) bd_hall
 have HB12 := Go.Lib.hid (HB11.out.trans (hb12.mono HB11.out.size))
 have HC12 := Go.Lib.hid (And.intro (Kd.C_below HC11.out.1 hb12) (And.intro (Kd.C_below HC11.out.2.1 hb12) (And.intro (Kd.C_below HC11.out.2.2.1 hb12) (Kd.C_below HC11.out.2.2.2 hb12))))
 clear hW12 hb12 hT2 HD HB11 HC11 hc0 hc1
 refine HC.mono ?_
 clear HC
 rintro e w13 ⟨vk, rfl, hRk, hb13⟩
 obtain ⟨Ak, ck, rfl, hlk, _⟩ := Kd.R_reads hRk
 have HB13 := Go.Lib.hid (HB12.out.trans (hb13.mono HB12.out.size))
 have HC13 := Go.Lib.hid (And.intro (Kd.C_below HC12.out.1 hb13) (And.intro (Kd.C_below HC12.out.2.1 hb13) (And.intro (Kd.C_below HC12.out.2.2.1 hb13) (Kd.C_below HC12.out.2.2.2 hb13))))
 clear hRk hb13 HB12 HC12
 have SA := same_calls HC13.out.1 hla (by kernel_rfl) (by decide)
 go_wp2_with fail
 refine SA.mono ?_
 clear SA
 rintro e w14 ⟨rfl, hb14⟩
 have HB14 := Go.Lib.hid (HB13.out.trans (hb14.mono HB13.out.size))
 have SB := same_calls (Kd.C_below HC13.out.2.1 hb14) hlb (by kernel_rfl) (by decide)
 have HC14 := Go.Lib.hid (And.intro (Kd.C_below HC13.out.2.2.1 hb14) (Kd.C_below HC13.out.2.2.2 hb14))
 clear hb14 HB13 HC13
 go_wp2_with fail
 refine SB.mono ?_
 clear SB
 rintro e w15 ⟨rfl, hb15⟩
 have HB15 := Go.Lib.hid (HB14.out.trans (hb15.mono HB14.out.size))
 have SC := same_calls (Kd.C_below HC14.out.1 hb15) hlc (by kernel_rfl) (by decide)
 have HC15 := Go.Lib.hid (Kd.C_below HC14.out.2 hb15)
 clear hb15 HB14 HC14
 go_wp2_with fail
 refine SC.mono ?_
 clear SC
 rintro e w16 ⟨rfl, hb16⟩
 have HB16 := Go.Lib.hid (HB15.out.trans (hb16.mono HB15.out.size))
 have SD := same_calls (Kd.C_below HC15.out hb16) hld (by kernel_rfl) (by decide)
 clear hb16 HB15 HC15
 go_wp2_with fail
 refine SD.mono ?_
 clear SD
 rintro e w17 ⟨rfl, hb17⟩
 have HB17 := Go.Lib.hid (HB16.out.trans (hb17.mono HB16.out.size))
 clear hb17 HB16
 go_wp2_with fail
 go_ret
 exact ⟨rfl, HB17.out⟩
end Go.Proofs.Ytkmmihadcbfkoaa
end

section
namespace Go.Proofs.Ytkmmihadcbfkoaa
open Go.RowKit Go.Proofs.YtkmmihadcbfkoaaW.PrintWords PM
set_option linter.unusedVariables false
set_option linter.unusedSimpArgs false
structure LAt (w0 : World) (A0 : Option Addr) (c0 : Nat) (F : List Int) (A1 : Option Addr) (c1 : Nat) (S : List S50) (A2 : Option Addr) (c2 : Nat) (T : List (List Int)) (w : World) : Prop where
 box : w.heap[w0.heap.size]? = some (.cells #[.slice A0 F.length c0, .slice A1 S.length c1, .slice A2 T.length c2] 26 (0, 0))
 B : Below w0.heap.size w0 w
 C0 : Kd.C (Kd.int .i64) w A0 F.length F
 l0 : F.length ≤ c0
 C1 : Kd.C k50 w A1 S.length S
 l1 : S.length ≤ c1
 C2 : Kd.C (Kd.slice 3 (Kd.int .i64)) w A2 T.length T
 l2 : T.length ≤ c2
section
variable {w0 w w' : World} {A0 : Option Addr} {c0 : Nat} {F : List Int} {A1 : Option Addr} {c1 : Nat} {S : List S50} {A2 : Option Addr} {c2 : Nat} {T : List (List Int)}
theorem LAt.start (C0 : Kd.C (Kd.int .i64) w0 A0 F.length F) (l0 : F.length ≤ c0) (C1 : Kd.C k50 w0 A1 S.length S) (l1 : S.length ≤ c1) (C2 : Kd.C (Kd.slice 3 (Kd.int .i64)) w0 A2 T.length T) (l2 : T.length ≤ c2) :
  LAt w0 A0 c0 F A1 c1 S A2 c2 T (w0.alloc (.cells #[.slice A0 F.length c0, .slice A1 S.length c1, .slice A2 T.length c2] 26)) := by
 have hB := (Below.refl w0.heap.size w0).alloc (Nat.le_refl _) (.cells #[.slice A0 F.length c0, .slice A1 S.length c1, .slice A2 T.length c2] 26)
 exact ⟨World.alloc_heap_new w0 _, hB, Kd.C_below C0 hB, l0, Kd.C_below C1 hB, l1, Kd.C_below C2 hB, l2⟩
theorem LAt.later (h : LAt w0 A0 c0 F A1 c1 S A2 c2 T w) (hb : Below w.heap.size w w') : LAt w0 A0 c0 F A1 c1 S A2 c2 T w' :=
 ⟨(hb.block w0.heap.size (Array.getElem?_eq_some_iff.1 h.box).1).trans h.box, h.B.trans (hb.mono h.B.size), Kd.C_below h.C0 hb, h.l0, Kd.C_below h.C1 hb, h.l1, Kd.C_below h.C2 hb, h.l2⟩
theorem LAt.k0 (h : LAt w0 A0 c0 F A1 c1 S A2 c2 T w) : w.cell? ⟨w0.heap.size, 0, none⟩ = some (.slice A0 F.length c0) := cell_of_heap h.box (j := 0) rfl
theorem LAt.k1 (h : LAt w0 A0 c0 F A1 c1 S A2 c2 T w) : w.cell? ⟨w0.heap.size, 1, none⟩ = some (.slice A1 S.length c1) := cell_of_heap h.box (j := 1) rfl
theorem LAt.k2 (h : LAt w0 A0 c0 F A1 c1 S A2 c2 T w) : w.cell? ⟨w0.heap.size, 2, none⟩ = some (.slice A2 T.length c2) := cell_of_heap h.box (j := 2) rfl
theorem LAt.rows (h : LAt w0 A0 c0 F A1 c1 S A2 c2 T w) : ∀ l, l ∈ T → l.length ≤ 9223372036854775807 := by
 intro l hl
 obtain ⟨j, hj, he⟩ := List.getElem_of_mem hl
 obtain ⟨ad, _, hc⟩ := h.C2.2.2 (by omega)
 obtain ⟨c, _, ⟨A', c', _, _, hC⟩, _⟩ := hc j l (by rw [List.getElem?_eq_getElem hj, he])
 exact hC.2.1
end
end Go.Proofs.Ytkmmihadcbfkoaa
end

section
namespace Go.Proofs.Ytkmmihadcbfkoaa.PM
open Go.RowKit Go.Proofs.YtkmmihadcbfkoaaW.PrintWords Go.Proofs.YtkmmihadcbfkoaaW.PrintLast Go.Proofs.YtkmmihadcbfkoaaW.PrintMore
set_option linter.unusedVariables false
set_option linter.unusedSimpArgs false
def laganref04_SameLists.l0 : Nat → List (List Int) → List (List Int) → Int → Option (Bool)
 | 0, _, _, _ => none
 | k + 1, x0, x1, x5 => if x5 < (x0.length : Int) then (if 0 ≤ x5 then (if x5 < (x1.length : Int) then ((laganref04_SameInts.f k (rd_L1 x0 x5) (rd_L1 x1 x5)).bind fun t223 => (if t223 = true then (laganref04_SameLists.l0 k x0 x1 (wrap64 (x5 + 1))) else (some false))) else (none)) else (none)) else (some true)
def laganref04_SameLists.f (k : Nat) (l0 : List (List Int)) (l1 : List (List Int)) : Option (Bool) := if (l0.length : Int) = (l1.length : Int) then (laganref04_SameLists.l0 k l0 l1 0) else (some false)
set_option maxHeartbeats 8000000 in
set_option maxRecDepth 100000 in
theorem laganref04_SameLists.calls (k : Nat) (A0 : Option Addr) (c0 : Nat) (l0 : List (List Int)) (A1 : Option Addr) (c1 : Nat) (l1 : List (List Int)) (r : Bool) (w : World) (hr0 : Kd.C (Kd.slice 3 (Kd.int .i64)) w A0 l0.length l0) (hc0 : l0.length ≤ c0) (hr1 : Kd.C (Kd.slice 3 (Kd.int .i64)) w A1 l1.length l1) (hc1 : l1.length ≤ c1) (h : laganref04_SameLists.f k l0 l1 = some r) :
  Calls Try.prog 23 #[.slice A0 l0.length c0, .slice A1 l1.length c1] w fun e w' => e = .returned (.bool r) ∧ Drawn0 w w' := by
 have HR0 := Aside0.mk hr0
 have HC0 := Aside0.mk hc0
 clear hr0 hc0
 have HR1 := Aside0.mk hr1
 have HC1 := Aside0.mk hc1
 clear hr1 hc1
 have H : (if (l0.length : Int) = (l1.length : Int) then (laganref04_SameLists.l0 k l0 l1 0) else (some false)) = some r := h
 clear h
 by_cases c3 : (l0.length : Int) = (l1.length : Int)
 rotate_left
 ·
  rw [if_neg c3] at H
  have c3b0 : ((l0.length : Int) == (l1.length : Int)) = false := beq_eq_false_iff_ne.mpr c3
  have c3b1 : ((l0.length : Int) != (l1.length : Int)) = true := bne_iff_ne.mpr c3
  have c3b2 : (l0.length == l1.length) = false := by first | simpa using c3 | (simp at c3 ⊢; omega)
  obtain rfl := Option.some.inj H
  go_enter Try.func23, Try.ntmps23
  go_wp2
  repeat (go_quiet (fail); try go_wp2)
  go_ret
  exact ⟨by first | rfl | (simp; done) | (simp [*]; done), by repeat (first | exact Drawn0.refl _ | apply Drawn0.step)⟩
 rw [if_pos c3] at H
 have c3b0 : ((l0.length : Int) == (l1.length : Int)) = true := beq_iff_eq.mpr c3
 have c3b1 : ((l0.length : Int) != (l1.length : Int)) = false := bne_eq_false_iff_eq.mpr c3
 have c3b2 : (l0.length == l1.length) = true := by first | simpa using c3 | (simp at c3 ⊢; omega)
 clear c3
 have H' := Aside0.mk H
 clear H
 go_enter Try.func23, Try.ntmps23
 go_wp2
 repeat (go_quiet (fail); try go_wp2)
 go_loopg [5] k (fun kq v5 w' => ∃ (x5_1 : Int), v5 = .int .i64 x5_1 ∧ Aside0 (laganref04_SameLists.l0 kq l0 l1 x5_1 = some r) ∧ Aside0 (kq ≤ k) ∧ Drawn0 w w')
 case atStart => exact ⟨(0), (by first | rfl | (simp; done) | (simp [*]; done)), H', ⟨Nat.le_refl _⟩, by repeat (first | exact Drawn0.refl _ | apply Drawn0.step)⟩
 clear H'
 try clear c1
 try clear c2
 try clear p2
 try clear c3
 try clear c3b0
 try clear c3b1
 try clear c3b2
 obtain ⟨x5_1, rfl, HA, HK1, ⟨m1, rfl⟩⟩ := hrel
 cases gk with
 | zero => exact absurd HA.out (by simp [laganref04_SameLists.l0])
 | succ k1 =>
  have H := HA.out
  clear HA
  simp only [laganref04_SameLists.l0] at H
  by_cases c4 : x5_1 < (l0.length : Int)
  rotate_left
  ·
   rw [if_neg c4] at H
   have c4b0 : decide (x5_1 < (l0.length : Int)) = false := decide_eq_false c4
   clear c4
   obtain rfl := Option.some.inj H
   go_wp2
   repeat (go_quiet (fail); try go_wp2)
   go_ret
   exact ⟨by first | rfl | (simp; done) | (simp [*]; done), by repeat (first | exact Drawn0.refl _ | apply Drawn0.step)⟩
  rw [if_pos c4] at H
  have c4b0 : decide (x5_1 < (l0.length : Int)) = true := decide_eq_true c4
  clear c4
  by_cases c5 : 0 ≤ x5_1
  rotate_left
  ·
   rw [if_neg c5] at H
   exact absurd H (by simp)
  rw [if_pos c5] at H
  have c5b0 : decide (0 ≤ x5_1) = true := decide_eq_true c5
  clear c5
  by_cases c6 : x5_1 < (l1.length : Int)
  rotate_left
  ·
   rw [if_neg c6] at H
   exact absurd H (by simp)
  rw [if_pos c6] at H
  have c6b0 : decide (x5_1 < (l1.length : Int)) = true := decide_eq_true c6
  clear c6
  replace H := Option.bind_eq_some_iff.mp H
  obtain ⟨t223, A70, H⟩ := H
  replace H : (if t223 = true then (laganref04_SameLists.l0 k1 l0 l1 (wrap64 (x5_1 + 1))) else (some false)) = some r := H
  have A7 := Aside0.mk A70
  clear A70
  by_cases c8 : t223 = true
  rotate_left
  ·
   replace c8 := Bool.eq_false_iff.mpr c8
   subst c8
   have H1 : (some false) = some r := by rw [if_neg (show ¬ (false = true) by decide)] at H; exact H
   clear H
   have H := H1
   clear H1
   obtain rfl := Option.some.inj H
   have p221 : 0 ≤ (x5_1 : Int) := of_decide_eq_true (by first | (with_reducible assumption) | assumption)
   have q221 : x5_1 < (l0.length : Int) := of_decide_eq_true (by first | (with_reducible assumption) | assumption)
   obtain ⟨ad221, A221_0, c221_0, e221, hx221_0, hl221_0, hi221_0⟩ := at_L1 HR0.out x5_1 p221 q221
   cases e221
   have HR221_0 := Aside0.mk hi221_0
   have HC221_0 := Aside0.mk hl221_0
   clear hi221_0 hl221_0
   replace p221 := eq_true p221
   replace q221 := eq_true q221
   have p222 : 0 ≤ (x5_1 : Int) := of_decide_eq_true (by first | (with_reducible assumption) | assumption)
   have q222 : x5_1 < (l1.length : Int) := of_decide_eq_true (by first | (with_reducible assumption) | assumption)
   obtain ⟨ad222, A222_0, c222_0, e222, hx222_0, hl222_0, hi222_0⟩ := at_L1 HR1.out x5_1 p222 q222
   cases e222
   have HR222_0 := Aside0.mk hi222_0
   have HC222_0 := Aside0.mk hl222_0
   clear hi222_0 hl222_0
   replace p222 := eq_true p222
   replace q222 := eq_true q222
   go_wp2_with (first | (go_at_call 22; (with_reducible refine (laganref04_SameInts.calls k1 _ _ (rd_L1 l0 x5_1) _ _ (rd_L1 l1 x5_1) false _ ?side1 ?side2 ?side3 ?side4 A7.out).mono ?_); (case side1 => repeat (first | exact HR221_0.out | (with_reducible refine Kd.C_alloc ?_ _) | (with_reducible refine Kd.C_drewN ?_ _) | (with_reducible refine Kd.C_drew ?_))); (case side2 => exact HC221_0.out); (case side3 => repeat (first | exact HR222_0.out | (with_reducible refine Kd.C_alloc ?_ _) | (with_reducible refine Kd.C_drewN ?_ _) | (with_reducible refine Kd.C_drew ?_))); (case side4 => exact HC222_0.out); rintro e w' ⟨rfl, ⟨nd, rfl⟩⟩; (try first | exact ⟨rfl, _, World.drewN_drewN _ _ _⟩ | exact ⟨rfl, _, Eq.trans (World.drewN_drewN _ _ _) (congrArg (World.drewN _) (Nat.add_assoc _ _ _))⟩)))
   repeat (go_quiet (first | (go_at_call 22; (with_reducible refine (laganref04_SameInts.calls k1 _ _ (rd_L1 l0 x5_1) _ _ (rd_L1 l1 x5_1) false _ ?side1 ?side2 ?side3 ?side4 A7.out).mono ?_); (case side1 => repeat (first | exact HR221_0.out | (with_reducible refine Kd.C_alloc ?_ _) | (with_reducible refine Kd.C_drewN ?_ _) | (with_reducible refine Kd.C_drew ?_))); (case side2 => exact HC221_0.out); (case side3 => repeat (first | exact HR222_0.out | (with_reducible refine Kd.C_alloc ?_ _) | (with_reducible refine Kd.C_drewN ?_ _) | (with_reducible refine Kd.C_drew ?_))); (case side4 => exact HC222_0.out); rintro e w' ⟨rfl, ⟨nd, rfl⟩⟩; (try first | exact ⟨rfl, _, World.drewN_drewN _ _ _⟩ | exact ⟨rfl, _, Eq.trans (World.drewN_drewN _ _ _) (congrArg (World.drewN _) (Nat.add_assoc _ _ _))⟩))); try go_wp2_with (first | (go_at_call 22; (with_reducible refine (laganref04_SameInts.calls k1 _ _ (rd_L1 l0 x5_1) _ _ (rd_L1 l1 x5_1) false _ ?side1 ?side2 ?side3 ?side4 A7.out).mono ?_); (case side1 => repeat (first | exact HR221_0.out | (with_reducible refine Kd.C_alloc ?_ _) | (with_reducible refine Kd.C_drewN ?_ _) | (with_reducible refine Kd.C_drew ?_))); (case side2 => exact HC221_0.out); (case side3 => repeat (first | exact HR222_0.out | (with_reducible refine Kd.C_alloc ?_ _) | (with_reducible refine Kd.C_drewN ?_ _) | (with_reducible refine Kd.C_drew ?_))); (case side4 => exact HC222_0.out); rintro e w' ⟨rfl, ⟨nd, rfl⟩⟩; (try first | exact ⟨rfl, _, World.drewN_drewN _ _ _⟩ | exact ⟨rfl, _, Eq.trans (World.drewN_drewN _ _ _) (congrArg (World.drewN _) (Nat.add_assoc _ _ _))⟩))))
   go_ret
   exact ⟨by first | rfl | (simp; done) | (simp [*]; done), by repeat (first | exact Drawn0.refl _ | apply Drawn0.step)⟩
  subst c8
  have H1 : (laganref04_SameLists.l0 k1 l0 l1 (wrap64 (x5_1 + 1))) = some r := by rw [if_pos rfl] at H; exact H
  clear H
  have H := H1
  clear H1
  have H' := Aside0.mk H
  clear H
  have p221 : 0 ≤ (x5_1 : Int) := of_decide_eq_true (by first | (with_reducible assumption) | assumption)
  have q221 : x5_1 < (l0.length : Int) := of_decide_eq_true (by first | (with_reducible assumption) | assumption)
  obtain ⟨ad221, A221_0, c221_0, e221, hx221_0, hl221_0, hi221_0⟩ := at_L1 HR0.out x5_1 p221 q221
  cases e221
  have HR221_0 := Aside0.mk hi221_0
  have HC221_0 := Aside0.mk hl221_0
  clear hi221_0 hl221_0
  replace p221 := eq_true p221
  replace q221 := eq_true q221
  have p222 : 0 ≤ (x5_1 : Int) := of_decide_eq_true (by first | (with_reducible assumption) | assumption)
  have q222 : x5_1 < (l1.length : Int) := of_decide_eq_true (by first | (with_reducible assumption) | assumption)
  obtain ⟨ad222, A222_0, c222_0, e222, hx222_0, hl222_0, hi222_0⟩ := at_L1 HR1.out x5_1 p222 q222
  cases e222
  have HR222_0 := Aside0.mk hi222_0
  have HC222_0 := Aside0.mk hl222_0
  clear hi222_0 hl222_0
  replace p222 := eq_true p222
  replace q222 := eq_true q222
  go_wp2_with (first | (go_at_call 22; (with_reducible refine (laganref04_SameInts.calls k1 _ _ (rd_L1 l0 x5_1) _ _ (rd_L1 l1 x5_1) true _ ?side1 ?side2 ?side3 ?side4 A7.out).mono ?_); (case side1 => repeat (first | exact HR221_0.out | (with_reducible refine Kd.C_alloc ?_ _) | (with_reducible refine Kd.C_drewN ?_ _) | (with_reducible refine Kd.C_drew ?_))); (case side2 => exact HC221_0.out); (case side3 => repeat (first | exact HR222_0.out | (with_reducible refine Kd.C_alloc ?_ _) | (with_reducible refine Kd.C_drewN ?_ _) | (with_reducible refine Kd.C_drew ?_))); (case side4 => exact HC222_0.out); rintro e w' ⟨rfl, ⟨nd, rfl⟩⟩; (try first | exact ⟨rfl, _, World.drewN_drewN _ _ _⟩ | exact ⟨rfl, _, Eq.trans (World.drewN_drewN _ _ _) (congrArg (World.drewN _) (Nat.add_assoc _ _ _))⟩)))
  repeat (go_quiet (first | (go_at_call 22; (with_reducible refine (laganref04_SameInts.calls k1 _ _ (rd_L1 l0 x5_1) _ _ (rd_L1 l1 x5_1) true _ ?side1 ?side2 ?side3 ?side4 A7.out).mono ?_); (case side1 => repeat (first | exact HR221_0.out | (with_reducible refine Kd.C_alloc ?_ _) | (with_reducible refine Kd.C_drewN ?_ _) | (with_reducible refine Kd.C_drew ?_))); (case side2 => exact HC221_0.out); (case side3 => repeat (first | exact HR222_0.out | (with_reducible refine Kd.C_alloc ?_ _) | (with_reducible refine Kd.C_drewN ?_ _) | (with_reducible refine Kd.C_drew ?_))); (case side4 => exact HC222_0.out); rintro e w' ⟨rfl, ⟨nd, rfl⟩⟩; (try first | exact ⟨rfl, _, World.drewN_drewN _ _ _⟩ | exact ⟨rfl, _, Eq.trans (World.drewN_drewN _ _ _) (congrArg (World.drewN _) (Nat.add_assoc _ _ _))⟩))); try go_wp2_with (first | (go_at_call 22; (with_reducible refine (laganref04_SameInts.calls k1 _ _ (rd_L1 l0 x5_1) _ _ (rd_L1 l1 x5_1) true _ ?side1 ?side2 ?side3 ?side4 A7.out).mono ?_); (case side1 => repeat (first | exact HR221_0.out | (with_reducible refine Kd.C_alloc ?_ _) | (with_reducible refine Kd.C_drewN ?_ _) | (with_reducible refine Kd.C_drew ?_))); (case side2 => exact HC221_0.out); (case side3 => repeat (first | exact HR222_0.out | (with_reducible refine Kd.C_alloc ?_ _) | (with_reducible refine Kd.C_drewN ?_ _) | (with_reducible refine Kd.C_drew ?_))); (case side4 => exact HC222_0.out); rintro e w' ⟨rfl, ⟨nd, rfl⟩⟩; (try first | exact ⟨rfl, _, World.drewN_drewN _ _ _⟩ | exact ⟨rfl, _, Eq.trans (World.drewN_drewN _ _ _) (congrArg (World.drewN _) (Nat.add_assoc _ _ _))⟩))))
  go_roundg k1
  case measure => have := HK1.out; omega
  case rel => exact ⟨(wrap64 (x5_1 + 1)), (by first | rfl | (simp; done) | (simp [*]; done)), H', ⟨by have := HK1.out; omega⟩, by repeat (first | exact Drawn0.refl _ | apply Drawn0.step)⟩
end Go.Proofs.Ytkmmihadcbfkoaa.PM
end

section
namespace Go.Proofs.Ytkmmihadcbfkoaa
open Go.RowKit Go.Proofs.YtkmmihadcbfkoaaW.PrintWords PM
set_option linter.unusedVariables false
set_option linter.unusedSimpArgs false
section
variable {F : List Int} {S : List S50} {T : List (List Int)}
theorem lists_ev (a : List (List Int)) (ha : a.length ≤ 1000000) (hr : ∀ l, l ∈ a → l.length ≤ 9223372036854775807) (m : Nat) : ∀ i : Nat, a.length - i = m → i ≤ a.length → Ev (fun k => laganref04_SameLists.l0 k a a (i : Int)) true := by
 induction m with
 | zero => exact fun i hm hi => Ev.into (fun k => by rw [laganref04_SameLists.l0]) (Ev.neg (by omega) (Ev.const _))
 | succ m ih =>
  intro i hm hi
  have hlt : i < a.length := by omega
  have hw := wrap_pm (i := (i : Int)) (by omega) (by omega)
  have hrd : rd_L1 a (i : Int) = a[i] := by simp [rd_L1, List.getD_eq_getElem?_getD, List.getElem?_eq_getElem hlt]
  have hs := same_is a[i] a[i] (hr _ (List.getElem_mem hlt))
  rw [decide_eq_true rfl] at hs
  refine Ev.into (fun k => by rw [laganref04_SameLists.l0]) (Ev.pos (by omega) (Ev.pos (by omega) (Ev.pos (by omega) ?_)))
  rw [hrd, hw.1, show (i : Int) + 1 = ((i + 1 : Nat) : Int) by omega]
  exact Ev.bind hs (Ev.pos rfl (ih (i + 1) (by omega) (by omega)))
theorem lists_is (a : List (List Int)) (ha : a.length ≤ 1000000) (hr : ∀ l, l ∈ a → l.length ≤ 9223372036854775807) : Ev (fun k => laganref04_SameLists.f k a a) true :=
 Ev.pos rfl (lists_ev a ha hr a.length 0 (by omega) (by omega))
end
end Go.Proofs.Ytkmmihadcbfkoaa
end

section
namespace Go.Proofs.Ytkmmihadcbfkoaa
open Go.RowKit Go.Proofs.YtkmmihadcbfkoaaW.PrintWords PM
set_option linter.unusedVariables false
set_option linter.unusedSimpArgs false
/-- Two boxes of boards that read alike. -/
structure TwoB (w0 : World) (A0 : Option Addr) (c0 : Nat) (F : List Int) (A1 : Option Addr) (c1 : Nat) (S : List S50) (A2 : Option Addr) (c2 : Nat) (T : List (List Int)) (B0 : Option Addr) (d0 : Nat) (B1 : Option Addr) (d1 : Nat) (B2 : Option Addr) (d2 : Nat) (w : World) : Prop where
 box : w.heap[w0.heap.size]? = some (.cells #[.slice A0 F.length c0, .slice A1 S.length c1, .slice A2 T.length c2] 26 (0, 0))
 box' : w.heap[w0.heap.size + 1]? = some (.cells #[.slice B0 F.length d0, .slice B1 S.length d1, .slice B2 T.length d2] 26 (0, 0))
 B : Below w0.heap.size w0 w
 C0 : Kd.C (Kd.int .i64) w A0 F.length F
 C1 : Kd.C k50 w A1 S.length S
 C2 : Kd.C (Kd.slice 3 (Kd.int .i64)) w A2 T.length T
 D0 : Kd.C (Kd.int .i64) w B0 F.length F
 D1 : Kd.C k50 w B1 S.length S
 D2 : Kd.C (Kd.slice 3 (Kd.int .i64)) w B2 T.length T
section
variable {w0 w w' : World} {A0 : Option Addr} {c0 : Nat} {F : List Int} {A1 : Option Addr} {c1 : Nat} {S : List S50} {A2 : Option Addr} {c2 : Nat} {T : List (List Int)} {B0 : Option Addr} {d0 : Nat} {B1 : Option Addr} {d1 : Nat} {B2 : Option Addr} {d2 : Nat}
theorem TwoB.later (h : TwoB w0 A0 c0 F A1 c1 S A2 c2 T B0 d0 B1 d1 B2 d2 w) (hb : Below w.heap.size w w') : TwoB w0 A0 c0 F A1 c1 S A2 c2 T B0 d0 B1 d1 B2 d2 w' :=
 ⟨(hb.block w0.heap.size (Array.getElem?_eq_some_iff.1 h.box).1).trans h.box, (hb.block (w0.heap.size + 1) (Array.getElem?_eq_some_iff.1 h.box').1).trans h.box', h.B.trans (hb.mono h.B.size), Kd.C_below h.C0 hb, Kd.C_below h.C1 hb, Kd.C_below h.C2 hb, Kd.C_below h.D0 hb, Kd.C_below h.D1 hb, Kd.C_below h.D2 hb⟩
theorem TwoB.k1 (h : TwoB w0 A0 c0 F A1 c1 S A2 c2 T B0 d0 B1 d1 B2 d2 w) : w.cell? ⟨w0.heap.size, 1, none⟩ = some (.slice A1 S.length c1) := cell_of_heap h.box (j := 1) rfl
theorem TwoB.k2 (h : TwoB w0 A0 c0 F A1 c1 S A2 c2 T B0 d0 B1 d1 B2 d2 w) : w.cell? ⟨w0.heap.size, 2, none⟩ = some (.slice A2 T.length c2) := cell_of_heap h.box (j := 2) rfl
theorem TwoB.l1 (h : TwoB w0 A0 c0 F A1 c1 S A2 c2 T B0 d0 B1 d1 B2 d2 w) : w.cell? ⟨w0.heap.size + 1, 1, none⟩ = some (.slice B1 S.length d1) := cell_of_heap h.box' (j := 1) rfl
theorem TwoB.l2 (h : TwoB w0 A0 c0 F A1 c1 S A2 c2 T B0 d0 B1 d1 B2 d2 w) : w.cell? ⟨w0.heap.size + 1, 2, none⟩ = some (.slice B2 T.length d2) := cell_of_heap h.box' (j := 2) rfl
theorem TwoB.start (C0 : Kd.C (Kd.int .i64) w0 A0 F.length F) (C1 : Kd.C k50 w0 A1 S.length S) (C2 : Kd.C (Kd.slice 3 (Kd.int .i64)) w0 A2 T.length T) (D0 : Kd.C (Kd.int .i64) w0 B0 F.length F) (D1 : Kd.C k50 w0 B1 S.length S) (D2 : Kd.C (Kd.slice 3 (Kd.int .i64)) w0 B2 T.length T) :
  TwoB w0 A0 c0 F A1 c1 S A2 c2 T B0 d0 B1 d1 B2 d2 ((w0.alloc (.cells #[.slice A0 F.length c0, .slice A1 S.length c1, .slice A2 T.length c2] 26)).alloc (.cells #[.slice B0 F.length d0, .slice B1 S.length d1, .slice B2 T.length d2] 26)) := by
 have hB := (Below.refl w0.heap.size w0).alloc (Nat.le_refl _) (.cells #[.slice A0 F.length c0, .slice A1 S.length c1, .slice A2 T.length c2] 26)
 have hz : (w0.alloc (.cells #[.slice A0 F.length c0, .slice A1 S.length c1, .slice A2 T.length c2] 26)).heap.size = w0.heap.size + 1 := Array.size_push _
 have hB1 := (Below.refl (w0.alloc (.cells #[.slice A0 F.length c0, .slice A1 S.length c1, .slice A2 T.length c2] 26)).heap.size _).alloc (Nat.le_refl _) (.cells #[.slice B0 F.length d0, .slice B1 S.length d1, .slice B2 T.length d2] 26)
 have hB2 := hB.trans (hB1.mono hB.size)
 have h1 := World.alloc_heap_new w0 (.cells #[.slice A0 F.length c0, .slice A1 S.length c1, .slice A2 T.length c2] 26)
 have h2 := World.alloc_heap_new (w0.alloc (.cells #[.slice A0 F.length c0, .slice A1 S.length c1, .slice A2 T.length c2] 26)) (.cells #[.slice B0 F.length d0, .slice B1 S.length d1, .slice B2 T.length d2] 26)
 rw [hz] at h2
 exact ⟨(hB1.block w0.heap.size (by omega)).trans h1, h2, hB2, Kd.C_below C0 hB2, Kd.C_below C1 hB2, Kd.C_below C2 hB2, Kd.C_below D0 hB2, Kd.C_below D1 hB2, Kd.C_below D2 hB2⟩
end
set_option maxRecDepth 100000 in
set_option maxHeartbeats 8000000 in
theorem sameboard_calls (A0 : Option Addr) (c0 : Nat) (F : List Int) (A1 : Option Addr) (c1 : Nat) (S : List S50) (A2 : Option Addr) (c2 : Nat) (T : List (List Int)) (B0 : Option Addr) (d0 : Nat) (B1 : Option Addr) (d1 : Nat) (B2 : Option Addr) (d2 : Nat) (w : World)
  (hr0 : Kd.C (Kd.int .i64) w A0 F.length F) (hc0 : F.length ≤ c0) (hr1 : Kd.C k50 w A1 S.length S) (hc1 : S.length ≤ c1) (hr2 : Kd.C (Kd.slice 3 (Kd.int .i64)) w A2 T.length T) (hc2 : T.length ≤ c2)
  (hs0 : Kd.C (Kd.int .i64) w B0 F.length F) (hd0 : F.length ≤ d0) (hs1 : Kd.C k50 w B1 S.length S) (hd1 : S.length ≤ d1) (hs2 : Kd.C (Kd.slice 3 (Kd.int .i64)) w B2 T.length T) (hd2 : T.length ≤ d2) (hT : T.length ≤ 1000000) (hRW : ∀ l, l ∈ T → l.length ≤ 9223372036854775807) :
  Calls Try.prog 28 #[.agg #[.slice A0 F.length c0, .slice A1 S.length c1, .slice A2 T.length c2], .agg #[.slice B0 F.length d0, .slice B1 S.length d1, .slice B2 T.length d2]] w fun e w' => e = .returned (.bool true) ∧ Below w.heap.size w w' := by
 have HA := Go.Lib.hid (TwoB.start (c0 := c0) (c1 := c1) (c2 := c2) (d0 := d0) (d1 := d1) (d2 := d2) hr0 hr1 hr2 hs0 hs1 hs2)
 have hz : (w.alloc (.cells #[.slice A0 F.length c0, .slice A1 S.length c1, .slice A2 T.length c2] 26)).heap.size = w.heap.size + 1 := Array.size_push _
 have hsS : S.length ≤ 9223372036854775807 := hr1.2.1
 obtain ⟨KS, hKS⟩ := same_is F F hr0.2.1
 have HKS := Go.Lib.hid (show laganref04_SameInts.f KS F F = some true by have h := hKS KS (Nat.le_refl _); rw [decide_eq_true rfl] at h; exact h)
 obtain ⟨KL, hKL⟩ := lists_is T hT hRW
 have HKL := Go.Lib.hid (hKL KL (Nat.le_refl _))
 have HL := Go.Lib.hid (And.intro hc0 (And.intro hc2 (And.intro hd0 hd2)))
 have g1 : decide ((S.length : Int) = (S.length : Int)) = true := decide_eq_true rfl
 have g2 : ((S.length : Int) != (S.length : Int)) = false := by simp
 clear hr0 hr1 hr2 hs0 hs1 hs2 hc0 hc1 hc2 hd0 hd1 hd2 hT hRW hKS hKL
 go_enter Try.func28, Try.ntmps28
 go_wp2_with fail
 generalize hw1 : ((w.alloc (.cells #[.slice A0 F.length c0, .slice A1 S.length c1, .slice A2 T.length c2] 26)).alloc (.cells #[.slice B0 F.length d0, .slice B1 S.length d1, .slice B2 T.length d2] 26)) = w1 at HA ⊢
 clear hw1 hz
 have CC := laganref04_SameInts.calls KS A0 c0 F B0 d0 F true w1 HA.out.C0 HL.out.1 HA.out.D0 HL.out.2.2.1 HKS.out
 refine CC.mono ?_
 clear CC
 rintro e w2 ⟨rfl, hd⟩
 have hB := hd.below
 clear hd
 replace HA := Go.Lib.hid (HA.out.later hB)
 have k1 := HA.out.k1
 have m1 := HA.out.l1
 clear hB
 go_wp2_with fail
 clear k1 m1
 go_loopw [5] (fun i wr => ∃ k : Nat, k ≤ S.length ∧ i = .int .i64 k ∧ Hid (TwoB w A0 c0 F A1 c1 S A2 c2 T B0 d0 B1 d1 B2 d2 wr)) (fun i _ => S.length - (intOf i).toNat)
 case atStart => exact ⟨0, Nat.zero_le _, rfl, HA⟩
 obtain ⟨k, hk, rfl, HI⟩ := hrel
 clear HA
 have k1 := HI.out.k1
 have k2 := HI.out.k2
 have m1 := HI.out.l1
 have m2 := HI.out.l2
 by_cases hlt : k < S.length
 rotate_left
 ·
  obtain rfl : k = S.length := by omega
  have h20 : decide ((S.length : Int) < (S.length : Int)) = false := decide_eq_false (by omega)
  have CC := laganref04_SameLists.calls KL A2 c2 T B2 d2 T true wr HI.out.C2 HL.out.2.1 HI.out.D2 HL.out.2.2.2 HKL.out
  go_wp2_with fail
  clear k1 k2 m1 m2
  refine CC.mono ?_
  clear CC
  rintro e w3 ⟨rfl, hd⟩
  have hB := hd.below
  have HZ := Go.Lib.hid (HI.out.B.trans (hB.mono HI.out.B.size))
  clear hd hB
  go_wp2_with fail
  go_ret
  exact ⟨rfl, HZ.out⟩
 have h20 : decide ((k : Int) < (S.length : Int)) = true := decide_eq_true (Int.ofNat_lt.2 hlt)
 have w20 := (wrap_pm (i := (k : Int)) (by omega) (by omega)).1
 obtain ⟨a6, e6, u0, u1, u2⟩ := at_T50 HI.out.C1 (k : Int) (by omega) (by omega)
 obtain ⟨a7, e7, v0, v1, v2⟩ := at_T50 HI.out.D1 (k : Int) (by omega) (by omega)
 obtain ⟨p9, hp9⟩ : ∃ p9, rd_T50 S (k : Int) = p9 := ⟨_, rfl⟩
 rw [hp9, Int.toNat_natCast] at u0 u1 u2 v0 v1 v2
 clear hp9 k2 m2
 subst e6; subst e7
 go_wp2_with fail
 go_quiet (fail)
 go_wp2_with fail
 go_roundw
 case rel => exact ⟨k + 1, by omega, by simp, HI.out.later (by repeat (first | exact Below.refl _ _ | refine pw_below_drewN ?_ _))⟩
 case measure => simp [intOf]; omega
end Go.Proofs.Ytkmmihadcbfkoaa
end

section
namespace Go.Proofs.Ytkmmihadcbfkoaa
open Go.RowKit Go.Proofs.YtkmmihadcbfkoaaW.PrintWords PM
set_option linter.unusedVariables false
set_option linter.unusedSimpArgs false
section
variable {α : Type} {d : Kd α} {W : World} {base e g n c : Nat} {xs : List α} {ok : Nat → Prop}
/-- A write behind a list's end, in its own block: the list reads as it did. -/
theorem R_past (HO : d.R e W base ok (.slice (some ⟨g, 0, none⟩) n c) xs) (news : List Value) (o : Nat) (ho : n * d.sz ≤ o) (hc : o + news.length ≤ c * d.sz) :
  d.R e (W.setCells g o news) base ok (.slice (some ⟨g, 0, none⟩) n c) xs ∧ W.grownBy (W.setCells g o news) (some g) := by
 obtain ⟨hn, hnc, _⟩ := Kd.R_reads' HO
 obtain ⟨hok, inner, hown, hr⟩ := HO
 have hin : inner.length = n * d.sz := by rw [hr.1, hn]
 rcases hown.2 with ⟨hv, _⟩ | ⟨g', cap', cur, hv, hb, hh, hle, hcm, hcs, htake⟩
 ·
  cases hv
 injection hv with ha _ hcc
 injection ha with ha
 injection ha with hg
 subst hg; subst hcc
 rw [← hn] at htake
 obtain ⟨cur', h3, h4, h5⟩ := setCells_row news o W cur hh (by omega)
 obtain ⟨s1, s2, s3, s4⟩ := setCells_same g news o W
 have hfar : ∀ k', k' ≠ g → (W.setCells g o news).heap[k']? = W.heap[k']? := fun k' hk' => setCells_far news _ k' hk'
 have hgo : ∀ m, some g = (Value.slice (some ⟨g, 0, none⟩) m c).ownBlock := fun m => by simp [Value.ownBlock]
 refine ⟨⟨hok, inner, ⟨hown.1, .inr ⟨g, c, cur', by rw [hn], hb, h3, hle, hcm, by rw [h4, hcs], ?_⟩⟩, hr.imp_ (fun p q hp => d.M_move (fun k' hk' => hfar k' (fun he => hk'.2 (by rw [← hgo, he]))) hp)⟩, ⟨s1, s2, s3, by rw [s4]; exact Nat.le_refl _, fun k' _ hk' => hfar k' (fun he => hk' (by rw [he]))⟩⟩
 rw [← hn, h5, List.append_assoc, List.take_append_of_le_length (by rw [List.length_take]; simp; omega), List.take_take, Nat.min_eq_left ho]
 exact htake
end
/-- The cells of a list of one's own, up to its room. -/
theorem R_cells {α : Type} {d : Kd α} {W : World} {base e g n c : Nat} {xs : List α} {ok : Nat → Prop} (HO : d.R e W base ok (.slice (some ⟨g, 0, none⟩) n c) xs) (j : Nat) (hj : j < c * d.sz) :
  (W.cell? ⟨g, j, none⟩).isSome = true ∧ W.frozen? ⟨g, j, none⟩ = false := by
 obtain ⟨hok, inner, hown, hr⟩ := HO
 rcases hown.2 with ⟨hv, _⟩ | ⟨g', cap', cur, hv, hb, hh, hle, hcm, hcs, htake⟩
 ·
  cases hv
 injection hv with ha _ hcc
 injection ha with ha
 injection ha with hg
 subst hg; subst hcc
 exact ⟨by rw [cell_of_row W g _ cur e (0, 0) hh, Array.getElem?_eq_getElem (by omega)]; rfl, blk_frozen hh _⟩
set_option maxRecDepth 100000 in
set_option maxHeartbeats 8000000 in
theorem delete_rows_calls (g c base : Nat) (ok : Nat → Prop) (xs : List (List Int)) (k : Nat) (w : World) (hO : Kd.S (Kd.slice 3 (Kd.int .i64)) 22 w base ok (.slice (some ⟨g, 0, none⟩) xs.length c) xs) (hk : k < xs.length) (hbase : base ≤ w.heap.size) :
  Calls Try.prog 78 #[.slice (some ⟨g, 0, none⟩) xs.length c, .int .i64 k, .int .i64 ((k : Int) + 1)] w fun e w' => e = .returned (.slice (some ⟨g, 0, none⟩) (xs.length - 1) c) ∧ Kd.S (Kd.slice 3 (Kd.int .i64)) 22 w' base ok (.slice (some ⟨g, 0, none⟩) (xs.length - 1) c) (xs.eraseIdx k) ∧ w.drew.grownBy w' (some g) ∧ Below base w w' := by
 have hR := Kd.S_reads' hO
 have hlc : xs.length ≤ c := hR.2.1
 have HO := Go.Lib.hid hO
 clear hO hR
 have n1 : ((k : Int)).toNat = k := Int.toNat_natCast k
 have n2 : ((k : Int) + 1).toNat = k + 1 := by omega
 have i1 : (0 ≤ (k : Int)) = True := eq_true (by omega)
 have i2 : (0 ≤ (k : Int) + 1) = True := eq_true (by omega)
 have i3 : ((k : Int) ≤ (k : Int) + 1) = True := eq_true (by omega)
 have i4 : ((k : Int) + 1 ≤ (xs.length : Int)) = True := eq_true (by omega)
 have i5 : ((xs.length : Int) ≤ (c : Int)) = True := eq_true (by omega)
 have i6 : k ≤ k + 1 := Nat.le_succ k
 have i7 : k + 1 ≤ xs.length := hk
 have i8 : k ≤ c := by omega
 have i9 : k + 1 ≤ c := by omega
 have g1 : ((k : Int) == (k : Int) + 1) = false := by rw [beq_eq_false_iff_ne]; omega
 go_enter Try.func78, Try.ntmps78
 go_wp2_with fail
 go_region_law ((refine Kd.S_delete_step (Kd.slice 3 (Kd.int .i64)) (w0 := w) base rfl (.tmp 22) (.tmp 25) 24 22 rfl Try.underlying24 (by kernel_rfl) (g := g) (n := xs.length) (c := c) (k := k) (A := if c = k + 1 then some ⟨g, 0, none⟩ else (some (⟨g, 0, none⟩ : Addr)).map (·.add ((k + 1) * 1))) (m := xs.length - (k + 1)) (c2 := c - (k + 1)) (by simp [Act.eval, Act.put]) (by simp [Act.eval, Act.put, Addr.add]) rfl rfl (by (with_reducible repeat (first | apply Kd.S_alloc | apply Kd.S_drewN | apply Kd.S_drew)); exact HO.out) hk (by repeat (first | exact Below.refl _ _ | refine pw_below_drewN ?_ _ | apply below_drew1)) (by first | exact hbase | (show base ≤ w.heap.size; exact hbase)) ?_; intro w1 hS1 hB1 hG1; have HS1 := Go.Lib.hid hS1; have HG1 := Go.Lib.hid hG1))
 have hX := Go.Lib.hid (And.intro HS1.out (And.intro HG1.out hB1))
 clear HS1 HG1 hS1 hB1 hG1
 obtain ⟨m, hm⟩ : ∃ m, m = xs.length - 1 := ⟨_, rfl⟩
 rw [← hm] at hX ⊢
 have hmn : xs.length - m = 1 := by omega
 have j1 : ((m : Int)).toNat = m := Int.toNat_natCast m
 have j2 : (0 ≤ (m : Int)) = True := eq_true (by omega)
 have j3 : ((m : Int) ≤ (xs.length : Int)) = True := eq_true (by omega)
 have j5 : m ≤ xs.length := by omega
 have j6 : (c = m) = False := eq_false (by omega)
 have j7 : ((xs.length : Int)).toNat = xs.length := Int.toNat_natCast _
 have j8 : (0 ≤ (xs.length : Int)) = True := eq_true (by omega)
 have j9 : m ≤ c := by omega
 have hmc : m < c := by omega
 have hcl : ∀ ty, (Builtin.clear_ #[24] ty #[.slice (some ⟨g, m, none⟩) 1 (c - m)]).run Try.prog w1 = .ok (.tuple #[]) (w1.setCells g m [.slice none 0 0]) := fun ty => by
  obtain ⟨f, HR⟩ := hX.out.1
  exact Lib.run_clear_slice w1 24 22 ty (.slice none 0 0) Try.underlying24 (fun _ => rfl) rfl rfl g m 1 (c - m) (by omega)
   (fun j hj => by obtain rfl : j = 0 := (by omega); exact (R_cells HR m (by show m < c * 1; omega)).1)
   (fun j hj => by obtain rfl : j = 0 := (by omega); exact (R_cells HR m (by show m < c * 1; omega)).2)
 have hY : Hid (Kd.S (Kd.slice 3 (Kd.int .i64)) 22 (w1.setCells g m [.slice none 0 0]) base ok (.slice (some ⟨g, 0, none⟩) m c) (xs.eraseIdx k) ∧ w1.grownBy (w1.setCells g m [.slice none 0 0]) (some g) ∧ Below base w (w1.setCells g m [.slice none 0 0])) := by
  obtain ⟨f, HR⟩ := hX.out.1
  have h := R_past HR [.slice none 0 0] m (by show m * 1 ≤ m; omega) (by show m + 1 ≤ c * 1; omega)
  exact ⟨⟨f, h.1⟩, h.2, hX.out.2.2.grown h.2 (Nat.le_trans hbase hX.out.2.2.size) (fun k hk => by injection hk with hk; subst hk; exact Kd.R_base HR _ (by simp [Value.ownBlock]))⟩
 have HM := Go.Lib.hid hm
 clear hm hmc
 generalize hw2 : w1.setCells g m [.slice none 0 0] = w2 at hcl hY
 clear hw2
 go_wp2_with fail
 all_goals
  go_ret
  rw [← HM.out]
  exact ⟨rfl, by first | exact hY.out.1 | (have e_ : c = k + 1 := (by assumption); rw [← e_]; exact hY.out.1), hX.out.2.1.trans hY.out.2.1, hY.out.2.2⟩
set_option maxRecDepth 100000 in
set_option maxHeartbeats 8000000 in
theorem delete_ints_calls (g c base : Nat) (ok : Nat → Prop) (xs : List Int) (k : Nat) (w : World) (hO : Kd.R (Kd.int .i64) 3 w base ok (.slice (some ⟨g, 0, none⟩) xs.length c) xs) (hk : k < xs.length) (hbase : base ≤ w.heap.size) :
  Calls Try.prog 77 #[.slice (some ⟨g, 0, none⟩) xs.length c, .int .i64 k, .int .i64 ((k : Int) + 1)] w fun e w' => e = .returned (.slice (some ⟨g, 0, none⟩) (xs.length - 1) c) ∧ Kd.R (Kd.int .i64) 3 w' base ok (.slice (some ⟨g, 0, none⟩) (xs.length - 1) c) (xs.eraseIdx k) ∧ w.drew.grownBy w' (some g) ∧ Below base w w' := by
 have hR := Kd.R_reads' hO
 have hlc : xs.length ≤ c := hR.2.1
 have HO := Go.Lib.hid hO
 clear hO hR
 have n1 : ((k : Int)).toNat = k := Int.toNat_natCast k
 have n2 : ((k : Int) + 1).toNat = k + 1 := by omega
 have i1 : (0 ≤ (k : Int)) = True := eq_true (by omega)
 have i2 : (0 ≤ (k : Int) + 1) = True := eq_true (by omega)
 have i3 : ((k : Int) ≤ (k : Int) + 1) = True := eq_true (by omega)
 have i4 : ((k : Int) + 1 ≤ (xs.length : Int)) = True := eq_true (by omega)
 have i5 : ((xs.length : Int) ≤ (c : Int)) = True := eq_true (by omega)
 have i6 : k ≤ k + 1 := Nat.le_succ k
 have i7 : k + 1 ≤ xs.length := hk
 have i8 : k ≤ c := by omega
 have i9 : k + 1 ≤ c := by omega
 have g1 : ((k : Int) == (k : Int) + 1) = false := by rw [beq_eq_false_iff_ne]; omega
 go_enter Try.func77, Try.ntmps77
 go_wp2_with fail
 go_region_law ((refine Kd.R_delete_step (Kd.int .i64) (w0 := w) base rfl (.tmp 22) (.tmp 25) 22 3 rfl Try.underlying22 (by kernel_rfl) (g := g) (n := xs.length) (c := c) (k := k) (A := if c = k + 1 then some ⟨g, 0, none⟩ else (some (⟨g, 0, none⟩ : Addr)).map (·.add ((k + 1) * 1))) (m := xs.length - (k + 1)) (c2 := c - (k + 1)) (by simp [Act.eval, Act.put]) (by simp [Act.eval, Act.put, Addr.add]) rfl rfl (by (with_reducible repeat (first | apply Kd.R_alloc | apply Kd.R_drewN | apply Kd.R_drew)); exact HO.out) hk (by repeat (first | exact Below.refl _ _ | refine pw_below_drewN ?_ _ | apply below_drew1)) (by first | exact hbase | (show base ≤ w.heap.size; exact hbase)) ?_; intro w1 hS1 hB1 hG1; have HS1 := Go.Lib.hid hS1; have HG1 := Go.Lib.hid hG1))
 have hX := Go.Lib.hid (And.intro HS1.out (And.intro HG1.out hB1))
 clear HS1 HG1 hS1 hB1 hG1
 obtain ⟨m, hm⟩ : ∃ m, m = xs.length - 1 := ⟨_, rfl⟩
 rw [← hm] at hX ⊢
 have hmn : xs.length - m = 1 := by omega
 have j1 : ((m : Int)).toNat = m := Int.toNat_natCast m
 have j2 : (0 ≤ (m : Int)) = True := eq_true (by omega)
 have j3 : ((m : Int) ≤ (xs.length : Int)) = True := eq_true (by omega)
 have j5 : m ≤ xs.length := by omega
 have j6 : (c = m) = False := eq_false (by omega)
 have j7 : ((xs.length : Int)).toNat = xs.length := Int.toNat_natCast _
 have j8 : (0 ≤ (xs.length : Int)) = True := eq_true (by omega)
 have j9 : m ≤ c := by omega
 have hmc : m < c := by omega
 have hcl : ∀ ty, (Builtin.clear_ #[22] ty #[.slice (some ⟨g, m, none⟩) 1 (c - m)]).run Try.prog w1 = .ok (.tuple #[]) (w1.setCells g m [.int .i64 0]) := fun ty => by
  have HR := hX.out.1
  exact Lib.run_clear_slice w1 22 3 ty (.int .i64 0) Try.underlying22 (fun _ => rfl) rfl rfl g m 1 (c - m) (by omega)
   (fun j hj => by obtain rfl : j = 0 := (by omega); exact (R_cells HR m (by show m < c * 1; omega)).1)
   (fun j hj => by obtain rfl : j = 0 := (by omega); exact (R_cells HR m (by show m < c * 1; omega)).2)
 have hY : Hid (Kd.R (Kd.int .i64) 3 (w1.setCells g m [.int .i64 0]) base ok (.slice (some ⟨g, 0, none⟩) m c) (xs.eraseIdx k) ∧ w1.grownBy (w1.setCells g m [.int .i64 0]) (some g) ∧ Below base w (w1.setCells g m [.int .i64 0])) := by
  have HR := hX.out.1
  have h := R_past HR [.int .i64 0] m (by show m * 1 ≤ m; omega) (by show m + 1 ≤ c * 1; omega)
  exact ⟨h.1, h.2, hX.out.2.2.grown h.2 (Nat.le_trans hbase hX.out.2.2.size) (fun k hk => by injection hk with hk; subst hk; exact Kd.R_base HR _ (by simp [Value.ownBlock]))⟩
 have HM := Go.Lib.hid hm
 clear hm hmc
 generalize hw2 : w1.setCells g m [.int .i64 0] = w2 at hcl hY
 clear hw2
 go_wp2_with fail
 all_goals
  go_ret
  rw [← HM.out]
  exact ⟨rfl, by first | exact hY.out.1 | (have e_ : c = k + 1 := (by assumption); rw [← e_]; exact hY.out.1), hX.out.2.1.trans hY.out.2.1, hY.out.2.2⟩
end Go.Proofs.Ytkmmihadcbfkoaa
end

section
namespace Go.Proofs.Ytkmmihadcbfkoaa.PM
open Go.RowKit Go.Proofs.YtkmmihadcbfkoaaW.PrintWords Go.Proofs.YtkmmihadcbfkoaaW.PrintLast Go.Proofs.YtkmmihadcbfkoaaW.PrintMore
set_option linter.unusedVariables false
set_option linter.unusedSimpArgs false
def laganref04_Copied.l0 : Nat → Int → List Int → List (S50) → List (List Int) → List Int → List (S50) → List (List Int) → Option (List Int × (List (S50)) × (List (List Int)))
 | 0, _, _, _, _, _, _, _ => none
 | k + 1, x4, x270000, x270001, x270002, x284000, x284001, x284002 => if x4 < (x270002.length : Int) then ((some (([] : List Int) : List Int)).bind fun y284 => (if 0 ≤ x4 then (if y284.length + (rd_L1 x270002 x4).length < 17592186044416 then (if x284002.length < 5864062014805 then (laganref04_Copied.l0 k (wrap64 (x4 + 1)) x270000 x270001 x270002 x284000 x284001 (x284002 ++ [(y284 ++ (rd_L1 x270002 x4))])) else (none)) else (none)) else (none))) else (some (x284000, x284001, x284002))
def laganref04_Copied.f (k : Nat) (l0_0 : List Int) (l0_1 : List (S50)) (l0_2 : List (List Int)) : Option (List Int × (List (S50)) × (List (List Int))) := (some (([] : List Int) : List Int)).bind fun y271 => (if y271.length + l0_0.length < 17592186044416 then ((some (([] : List (S50)) : List (S50))).bind fun y277 => (if y277.length + l0_1.length < 5864062014805 then (laganref04_Copied.l0 k 0 l0_0 l0_1 l0_2 (y271 ++ l0_0) (y277 ++ l0_1) ([] : List (List Int))) else (none))) else (none))
def laganref04_Copied.T1 : Bool × List (List Nat × List Nat) := (true, [([], []), ([], []), ([1], [1]), ([0, 2], [0, 2]), ([], []), ([], []), ([5], [5]), ([4, 6, 3], [4, 6]), ([3, 7], [3, 7]), ([], []), ([9, 8, 7, 0, 1, 2, 3, 4, 5, 6, 7, 8, 9], [8, 9])])
def laganref04_Copied.B1 : List Nat := [0, 0, 2, 7, 0, 0, 32, 127, 255, 0, 1023]
theorem laganref04_Copied.tab1 : rtab .any (opsOf Try.f26 1) = laganref04_Copied.T1 := by kernel_rfl
theorem laganref04_Copied.bits1 : waitsOk laganref04_Copied.T1.2 laganref04_Copied.B1 = true := by kernel_rfl
def laganref04_Copied.T5 : Bool × List (List Nat × List Nat) := (true, [([], []), ([0], [0]), ([], []), ([], []), ([3], [3]), ([], []), ([4, 5], [4, 5]), ([6], [6]), ([2, 7], [2, 7]), ([8], [8]), ([1, 9, 8], [1, 9]), ([0, 1, 2, 3, 4, 5, 6, 7, 8, 9, 10], []), ([11, 10, 10, 0, 1, 2, 3, 4, 5, 6, 7, 8, 9, 10], [10, 11])])
def laganref04_Copied.B5 : List Nat := [0, 1, 0, 0, 8, 0, 56, 120, 252, 508, 1023, 2047, 4095]
theorem laganref04_Copied.tab5 : rtab .any (opsOf Try.f26 5) = laganref04_Copied.T5 := by kernel_rfl
theorem laganref04_Copied.bits5 : waitsOk laganref04_Copied.T5.2 laganref04_Copied.B5 = true := by kernel_rfl
set_option maxHeartbeats 8000000 in
set_option maxRecDepth 100000 in
theorem laganref04_Copied.calls (k : Nat) (A0_0 : Option Addr) (c0_0 : Nat) (l0_0 : List Int) (A0_1 : Option Addr) (c0_1 : Nat) (l0_1 : List (S50)) (A0_2 : Option Addr) (c0_2 : Nat) (l0_2 : List (List Int)) (r1 : List Int) (r2 : List (S50)) (r3 : List (List Int)) (w : World) (hr0_0 : Kd.C (Kd.int .i64) w A0_0 l0_0.length l0_0) (hc0_0 : l0_0.length ≤ c0_0) (hr0_1 : Kd.C k50 w A0_1 l0_1.length l0_1) (hc0_1 : l0_1.length ≤ c0_1) (hr0_2 : Kd.C (Kd.slice 3 (Kd.int .i64)) w A0_2 l0_2.length l0_2) (hc0_2 : l0_2.length ≤ c0_2) (h : laganref04_Copied.f k l0_0 l0_1 l0_2 = some (r1, r2, r3)) :
  Calls Try.prog 26 #[.agg #[.slice A0_0 l0_0.length c0_0, .slice A0_1 l0_1.length c0_1, .slice A0_2 l0_2.length c0_2]] w fun e w' => ∃ v0_ v1_ v2_ : Value, e = .returned (.agg #[v0_, v1_, v2_]) ∧ Kd.R (Kd.int .i64) 3 w' w.heap.size (fun _ => True) v0_ r1 ∧ Kd.R k50 50 w' w.heap.size (fun _ => True) v1_ r2 ∧ Kd.S (Kd.slice 3 (Kd.int .i64)) 22 w' w.heap.size (fun k_ => some k_ ≠ (v0_ : Value).ownBlock) v2_ r3 ∧ Below w.heap.size w w' := by
 have hu26 := Try.underlying26
 have HR0_0 := Aside0.mk hr0_0
 have HC0_0 := Aside0.mk hc0_0
 clear hr0_0 hc0_0
 have HR0_1 := Aside0.mk hr0_1
 have HC0_1 := Aside0.mk hc0_1
 clear hr0_1 hc0_1
 have HR0_2 := Aside0.mk hr0_2
 have HC0_2 := Aside0.mk hc0_2
 clear hr0_2 hc0_2
 have HB := Aside0.mk (Below.refl w.heap.size w)
 have H : ((some (([] : List Int) : List Int)).bind fun y271 => (if y271.length + l0_0.length < 17592186044416 then ((some (([] : List (S50)) : List (S50))).bind fun y277 => (if y277.length + l0_1.length < 5864062014805 then (laganref04_Copied.l0 k 0 l0_0 l0_1 l0_2 (y271 ++ l0_0) (y277 ++ l0_1) ([] : List (List Int))) else (none))) else (none))) = some (r1, r2, r3) := h
 clear h
 obtain ⟨y271, hy271⟩ : ∃ y_ : List Int, y_ = (([] : List Int)) := ⟨_, rfl⟩
 replace H : (if y271.length + l0_0.length < 17592186044416 then ((some (([] : List (S50)) : List (S50))).bind fun y277 => (if y277.length + l0_1.length < 5864062014805 then (laganref04_Copied.l0 k 0 l0_0 l0_1 l0_2 (y271 ++ l0_0) (y277 ++ l0_1) ([] : List (List Int))) else (none))) else (none)) = some (r1, r2, r3) := by first | (rw [hy271]; with_reducible exact H) | (have H2_ := (Option.bind_some _ _).symm.trans H; rw [hy271]; with_reducible exact H2_) | (have H2_ := (Option.bind_some _ _).symm.trans H; with_reducible exact H2_) | with_reducible exact H | (rw [hy271]; exact H) | exact H
 have Ny271 := Aside0.mk hy271
 clear hy271
 by_cases c2 : y271.length + l0_0.length < 17592186044416
 rotate_left
 ·
  rw [if_neg c2] at H
  exact absurd H (by simp)
 rw [if_pos c2] at H
 have LMc2 := Aside0.mk c2
 clear c2
 obtain ⟨y274, hy274⟩ : ∃ y_ : List Int, y_ = (y271 ++ l0_0) := ⟨_, rfl⟩
 replace H : ((some (([] : List (S50)) : List (S50))).bind fun y277 => (if y277.length + l0_1.length < 5864062014805 then (laganref04_Copied.l0 k 0 l0_0 l0_1 l0_2 y274 (y277 ++ l0_1) ([] : List (List Int))) else (none))) = some (r1, r2, r3) := by first | (rw [hy274]; with_reducible exact H) | (have H2_ := (Option.bind_some _ _).symm.trans H; rw [hy274]; with_reducible exact H2_) | (have H2_ := (Option.bind_some _ _).symm.trans H; with_reducible exact H2_) | with_reducible exact H | (rw [hy274]; exact H) | exact H
 have Ny274 := Aside0.mk hy274
 clear hy274
 obtain ⟨y277, hy277⟩ : ∃ y_ : List (S50), y_ = (([] : List (S50))) := ⟨_, rfl⟩
 replace H : (if y277.length + l0_1.length < 5864062014805 then (laganref04_Copied.l0 k 0 l0_0 l0_1 l0_2 y274 (y277 ++ l0_1) ([] : List (List Int))) else (none)) = some (r1, r2, r3) := by first | (rw [hy277]; with_reducible exact H) | (have H2_ := (Option.bind_some _ _).symm.trans H; rw [hy277]; with_reducible exact H2_) | (have H2_ := (Option.bind_some _ _).symm.trans H; with_reducible exact H2_) | with_reducible exact H | (rw [hy277]; exact H) | exact H
 have Ny277 := Aside0.mk hy277
 clear hy277
 by_cases c3 : y277.length + l0_1.length < 5864062014805
 rotate_left
 ·
  rw [if_neg c3] at H
  exact absurd H (by simp)
 rw [if_pos c3] at H
 have LMc3 := Aside0.mk c3
 clear c3
 obtain ⟨y280, hy280⟩ : ∃ y_ : List (S50), y_ = (y277 ++ l0_1) := ⟨_, rfl⟩
 replace H : (laganref04_Copied.l0 k 0 l0_0 l0_1 l0_2 y274 y280 ([] : List (List Int))) = some (r1, r2, r3) := by first | (rw [hy280]; with_reducible exact H) | (have H2_ := (Option.bind_some _ _).symm.trans H; rw [hy280]; with_reducible exact H2_) | (have H2_ := (Option.bind_some _ _).symm.trans H; with_reducible exact H2_) | with_reducible exact H | (rw [hy280]; exact H) | exact H
 have Ny280 := Aside0.mk hy280
 clear hy280
 have H' := Aside0.mk H
 clear H
 go_enter Try.func26, Try.ntmps26
 try go_wp2_with (first | ((with_reducible refine gate_dst (N := 1) rfl ?_); refine box_event ?hg (N := 1) ?hd (cs := #[.slice A0_0 l0_0.length c0_0, .slice A0_1 l0_1.length c0_1, .slice A0_2 l0_2.length c0_2]) (t := 26) ?hr ?_; (case hd => rfl); (case hg => rfl); (case hr => first | (go_simp; done) | (go_simp; rfl)); intro gb269 hg w4 hbox hb; have n0_ := Aside0.mk (below_step (by repeat (first | (with_reducible first | exact HB.out | apply below_alloc | apply pw_below_drewN | apply below_drew1) | exact HB.out)) hb); have n1_ := Aside0.mk (hbox); have n2_ := Aside0.mk ((by rw [hg]; exact (below_size (by repeat (first | (with_reducible first | exact HB.out | apply below_alloc | apply pw_below_drewN | apply below_drew1) | exact HB.out))) : w.heap.size ≤ gb269)); have n3_ := Aside0.mk ((by rw [hg]; exact (below_size (by repeat (first | (with_reducible first | exact HB.out | apply below_alloc | apply pw_below_drewN | apply below_drew1) | exact HB.out))) : w.heap.size ≤ gb269)); clear HB; have HB := n0_; have BK269 := n1_; have GW269 := n2_; have GE269 := n3_; clear n0_ n1_ n2_ n3_; clear hb hbox hg) | ((with_reducible refine gate_dst (N := 2) rfl ?_); refine box_event ?hg (N := 2) ?hd (cs := #[.slice none 0 0, .slice none 0 0, .slice none 0 0]) (t := 26) ?hr ?_; (case hd => rfl); (case hg => rfl); (case hr => first | (go_simp; done) | (go_simp; rfl)); intro gb270 hg w5 hbox hb; have n0_ := Aside0.mk (blk_below (g := gb269) (o := .cells #[.slice A0_0 l0_0.length c0_0, .slice A0_1 l0_1.length c0_1, .slice A0_2 l0_2.length c0_2] 26 (0, 0)) (by (with_reducible repeat (first | refine blk_drewN ?_ _ | refine blk_drew ?_ | refine blk_alloc ?_ _)); exact BK269.out) hb); have n1_ := Aside0.mk (below_step (by repeat (first | (with_reducible first | exact HB.out | apply below_alloc | apply pw_below_drewN | apply below_drew1 | refine below_set ?_ GE269.out) | exact HB.out)) hb); have n2_ := Aside0.mk (hbox); have n3_ := Aside0.mk ((by rw [hg]; exact (below_size (by repeat (first | (with_reducible first | exact HB.out | apply below_alloc | apply pw_below_drewN | apply below_drew1 | refine below_set ?_ GE269.out) | exact HB.out))) : w.heap.size ≤ gb270)); have n4_ := Aside0.mk ((by rw [hg]; exact (below_size (by repeat (first | (with_reducible first | exact HB.out | apply below_alloc | apply pw_below_drewN | apply below_drew1 | refine below_set ?_ GE269.out) | exact HB.out))) : w.heap.size ≤ gb270)); have n5_ := Aside0.mk ((by rw [hg]; exact Nat.ne_of_lt (blk_lt (g := gb269) (o := .cells #[.slice A0_0 l0_0.length c0_0, .slice A0_1 l0_1.length c0_1, .slice A0_2 l0_2.length c0_2] 26 (0, 0)) (by (with_reducible repeat (first | refine blk_drewN ?_ _ | refine blk_drew ?_ | refine blk_alloc ?_ _)); exact BK269.out)) : gb269 ≠ gb270)); have n6_ := Aside0.mk ((by rw [hg]; exact Nat.ne_of_gt (blk_lt (g := gb269) (o := .cells #[.slice A0_0 l0_0.length c0_0, .slice A0_1 l0_1.length c0_1, .slice A0_2 l0_2.length c0_2] 26 (0, 0)) (by (with_reducible repeat (first | refine blk_drewN ?_ _ | refine blk_drew ?_ | refine blk_alloc ?_ _)); exact BK269.out)) : gb270 ≠ gb269)); clear BK269; clear HB; have BK269 := n0_; have HB := n1_; have BK270 := n2_; have GW270 := n3_; have GE270 := n4_; have NB269_270 := n5_; have NB270_269 := n6_; clear n0_ n1_ n2_ n3_ n4_ n5_ n6_; clear hb hbox hg))
 have n0_ := Aside0.mk (blk_drew BK269.out)
 have n1_ := Aside0.mk (blk_drew BK270.out)
 have n2_ := Aside0.mk (below_drew1 HB.out)
 clear BK269
 clear BK270
 clear HB
 have BK269 := n0_
 have BK270 := n1_
 have HB := n2_
 clear n0_ n1_ n2_
 refine start_ (n := 11) (S := fun w' => w'.cell? ⟨gb269, 0, none⟩ = some (.slice A0_0 l0_0.length c0_0) ∧ w'.cell? ⟨gb269, 1, none⟩ = some (.slice A0_1 l0_1.length c0_1) ∧ w'.cell? ⟨gb269, 2, none⟩ = some (.slice A0_2 l0_2.length c0_2)) (ds := []) #[false, false, false, false, false, false, false, false, false, false, false] (by kernel_rfl) rfl rfl ⟨(blk_cell BK269.out 0).trans rfl, (blk_cell BK269.out 1).trans rfl, (blk_cell BK269.out 2).trans rfl⟩ (fun hHeld => ?_); refine with_tabW laganref04_Copied.tab1 laganref04_Copied.bits1 (fun HT_ HW_ => ?_)
 generalize w5.drew = w6 at BK269 BK270 HB hHeld ⊢
 refine pure_ (i := 1) (N := some 6) (v := ?_) (a' := ?_) #[false, true, false, false, false, false, false, false, false, false, false] rfl rfl (any_of HT_.out (by kernel_rfl)) (fun _ _ _ h => h) (Or.inl ⟨by rfl, ?_⟩) ?_ ?_
 rotate_left
 ·
  intro w'
  go_simp
  with_reducible rfl
 rotate_left
 ·
  simp only [Act.put, List.setIfInBounds_toArray, List.set_cons_zero, List.set_cons_succ, i64_w, i32_w]
  rfl
 refine pure_ (i := 5) (N := some 10) (v := ?_) (a' := ?_) #[false, true, false, false, false, true, false, false, false, false, false] rfl rfl (any_of HT_.out (by kernel_rfl)) (fun _ _ _ h => h) (Or.inl ⟨by rfl, ?_⟩) ?_ ?_
 rotate_left
 ·
  intro w'
  go_simp
  with_reducible rfl
 rotate_left
 ·
  simp only [Act.put, List.setIfInBounds_toArray, List.set_cons_zero, List.set_cons_succ, i64_w, i32_w]
  rfl
 refine take_ (i := 2) (N := some 7) (v := ?_) (a' := ?_) #[false, true, true, false, false, true, false, false, false, false, false] rfl rfl (take_ofW HT_.out HW_.out (by kernel_rfl)) (fun _ _ _ h => h) (Or.inl ⟨by rfl, ?_⟩) hHeld ?_ ?_
 rotate_left
 ·
  rintro w' ⟨s0, s1, s2⟩
  go_simp
  with_reducible rfl
 rotate_left
 ·
  simp only [Act.put, List.setIfInBounds_toArray, List.set_cons_zero, List.set_cons_succ, i64_w, i32_w]
  rfl
 refine take_ (i := 6) (N := some 11) (v := ?_) (a' := ?_) #[false, true, true, false, false, true, true, false, false, false, false] rfl rfl (take_ofW HT_.out HW_.out (by kernel_rfl)) (fun _ _ _ h => h) (Or.inl ⟨by rfl, ?_⟩) hHeld ?_ ?_
 rotate_left
 ·
  rintro w' ⟨s0, s1, s2⟩
  go_simp
  with_reducible rfl
 rotate_left
 ·
  simp only [Act.put, List.setIfInBounds_toArray, List.set_cons_zero, List.set_cons_succ, i64_w, i32_w]
  rfl
 refine join_ (σ := Value × Value × Value × Value × Nat) 1 #[true, true, true, true, true, true, true, true, true, true, false] (fun s_ => [(5, s_.1), (8, s_.2.1), (9, s_.2.2.1), (12, s_.2.2.2.1), (3, .pointer (some ⟨s_.2.2.2.2, 0, none⟩)), (13, .agg #[s_.2.1, s_.2.2.2.1, .slice none 0 0])]) (fun s_ w' => (w'.cell? ⟨gb269, 0, none⟩ = some (.slice A0_0 l0_0.length c0_0) ∧ w'.cell? ⟨gb269, 1, none⟩ = some (.slice A0_1 l0_1.length c0_1) ∧ w'.cell? ⟨gb269, 2, none⟩ = some (.slice A0_2 l0_2.length c0_2)) ∧ (Kd.R (Kd.int .i64) 3 w' w.heap.size (fun _ => True) s_.2.1 y274) ∧ (Kd.R k50 50 w' w.heap.size (fun _ => True) s_.2.2.2.1 y280) ∧ (w'.heap[gb269]? = some (.cells #[.slice A0_0 l0_0.length c0_0, .slice A0_1 l0_1.length c0_1, .slice A0_2 l0_2.length c0_2] 26 (0, 0))) ∧ (w'.heap[gb270]? = some (.cells #[.slice none 0 0, .slice none 0 0, .slice none 0 0] 26 (0, 0))) ∧ (w'.heap[s_.2.2.2.2]? = some (.cells #[.slice none 0 0, .slice none 0 0, .slice none 0 0] 26 (0, 0))) ∧ (w.heap.size ≤ s_.2.2.2.2) ∧ (w.heap.size ≤ s_.2.2.2.2) ∧ (gb269 ≠ s_.2.2.2.2) ∧ (s_.2.2.2.2 ≠ gb269) ∧ (gb270 ≠ s_.2.2.2.2) ∧ (s_.2.2.2.2 ≠ gb270) ∧ (Below w.heap.size w w')) ?_ ?_
 rotate_left
 ·
  intro hJ0_3_4_7_9
  refine join_ (σ := Value × Value × Value × Value) 2 #[true, true, true, true, true, true, true, true, true, false, false] (fun s_ => [(5, s_.1), (8, s_.2.1), (9, s_.2.2.1), (12, s_.2.2.2), (13, .agg #[s_.2.1, s_.2.2.2, .slice none 0 0])]) (fun s_ w' => (w'.cell? ⟨gb269, 0, none⟩ = some (.slice A0_0 l0_0.length c0_0) ∧ w'.cell? ⟨gb269, 1, none⟩ = some (.slice A0_1 l0_1.length c0_1) ∧ w'.cell? ⟨gb269, 2, none⟩ = some (.slice A0_2 l0_2.length c0_2)) ∧ (Kd.R (Kd.int .i64) 3 w' w.heap.size (fun _ => True) s_.2.1 y274) ∧ (Kd.R k50 50 w' w.heap.size (fun _ => True) s_.2.2.2 y280) ∧ (w'.heap[gb269]? = some (.cells #[.slice A0_0 l0_0.length c0_0, .slice A0_1 l0_1.length c0_1, .slice A0_2 l0_2.length c0_2] 26 (0, 0))) ∧ (w'.heap[gb270]? = some (.cells #[.slice none 0 0, .slice none 0 0, .slice none 0 0] 26 (0, 0))) ∧ (Below w.heap.size w w')) ?_ ?_
  rotate_left
  ·
   intro hJ0_3_4_7
   refine join_ (σ := Value × Value × Value × Nat) 3 #[true, true, true, true, true, true, true, false, false, true, false] (fun s_ => [(5, s_.1), (8, s_.2.1), (9, s_.2.2.1), (3, .pointer (some ⟨s_.2.2.2, 0, none⟩))]) (fun s_ w' => (w'.cell? ⟨gb269, 0, none⟩ = some (.slice A0_0 l0_0.length c0_0) ∧ w'.cell? ⟨gb269, 1, none⟩ = some (.slice A0_1 l0_1.length c0_1) ∧ w'.cell? ⟨gb269, 2, none⟩ = some (.slice A0_2 l0_2.length c0_2)) ∧ (Kd.R (Kd.int .i64) 3 w' w.heap.size (fun _ => True) s_.2.1 y274) ∧ (Kd.R k50 50 w' w.heap.size (fun _ => True) s_.2.2.1 y277) ∧ (w'.heap[gb269]? = some (.cells #[.slice A0_0 l0_0.length c0_0, .slice A0_1 l0_1.length c0_1, .slice A0_2 l0_2.length c0_2] 26 (0, 0))) ∧ (w'.heap[gb270]? = some (.cells #[.slice none 0 0, .slice none 0 0, .slice none 0 0] 26 (0, 0))) ∧ (w'.heap[s_.2.2.2]? = some (.cells #[.slice none 0 0, .slice none 0 0, .slice none 0 0] 26 (0, 0))) ∧ (w.heap.size ≤ s_.2.2.2) ∧ (w.heap.size ≤ s_.2.2.2) ∧ (gb269 ≠ s_.2.2.2) ∧ (s_.2.2.2 ≠ gb269) ∧ (gb270 ≠ s_.2.2.2) ∧ (s_.2.2.2 ≠ gb270) ∧ (Below w.heap.size w w')) ?_ ?_
   rotate_left
   ·
    intro hJ0_3_4_9
    refine join_ (σ := Value × Value × Value) 4 #[true, true, true, true, true, true, true, false, false, false, false] (fun s_ => [(5, s_.1), (8, s_.2.1), (9, s_.2.2)]) (fun s_ w' => (w'.cell? ⟨gb269, 0, none⟩ = some (.slice A0_0 l0_0.length c0_0) ∧ w'.cell? ⟨gb269, 1, none⟩ = some (.slice A0_1 l0_1.length c0_1) ∧ w'.cell? ⟨gb269, 2, none⟩ = some (.slice A0_2 l0_2.length c0_2)) ∧ (Kd.R (Kd.int .i64) 3 w' w.heap.size (fun _ => True) s_.2.1 y274) ∧ (Kd.R k50 50 w' w.heap.size (fun _ => True) s_.2.2 y277) ∧ (w'.heap[gb269]? = some (.cells #[.slice A0_0 l0_0.length c0_0, .slice A0_1 l0_1.length c0_1, .slice A0_2 l0_2.length c0_2] 26 (0, 0))) ∧ (w'.heap[gb270]? = some (.cells #[.slice none 0 0, .slice none 0 0, .slice none 0 0] 26 (0, 0))) ∧ (Below w.heap.size w w')) ?_ ?_
    rotate_left
    ·
     intro hJ0_3_4
     refine join_ (σ := Value × Value × Nat) 4 #[true, true, true, true, false, true, true, false, false, true, false] (fun s_ => [(5, s_.1), (8, s_.2.1), (3, .pointer (some ⟨s_.2.2, 0, none⟩))]) (fun s_ w' => (w'.cell? ⟨gb269, 0, none⟩ = some (.slice A0_0 l0_0.length c0_0) ∧ w'.cell? ⟨gb269, 1, none⟩ = some (.slice A0_1 l0_1.length c0_1) ∧ w'.cell? ⟨gb269, 2, none⟩ = some (.slice A0_2 l0_2.length c0_2)) ∧ (Kd.R (Kd.int .i64) 3 w' w.heap.size (fun _ => True) s_.2.1 y274) ∧ (w'.heap[gb269]? = some (.cells #[.slice A0_0 l0_0.length c0_0, .slice A0_1 l0_1.length c0_1, .slice A0_2 l0_2.length c0_2] 26 (0, 0))) ∧ (w'.heap[gb270]? = some (.cells #[.slice none 0 0, .slice none 0 0, .slice none 0 0] 26 (0, 0))) ∧ (w'.heap[s_.2.2]? = some (.cells #[.slice none 0 0, .slice none 0 0, .slice none 0 0] 26 (0, 0))) ∧ (w.heap.size ≤ s_.2.2) ∧ (w.heap.size ≤ s_.2.2) ∧ (gb269 ≠ s_.2.2) ∧ (s_.2.2 ≠ gb269) ∧ (gb270 ≠ s_.2.2) ∧ (s_.2.2 ≠ gb270) ∧ (Below w.heap.size w w')) ?_ ?_
     rotate_left
     ·
      intro hJ0_3_9
      refine join_ (σ := Value × Value × Nat) 4 #[true, true, true, false, true, true, true, false, false, true, false] (fun s_ => [(5, s_.1), (9, s_.2.1), (3, .pointer (some ⟨s_.2.2, 0, none⟩))]) (fun s_ w' => (w'.cell? ⟨gb269, 0, none⟩ = some (.slice A0_0 l0_0.length c0_0) ∧ w'.cell? ⟨gb269, 1, none⟩ = some (.slice A0_1 l0_1.length c0_1) ∧ w'.cell? ⟨gb269, 2, none⟩ = some (.slice A0_2 l0_2.length c0_2)) ∧ (Kd.R (Kd.int .i64) 3 w' w.heap.size (fun _ => True) s_.1 y271) ∧ (Kd.R k50 50 w' w.heap.size (fun _ => True) s_.2.1 y277) ∧ (w'.heap[gb269]? = some (.cells #[.slice A0_0 l0_0.length c0_0, .slice A0_1 l0_1.length c0_1, .slice A0_2 l0_2.length c0_2] 26 (0, 0))) ∧ (w'.heap[gb270]? = some (.cells #[.slice none 0 0, .slice none 0 0, .slice none 0 0] 26 (0, 0))) ∧ (w'.heap[s_.2.2]? = some (.cells #[.slice none 0 0, .slice none 0 0, .slice none 0 0] 26 (0, 0))) ∧ (w.heap.size ≤ s_.2.2) ∧ (w.heap.size ≤ s_.2.2) ∧ (gb269 ≠ s_.2.2) ∧ (s_.2.2 ≠ gb269) ∧ (gb270 ≠ s_.2.2) ∧ (s_.2.2 ≠ gb270) ∧ (Below w.heap.size w w')) ?_ ?_
      rotate_left
      ·
       intro hJ0_4_9
       refine join_ (σ := Value × Value) 5 #[true, true, true, true, false, true, true, false, false, false, false] (fun s_ => [(5, s_.1), (8, s_.2)]) (fun s_ w' => (w'.cell? ⟨gb269, 0, none⟩ = some (.slice A0_0 l0_0.length c0_0) ∧ w'.cell? ⟨gb269, 1, none⟩ = some (.slice A0_1 l0_1.length c0_1) ∧ w'.cell? ⟨gb269, 2, none⟩ = some (.slice A0_2 l0_2.length c0_2)) ∧ (Kd.R (Kd.int .i64) 3 w' w.heap.size (fun _ => True) s_.2 y274) ∧ (w'.heap[gb269]? = some (.cells #[.slice A0_0 l0_0.length c0_0, .slice A0_1 l0_1.length c0_1, .slice A0_2 l0_2.length c0_2] 26 (0, 0))) ∧ (w'.heap[gb270]? = some (.cells #[.slice none 0 0, .slice none 0 0, .slice none 0 0] 26 (0, 0))) ∧ (Below w.heap.size w w')) ?_ ?_
       rotate_left
       ·
        intro hJ0_3
        refine join_ (σ := Value × Value) 5 #[true, true, true, false, true, true, true, false, false, false, false] (fun s_ => [(5, s_.1), (9, s_.2)]) (fun s_ w' => (w'.cell? ⟨gb269, 0, none⟩ = some (.slice A0_0 l0_0.length c0_0) ∧ w'.cell? ⟨gb269, 1, none⟩ = some (.slice A0_1 l0_1.length c0_1) ∧ w'.cell? ⟨gb269, 2, none⟩ = some (.slice A0_2 l0_2.length c0_2)) ∧ (Kd.R (Kd.int .i64) 3 w' w.heap.size (fun _ => True) s_.1 y271) ∧ (Kd.R k50 50 w' w.heap.size (fun _ => True) s_.2 y277) ∧ (w'.heap[gb269]? = some (.cells #[.slice A0_0 l0_0.length c0_0, .slice A0_1 l0_1.length c0_1, .slice A0_2 l0_2.length c0_2] 26 (0, 0))) ∧ (w'.heap[gb270]? = some (.cells #[.slice none 0 0, .slice none 0 0, .slice none 0 0] 26 (0, 0))) ∧ (Below w.heap.size w w')) ?_ ?_
        rotate_left
        ·
         intro hJ0_4
         refine join_ (σ := Value × Nat) 5 #[true, true, true, false, false, true, true, false, false, true, false] (fun s_ => [(5, s_.1), (3, .pointer (some ⟨s_.2, 0, none⟩))]) (fun s_ w' => (w'.cell? ⟨gb269, 0, none⟩ = some (.slice A0_0 l0_0.length c0_0) ∧ w'.cell? ⟨gb269, 1, none⟩ = some (.slice A0_1 l0_1.length c0_1) ∧ w'.cell? ⟨gb269, 2, none⟩ = some (.slice A0_2 l0_2.length c0_2)) ∧ (Kd.R (Kd.int .i64) 3 w' w.heap.size (fun _ => True) s_.1 y271) ∧ (w'.heap[gb269]? = some (.cells #[.slice A0_0 l0_0.length c0_0, .slice A0_1 l0_1.length c0_1, .slice A0_2 l0_2.length c0_2] 26 (0, 0))) ∧ (w'.heap[gb270]? = some (.cells #[.slice none 0 0, .slice none 0 0, .slice none 0 0] 26 (0, 0))) ∧ (w'.heap[s_.2]? = some (.cells #[.slice none 0 0, .slice none 0 0, .slice none 0 0] 26 (0, 0))) ∧ (w.heap.size ≤ s_.2) ∧ (w.heap.size ≤ s_.2) ∧ (gb269 ≠ s_.2) ∧ (s_.2 ≠ gb269) ∧ (gb270 ≠ s_.2) ∧ (s_.2 ≠ gb270) ∧ (Below w.heap.size w w')) ?_ ?_
         rotate_left
         ·
          intro hJ0_9
          refine join_ (σ := Value × Nat) 5 #[false, true, true, false, true, true, true, false, false, true, false] (fun s_ => [(9, s_.1), (3, .pointer (some ⟨s_.2, 0, none⟩))]) (fun s_ w' => (w'.cell? ⟨gb269, 0, none⟩ = some (.slice A0_0 l0_0.length c0_0) ∧ w'.cell? ⟨gb269, 1, none⟩ = some (.slice A0_1 l0_1.length c0_1) ∧ w'.cell? ⟨gb269, 2, none⟩ = some (.slice A0_2 l0_2.length c0_2)) ∧ (Kd.R k50 50 w' w.heap.size (fun _ => True) s_.1 y277) ∧ (w'.heap[gb269]? = some (.cells #[.slice A0_0 l0_0.length c0_0, .slice A0_1 l0_1.length c0_1, .slice A0_2 l0_2.length c0_2] 26 (0, 0))) ∧ (w'.heap[gb270]? = some (.cells #[.slice none 0 0, .slice none 0 0, .slice none 0 0] 26 (0, 0))) ∧ (w'.heap[s_.2]? = some (.cells #[.slice none 0 0, .slice none 0 0, .slice none 0 0] 26 (0, 0))) ∧ (w.heap.size ≤ s_.2) ∧ (w.heap.size ≤ s_.2) ∧ (gb269 ≠ s_.2) ∧ (s_.2 ≠ gb269) ∧ (gb270 ≠ s_.2) ∧ (s_.2 ≠ gb270) ∧ (Below w.heap.size w w')) ?_ ?_
          rotate_left
          ·
           intro hJ4_9
           refine join_ (σ := Value) 6 #[true, true, true, false, false, true, true, false, false, false, false] (fun s_ => [(5, s_)]) (fun s_ w' => (w'.cell? ⟨gb269, 0, none⟩ = some (.slice A0_0 l0_0.length c0_0) ∧ w'.cell? ⟨gb269, 1, none⟩ = some (.slice A0_1 l0_1.length c0_1) ∧ w'.cell? ⟨gb269, 2, none⟩ = some (.slice A0_2 l0_2.length c0_2)) ∧ (Kd.R (Kd.int .i64) 3 w' w.heap.size (fun _ => True) s_ y271) ∧ (w'.heap[gb269]? = some (.cells #[.slice A0_0 l0_0.length c0_0, .slice A0_1 l0_1.length c0_1, .slice A0_2 l0_2.length c0_2] 26 (0, 0))) ∧ (w'.heap[gb270]? = some (.cells #[.slice none 0 0, .slice none 0 0, .slice none 0 0] 26 (0, 0))) ∧ (Below w.heap.size w w')) ?_ ?_
           rotate_left
           ·
            intro hJ0
            refine join_ (σ := Value) 6 #[false, true, true, false, true, true, true, false, false, false, false] (fun s_ => [(9, s_)]) (fun s_ w' => (w'.cell? ⟨gb269, 0, none⟩ = some (.slice A0_0 l0_0.length c0_0) ∧ w'.cell? ⟨gb269, 1, none⟩ = some (.slice A0_1 l0_1.length c0_1) ∧ w'.cell? ⟨gb269, 2, none⟩ = some (.slice A0_2 l0_2.length c0_2)) ∧ (Kd.R k50 50 w' w.heap.size (fun _ => True) s_ y277) ∧ (w'.heap[gb269]? = some (.cells #[.slice A0_0 l0_0.length c0_0, .slice A0_1 l0_1.length c0_1, .slice A0_2 l0_2.length c0_2] 26 (0, 0))) ∧ (w'.heap[gb270]? = some (.cells #[.slice none 0 0, .slice none 0 0, .slice none 0 0] 26 (0, 0))) ∧ (Below w.heap.size w w')) ?_ ?_
            rotate_left
            ·
             intro hJ4
             refine join_ (σ := Nat) 6 #[false, true, true, false, false, true, true, false, false, true, false] (fun s_ => [(3, .pointer (some ⟨s_, 0, none⟩))]) (fun s_ w' => (w'.cell? ⟨gb269, 0, none⟩ = some (.slice A0_0 l0_0.length c0_0) ∧ w'.cell? ⟨gb269, 1, none⟩ = some (.slice A0_1 l0_1.length c0_1) ∧ w'.cell? ⟨gb269, 2, none⟩ = some (.slice A0_2 l0_2.length c0_2)) ∧ (w'.heap[gb269]? = some (.cells #[.slice A0_0 l0_0.length c0_0, .slice A0_1 l0_1.length c0_1, .slice A0_2 l0_2.length c0_2] 26 (0, 0))) ∧ (w'.heap[gb270]? = some (.cells #[.slice none 0 0, .slice none 0 0, .slice none 0 0] 26 (0, 0))) ∧ (w'.heap[s_]? = some (.cells #[.slice none 0 0, .slice none 0 0, .slice none 0 0] 26 (0, 0))) ∧ (w.heap.size ≤ s_) ∧ (w.heap.size ≤ s_) ∧ (gb269 ≠ s_) ∧ (s_ ≠ gb269) ∧ (gb270 ≠ s_) ∧ (s_ ≠ gb270) ∧ (Below w.heap.size w w')) ?_ ?_
             rotate_left
             ·
              intro hJ9
              refine three_ (i := 0) (j := 4) (k := 9) (Ni := some 5) (Nj := some 9) (Nk := some 3) #[true, true, true, false, false, true, true, false, false, false, false] #[false, true, true, false, true, true, true, false, false, false, false] #[false, true, true, false, false, true, true, false, false, true, false] rfl rfl rfl rfl rfl rfl (three_of HT_.out (by kernel_rfl)) (by decide) (by decide) (by decide) (fun K hK => ?_) (fun K hK => ?_) (fun K hK => ?_)
              ·
               skip
               refine Kd.R_lit_step (Kd.int .i64) _ 3 ?hg (N := 5) ?hd (xs := ([] : List Int)) (inner := []) (ok := fun _ => True) (okp := fun _ => True) ?hr ?hp (fun _ hk => hk) trivial (Below.refl _ _) (Nat.le_refl _) (by simp) ?_; (case hd => rfl); (case hg => rfl); (case hr => first | (go_simp; done) | (go_simp; rfl)); (case hp => exact (Reps.none _ _))
               intro v272 w7 ho8 hb hg_ hnew_
               clear hg_ hnew_
               (first | rw [← Ny271.out] at ho8 | (simp only [Int.reduceToNat] at ho8; rw [← Ny271.out] at ho8))
               have n0_ := Aside0.mk (Kd.R_lower ho8 (below_size (by repeat (first | (with_reducible first | exact HB.out | apply below_alloc | apply pw_below_drewN | apply below_drew1 | refine below_set ?_ GE269.out | refine below_set ?_ GE270.out) | exact HB.out))))
               have n1_ := Aside0.mk (blk_below (g := gb269) (o := .cells #[.slice A0_0 l0_0.length c0_0, .slice A0_1 l0_1.length c0_1, .slice A0_2 l0_2.length c0_2] 26 (0, 0)) (by (with_reducible repeat (first | refine blk_drewN ?_ _ | refine blk_drew ?_ | refine blk_alloc ?_ _)); exact BK269.out) hb)
               have n2_ := Aside0.mk (blk_below (g := gb270) (o := .cells #[.slice none 0 0, .slice none 0 0, .slice none 0 0] 26 (0, 0)) (by (with_reducible repeat (first | refine blk_drewN ?_ _ | refine blk_drew ?_ | refine blk_alloc ?_ _)); exact BK270.out) hb)
               have n3_ := Aside0.mk (below_step (by repeat (first | (with_reducible first | exact HB.out | apply below_alloc | apply pw_below_drewN | apply below_drew1 | refine below_set ?_ GE269.out | refine below_set ?_ GE270.out) | exact HB.out)) hb)
               clear BK269
               clear BK270
               clear HB
               have HO273 := n0_
               have BK269 := n1_
               have BK270 := n2_
               have HB := n3_
               clear n0_ n1_ n2_ n3_
               clear hb ho8
               refine hK.out _ _ ⟨(blk_cell BK269.out 0).trans rfl, (blk_cell BK269.out 1).trans rfl, (blk_cell BK269.out 2).trans rfl⟩ (fun hHeld => ?_)
               clear hK K
               refine norm_ (a' := ?_) ?_ ?_
               rotate_left
               ·
                show Act.put _ (some 5) _ = _
                simp only [Act.put, List.setIfInBounds_toArray, List.set_cons_zero, List.set_cons_succ, i64_w, i32_w]
                rfl
               exact norm_ (by first | (simp only [putAll, Act.put, List.setIfInBounds_toArray, List.set_cons_zero, List.set_cons_succ]; done) | (simp only [putAll, Act.put, List.setIfInBounds_toArray, List.set_cons_zero, List.set_cons_succ]; rfl)) (hJ0 (v272) _ ⟨hHeld, (by (with_reducible repeat (first | apply Kd.R_alloc | apply Kd.R_drewN | apply Kd.R_drew)); exact HO273.out), (by (with_reducible repeat (first | refine blk_drewN ?_ _ | refine blk_drew ?_ | refine blk_alloc ?_ _)); exact BK269.out), (by (with_reducible repeat (first | refine blk_drewN ?_ _ | refine blk_drew ?_ | refine blk_alloc ?_ _)); exact BK270.out), (by repeat (first | (with_reducible first | exact HB.out | apply below_alloc | apply pw_below_drewN | apply below_drew1 | refine below_set ?_ GE269.out | refine below_set ?_ GE270.out) | exact HB.out))⟩)
              ·
               skip
               refine Kd.R_lit_step k50 _ 50 ?hg (N := 9) ?hd (xs := ([] : List (S50))) (inner := []) (ok := fun _ => True) (okp := fun _ => True) ?hr ?hp (fun _ hk => hk) trivial (Below.refl _ _) (Nat.le_refl _) (by simp) ?_; (case hd => rfl); (case hg => rfl); (case hr => first | (go_simp; done) | (go_simp; rfl)); (case hp => exact (Reps.none _ _))
               intro v278 w7 ho8 hb hg_ hnew_
               clear hg_ hnew_
               (first | rw [← Ny277.out] at ho8 | (simp only [Int.reduceToNat] at ho8; rw [← Ny277.out] at ho8))
               have n0_ := Aside0.mk (Kd.R_lower ho8 (below_size (by repeat (first | (with_reducible first | exact HB.out | apply below_alloc | apply pw_below_drewN | apply below_drew1 | refine below_set ?_ GE269.out | refine below_set ?_ GE270.out) | exact HB.out))))
               have n1_ := Aside0.mk (blk_below (g := gb269) (o := .cells #[.slice A0_0 l0_0.length c0_0, .slice A0_1 l0_1.length c0_1, .slice A0_2 l0_2.length c0_2] 26 (0, 0)) (by (with_reducible repeat (first | refine blk_drewN ?_ _ | refine blk_drew ?_ | refine blk_alloc ?_ _)); exact BK269.out) hb)
               have n2_ := Aside0.mk (blk_below (g := gb270) (o := .cells #[.slice none 0 0, .slice none 0 0, .slice none 0 0] 26 (0, 0)) (by (with_reducible repeat (first | refine blk_drewN ?_ _ | refine blk_drew ?_ | refine blk_alloc ?_ _)); exact BK270.out) hb)
               have n3_ := Aside0.mk (below_step (by repeat (first | (with_reducible first | exact HB.out | apply below_alloc | apply pw_below_drewN | apply below_drew1 | refine below_set ?_ GE269.out | refine below_set ?_ GE270.out) | exact HB.out)) hb)
               clear BK269
               clear BK270
               clear HB
               have HO279 := n0_
               have BK269 := n1_
               have BK270 := n2_
               have HB := n3_
               clear n0_ n1_ n2_ n3_
               clear hb ho8
               refine hK.out _ _ ⟨(blk_cell BK269.out 0).trans rfl, (blk_cell BK269.out 1).trans rfl, (blk_cell BK269.out 2).trans rfl⟩ (fun hHeld => ?_)
               clear hK K
               refine norm_ (a' := ?_) ?_ ?_
               rotate_left
               ·
                show Act.put _ (some 9) _ = _
                simp only [Act.put, List.setIfInBounds_toArray, List.set_cons_zero, List.set_cons_succ, i64_w, i32_w]
                rfl
               exact norm_ (by first | (simp only [putAll, Act.put, List.setIfInBounds_toArray, List.set_cons_zero, List.set_cons_succ]; done) | (simp only [putAll, Act.put, List.setIfInBounds_toArray, List.set_cons_zero, List.set_cons_succ]; rfl)) (hJ4 (v278) _ ⟨hHeld, (by (with_reducible repeat (first | apply Kd.R_alloc | apply Kd.R_drewN | apply Kd.R_drew)); exact HO279.out), (by (with_reducible repeat (first | refine blk_drewN ?_ _ | refine blk_drew ?_ | refine blk_alloc ?_ _)); exact BK269.out), (by (with_reducible repeat (first | refine blk_drewN ?_ _ | refine blk_drew ?_ | refine blk_alloc ?_ _)); exact BK270.out), (by repeat (first | (with_reducible first | exact HB.out | apply below_alloc | apply pw_below_drewN | apply below_drew1 | refine below_set ?_ GE269.out | refine below_set ?_ GE270.out) | exact HB.out))⟩)
              skip
              refine box_step ?hg (N := 3) ?hd (cs := #[.slice none 0 0, .slice none 0 0, .slice none 0 0]) (t := 26) ?hr ?_; (case hd => rfl); (case hg => rfl); (case hr => first | (go_simp; done) | (go_simp; rfl))
              intro gb283 hg w7 hbox hb
              have n0_ := Aside0.mk (blk_below (g := gb269) (o := .cells #[.slice A0_0 l0_0.length c0_0, .slice A0_1 l0_1.length c0_1, .slice A0_2 l0_2.length c0_2] 26 (0, 0)) (by (with_reducible repeat (first | refine blk_drewN ?_ _ | refine blk_drew ?_ | refine blk_alloc ?_ _)); exact BK269.out) hb)
              have n1_ := Aside0.mk (blk_below (g := gb270) (o := .cells #[.slice none 0 0, .slice none 0 0, .slice none 0 0] 26 (0, 0)) (by (with_reducible repeat (first | refine blk_drewN ?_ _ | refine blk_drew ?_ | refine blk_alloc ?_ _)); exact BK270.out) hb)
              have n2_ := Aside0.mk (below_step (by repeat (first | (with_reducible first | exact HB.out | apply below_alloc | apply pw_below_drewN | apply below_drew1 | refine below_set ?_ GE269.out | refine below_set ?_ GE270.out) | exact HB.out)) hb)
              have n3_ := Aside0.mk (hbox)
              have n4_ := Aside0.mk ((by rw [hg]; exact (below_size (by repeat (first | (with_reducible first | exact HB.out | apply below_alloc | apply pw_below_drewN | apply below_drew1 | refine below_set ?_ GE269.out | refine below_set ?_ GE270.out) | exact HB.out))) : w.heap.size ≤ gb283))
              have n5_ := Aside0.mk ((by rw [hg]; exact (below_size (by repeat (first | (with_reducible first | exact HB.out | apply below_alloc | apply pw_below_drewN | apply below_drew1 | refine below_set ?_ GE269.out | refine below_set ?_ GE270.out) | exact HB.out))) : w.heap.size ≤ gb283))
              have n6_ := Aside0.mk ((by rw [hg]; exact Nat.ne_of_lt (blk_lt (g := gb269) (o := .cells #[.slice A0_0 l0_0.length c0_0, .slice A0_1 l0_1.length c0_1, .slice A0_2 l0_2.length c0_2] 26 (0, 0)) (by (with_reducible repeat (first | refine blk_drewN ?_ _ | refine blk_drew ?_ | refine blk_alloc ?_ _)); exact BK269.out)) : gb269 ≠ gb283))
              have n7_ := Aside0.mk ((by rw [hg]; exact Nat.ne_of_gt (blk_lt (g := gb269) (o := .cells #[.slice A0_0 l0_0.length c0_0, .slice A0_1 l0_1.length c0_1, .slice A0_2 l0_2.length c0_2] 26 (0, 0)) (by (with_reducible repeat (first | refine blk_drewN ?_ _ | refine blk_drew ?_ | refine blk_alloc ?_ _)); exact BK269.out)) : gb283 ≠ gb269))
              have n8_ := Aside0.mk ((by rw [hg]; exact Nat.ne_of_lt (blk_lt (g := gb270) (o := .cells #[.slice none 0 0, .slice none 0 0, .slice none 0 0] 26 (0, 0)) (by (with_reducible repeat (first | refine blk_drewN ?_ _ | refine blk_drew ?_ | refine blk_alloc ?_ _)); exact BK270.out)) : gb270 ≠ gb283))
              have n9_ := Aside0.mk ((by rw [hg]; exact Nat.ne_of_gt (blk_lt (g := gb270) (o := .cells #[.slice none 0 0, .slice none 0 0, .slice none 0 0] 26 (0, 0)) (by (with_reducible repeat (first | refine blk_drewN ?_ _ | refine blk_drew ?_ | refine blk_alloc ?_ _)); exact BK270.out)) : gb283 ≠ gb270))
              clear BK269
              clear BK270
              clear HB
              have BK269 := n0_
              have BK270 := n1_
              have HB := n2_
              have BK283 := n3_
              have GW283 := n4_
              have GE283 := n5_
              have NB269_283 := n6_
              have NB283_269 := n7_
              have NB270_283 := n8_
              have NB283_270 := n9_
              clear n0_ n1_ n2_ n3_ n4_ n5_ n6_ n7_ n8_ n9_
              clear hb hbox hg
              refine hK.out _ _ ⟨(blk_cell BK269.out 0).trans rfl, (blk_cell BK269.out 1).trans rfl, (blk_cell BK269.out 2).trans rfl⟩ (fun hHeld => ?_)
              clear hK K
              refine norm_ (a' := ?_) ?_ ?_
              rotate_left
              ·
               show Act.put _ (some 3) _ = _
               simp only [Act.put, List.setIfInBounds_toArray, List.set_cons_zero, List.set_cons_succ, i64_w, i32_w]
               rfl
              exact norm_ (by first | (simp only [putAll, Act.put, List.setIfInBounds_toArray, List.set_cons_zero, List.set_cons_succ]; done) | (simp only [putAll, Act.put, List.setIfInBounds_toArray, List.set_cons_zero, List.set_cons_succ]; rfl)) (hJ9 (gb283) _ ⟨hHeld, (by (with_reducible repeat (first | refine blk_drewN ?_ _ | refine blk_drew ?_ | refine blk_alloc ?_ _)); exact BK269.out), (by (with_reducible repeat (first | refine blk_drewN ?_ _ | refine blk_drew ?_ | refine blk_alloc ?_ _)); exact BK270.out), (by (with_reducible repeat (first | refine blk_drewN ?_ _ | refine blk_drew ?_ | refine blk_alloc ?_ _)); exact BK283.out), GW283.out, GE283.out, NB269_283.out, NB283_269.out, NB270_283.out, NB283_270.out, (by repeat (first | (with_reducible first | exact HB.out | apply below_alloc | apply pw_below_drewN | apply below_drew1 | refine below_set ?_ GE269.out | refine below_set ?_ GE270.out | refine below_set ?_ GE283.out) | exact HB.out))⟩)
             skip
             rintro gb283 w8 ⟨hS_, h0_, h1_, h2_, h3_, h4_, h5_, h6_, h7_, h8_, h9_⟩
             have n0_ : Aside0 (w8.heap[gb269]? = some (.cells #[.slice A0_0 l0_0.length c0_0, .slice A0_1 l0_1.length c0_1, .slice A0_2 l0_2.length c0_2] 26 (0, 0))) := ⟨h0_⟩
             have n1_ : Aside0 (w8.heap[gb270]? = some (.cells #[.slice none 0 0, .slice none 0 0, .slice none 0 0] 26 (0, 0))) := ⟨h1_⟩
             have n2_ : Aside0 (w8.heap[gb283]? = some (.cells #[.slice none 0 0, .slice none 0 0, .slice none 0 0] 26 (0, 0))) := ⟨h2_⟩
             have n3_ : Aside0 (w.heap.size ≤ gb283) := ⟨h3_⟩
             have n4_ : Aside0 (w.heap.size ≤ gb283) := ⟨h4_⟩
             have n5_ : Aside0 (gb269 ≠ gb283) := ⟨h5_⟩
             have n6_ : Aside0 (gb283 ≠ gb269) := ⟨h6_⟩
             have n7_ : Aside0 (gb270 ≠ gb283) := ⟨h7_⟩
             have n8_ : Aside0 (gb283 ≠ gb270) := ⟨h8_⟩
             have n9_ : Aside0 (Below w.heap.size w w8) := ⟨h9_⟩
             clear BK269
             clear BK270
             clear HB
             clear h0_ h1_ h2_ h3_ h4_ h5_ h6_ h7_ h8_ h9_
             have BK269 := n0_
             have BK270 := n1_
             have BK283 := n2_
             have GW283 := n3_
             have GE283 := n4_
             have NB269_283 := n5_
             have NB283_269 := n6_
             have NB270_283 := n7_
             have NB283_270 := n8_
             have HB := n9_
             clear n0_ n1_ n2_ n3_ n4_ n5_ n6_ n7_ n8_ n9_
             have hHeld : w8.cell? ⟨gb269, 0, none⟩ = some (.slice A0_0 l0_0.length c0_0) ∧ w8.cell? ⟨gb269, 1, none⟩ = some (.slice A0_1 l0_1.length c0_1) ∧ w8.cell? ⟨gb269, 2, none⟩ = some (.slice A0_2 l0_2.length c0_2) := hS_
             refine norm_ (a' := ?_) ?_ ?_
             rotate_left
             ·
              simp only [putAll, Act.put, List.setIfInBounds_toArray, List.set_cons_zero, List.set_cons_succ]
              rfl
             refine two_ (i := 0) (j := 4) (Ni := some 5) (Nj := some 9) #[true, true, true, false, false, true, true, false, false, true, false] #[false, true, true, false, true, true, true, false, false, true, false] rfl rfl rfl rfl (two_of HT_.out (by kernel_rfl)) (by decide) (by decide) (fun K hK => ?_) (fun K hK => ?_)
             ·
              skip
              refine Kd.R_lit_step (Kd.int .i64) _ 3 ?hg (N := 5) ?hd (xs := ([] : List Int)) (inner := []) (ok := fun _ => True) (okp := fun _ => True) ?hr ?hp (fun _ hk => hk) trivial (Below.refl _ _) (Nat.le_refl _) (by simp) ?_; (case hd => rfl); (case hg => rfl); (case hr => first | (go_simp; done) | (go_simp; rfl)); (case hp => exact (Reps.none _ _))
              intro v272 w9 ho10 hb hg_ hnew_
              clear hg_ hnew_
              (first | rw [← Ny271.out] at ho10 | (simp only [Int.reduceToNat] at ho10; rw [← Ny271.out] at ho10))
              have n0_ := Aside0.mk (Kd.R_lower ho10 (below_size (by repeat (first | (with_reducible first | exact HB.out | apply below_alloc | apply pw_below_drewN | apply below_drew1 | refine below_set ?_ GE269.out | refine below_set ?_ GE270.out | refine below_set ?_ GE283.out) | exact HB.out))))
              have n1_ := Aside0.mk (blk_below (g := gb269) (o := .cells #[.slice A0_0 l0_0.length c0_0, .slice A0_1 l0_1.length c0_1, .slice A0_2 l0_2.length c0_2] 26 (0, 0)) (by (with_reducible repeat (first | refine blk_drewN ?_ _ | refine blk_drew ?_ | refine blk_alloc ?_ _)); exact BK269.out) hb)
              have n2_ := Aside0.mk (blk_below (g := gb270) (o := .cells #[.slice none 0 0, .slice none 0 0, .slice none 0 0] 26 (0, 0)) (by (with_reducible repeat (first | refine blk_drewN ?_ _ | refine blk_drew ?_ | refine blk_alloc ?_ _)); exact BK270.out) hb)
              have n3_ := Aside0.mk (blk_below (g := gb283) (o := .cells #[.slice none 0 0, .slice none 0 0, .slice none 0 0] 26 (0, 0)) (by (with_reducible repeat (first | refine blk_drewN ?_ _ | refine blk_drew ?_ | refine blk_alloc ?_ _)); exact BK283.out) hb)
              have n4_ := Aside0.mk (below_step (by repeat (first | (with_reducible first | exact HB.out | apply below_alloc | apply pw_below_drewN | apply below_drew1 | refine below_set ?_ GE269.out | refine below_set ?_ GE270.out | refine below_set ?_ GE283.out) | exact HB.out)) hb)
              clear BK269
              clear BK270
              clear BK283
              clear HB
              have HO273 := n0_
              have BK269 := n1_
              have BK270 := n2_
              have BK283 := n3_
              have HB := n4_
              clear n0_ n1_ n2_ n3_ n4_
              clear hb ho10
              refine hK.out _ _ ⟨(blk_cell BK269.out 0).trans rfl, (blk_cell BK269.out 1).trans rfl, (blk_cell BK269.out 2).trans rfl⟩ (fun hHeld => ?_)
              clear hK K
              refine norm_ (a' := ?_) ?_ ?_
              rotate_left
              ·
               show Act.put _ (some 5) _ = _
               simp only [Act.put, List.setIfInBounds_toArray, List.set_cons_zero, List.set_cons_succ, i64_w, i32_w]
               rfl
              exact norm_ (by first | (simp only [putAll, Act.put, List.setIfInBounds_toArray, List.set_cons_zero, List.set_cons_succ]; done) | (simp only [putAll, Act.put, List.setIfInBounds_toArray, List.set_cons_zero, List.set_cons_succ]; rfl)) (hJ0_9 (v272, gb283) _ ⟨hHeld, (by (with_reducible repeat (first | apply Kd.R_alloc | apply Kd.R_drewN | apply Kd.R_drew)); exact HO273.out), (by (with_reducible repeat (first | refine blk_drewN ?_ _ | refine blk_drew ?_ | refine blk_alloc ?_ _)); exact BK269.out), (by (with_reducible repeat (first | refine blk_drewN ?_ _ | refine blk_drew ?_ | refine blk_alloc ?_ _)); exact BK270.out), (by (with_reducible repeat (first | refine blk_drewN ?_ _ | refine blk_drew ?_ | refine blk_alloc ?_ _)); exact BK283.out), GW283.out, GE283.out, NB269_283.out, NB283_269.out, NB270_283.out, NB283_270.out, (by repeat (first | (with_reducible first | exact HB.out | apply below_alloc | apply pw_below_drewN | apply below_drew1 | refine below_set ?_ GE269.out | refine below_set ?_ GE270.out | refine below_set ?_ GE283.out) | exact HB.out))⟩)
             skip
             refine Kd.R_lit_step k50 _ 50 ?hg (N := 9) ?hd (xs := ([] : List (S50))) (inner := []) (ok := fun _ => True) (okp := fun _ => True) ?hr ?hp (fun _ hk => hk) trivial (Below.refl _ _) (Nat.le_refl _) (by simp) ?_; (case hd => rfl); (case hg => rfl); (case hr => first | (go_simp; done) | (go_simp; rfl)); (case hp => exact (Reps.none _ _))
             intro v278 w9 ho10 hb hg_ hnew_
             clear hg_ hnew_
             (first | rw [← Ny277.out] at ho10 | (simp only [Int.reduceToNat] at ho10; rw [← Ny277.out] at ho10))
             have n0_ := Aside0.mk (Kd.R_lower ho10 (below_size (by repeat (first | (with_reducible first | exact HB.out | apply below_alloc | apply pw_below_drewN | apply below_drew1 | refine below_set ?_ GE269.out | refine below_set ?_ GE270.out | refine below_set ?_ GE283.out) | exact HB.out))))
             have n1_ := Aside0.mk (blk_below (g := gb269) (o := .cells #[.slice A0_0 l0_0.length c0_0, .slice A0_1 l0_1.length c0_1, .slice A0_2 l0_2.length c0_2] 26 (0, 0)) (by (with_reducible repeat (first | refine blk_drewN ?_ _ | refine blk_drew ?_ | refine blk_alloc ?_ _)); exact BK269.out) hb)
             have n2_ := Aside0.mk (blk_below (g := gb270) (o := .cells #[.slice none 0 0, .slice none 0 0, .slice none 0 0] 26 (0, 0)) (by (with_reducible repeat (first | refine blk_drewN ?_ _ | refine blk_drew ?_ | refine blk_alloc ?_ _)); exact BK270.out) hb)
             have n3_ := Aside0.mk (blk_below (g := gb283) (o := .cells #[.slice none 0 0, .slice none 0 0, .slice none 0 0] 26 (0, 0)) (by (with_reducible repeat (first | refine blk_drewN ?_ _ | refine blk_drew ?_ | refine blk_alloc ?_ _)); exact BK283.out) hb)
             have n4_ := Aside0.mk (below_step (by repeat (first | (with_reducible first | exact HB.out | apply below_alloc | apply pw_below_drewN | apply below_drew1 | refine below_set ?_ GE269.out | refine below_set ?_ GE270.out | refine below_set ?_ GE283.out) | exact HB.out)) hb)
             clear BK269
             clear BK270
             clear BK283
             clear HB
             have HO279 := n0_
             have BK269 := n1_
             have BK270 := n2_
             have BK283 := n3_
             have HB := n4_
             clear n0_ n1_ n2_ n3_ n4_
             clear hb ho10
             refine hK.out _ _ ⟨(blk_cell BK269.out 0).trans rfl, (blk_cell BK269.out 1).trans rfl, (blk_cell BK269.out 2).trans rfl⟩ (fun hHeld => ?_)
             clear hK K
             refine norm_ (a' := ?_) ?_ ?_
             rotate_left
             ·
              show Act.put _ (some 9) _ = _
              simp only [Act.put, List.setIfInBounds_toArray, List.set_cons_zero, List.set_cons_succ, i64_w, i32_w]
              rfl
             exact norm_ (by first | (simp only [putAll, Act.put, List.setIfInBounds_toArray, List.set_cons_zero, List.set_cons_succ]; done) | (simp only [putAll, Act.put, List.setIfInBounds_toArray, List.set_cons_zero, List.set_cons_succ]; rfl)) (hJ4_9 (v278, gb283) _ ⟨hHeld, (by (with_reducible repeat (first | apply Kd.R_alloc | apply Kd.R_drewN | apply Kd.R_drew)); exact HO279.out), (by (with_reducible repeat (first | refine blk_drewN ?_ _ | refine blk_drew ?_ | refine blk_alloc ?_ _)); exact BK269.out), (by (with_reducible repeat (first | refine blk_drewN ?_ _ | refine blk_drew ?_ | refine blk_alloc ?_ _)); exact BK270.out), (by (with_reducible repeat (first | refine blk_drewN ?_ _ | refine blk_drew ?_ | refine blk_alloc ?_ _)); exact BK283.out), GW283.out, GE283.out, NB269_283.out, NB283_269.out, NB270_283.out, NB283_270.out, (by repeat (first | (with_reducible first | exact HB.out | apply below_alloc | apply pw_below_drewN | apply below_drew1 | refine below_set ?_ GE269.out | refine below_set ?_ GE270.out | refine below_set ?_ GE283.out) | exact HB.out))⟩)
            skip
            rintro v278 w9 ⟨hS_, h0_, h1_, h2_, h3_⟩
            have n0_ : Aside0 (Kd.R k50 50 w9 w.heap.size (fun _ => True) v278 y277) := ⟨h0_⟩
            have n1_ : Aside0 (w9.heap[gb269]? = some (.cells #[.slice A0_0 l0_0.length c0_0, .slice A0_1 l0_1.length c0_1, .slice A0_2 l0_2.length c0_2] 26 (0, 0))) := ⟨h1_⟩
            have n2_ : Aside0 (w9.heap[gb270]? = some (.cells #[.slice none 0 0, .slice none 0 0, .slice none 0 0] 26 (0, 0))) := ⟨h2_⟩
            have n3_ : Aside0 (Below w.heap.size w w9) := ⟨h3_⟩
            clear BK269
            clear BK270
            clear HB
            clear h0_ h1_ h2_ h3_
            have HO279 := n0_
            have BK269 := n1_
            have BK270 := n2_
            have HB := n3_
            clear n0_ n1_ n2_ n3_
            have hHeld : w9.cell? ⟨gb269, 0, none⟩ = some (.slice A0_0 l0_0.length c0_0) ∧ w9.cell? ⟨gb269, 1, none⟩ = some (.slice A0_1 l0_1.length c0_1) ∧ w9.cell? ⟨gb269, 2, none⟩ = some (.slice A0_2 l0_2.length c0_2) := hS_
            refine norm_ (a' := ?_) ?_ ?_
            rotate_left
            ·
             simp only [putAll, Act.put, List.setIfInBounds_toArray, List.set_cons_zero, List.set_cons_succ]
             rfl
            refine two_ (i := 0) (j := 9) (Ni := some 5) (Nj := some 3) #[true, true, true, false, true, true, true, false, false, false, false] #[false, true, true, false, true, true, true, false, false, true, false] rfl rfl rfl rfl (two_of HT_.out (by kernel_rfl)) (by decide) (by decide) (fun K hK => ?_) (fun K hK => ?_)
            ·
             skip
             refine Kd.R_lit_step (Kd.int .i64) _ 3 ?hg (N := 5) ?hd (xs := ([] : List Int)) (inner := []) (ok := fun _ => True) (okp := fun _ => True) ?hr ?hp (fun _ hk => hk) trivial (Below.refl _ _) (Nat.le_refl _) (by simp) ?_; (case hd => rfl); (case hg => rfl); (case hr => first | (go_simp; done) | (go_simp; rfl)); (case hp => exact (Reps.none _ _))
             intro v272 w10 ho11 hb hg_ hnew_
             clear hg_ hnew_
             (first | rw [← Ny271.out] at ho11 | (simp only [Int.reduceToNat] at ho11; rw [← Ny271.out] at ho11))
             have n0_ := Aside0.mk (Kd.R_below (by (with_reducible repeat (first | apply Kd.R_alloc | apply Kd.R_drewN | apply Kd.R_drew)); exact HO279.out) hb)
             have n1_ := Aside0.mk (Kd.R_lower ho11 (below_size (by repeat (first | (with_reducible first | exact HB.out | apply below_alloc | apply pw_below_drewN | apply below_drew1 | refine below_set ?_ GE269.out | refine below_set ?_ GE270.out) | exact HB.out))))
             have n2_ := Aside0.mk (blk_below (g := gb269) (o := .cells #[.slice A0_0 l0_0.length c0_0, .slice A0_1 l0_1.length c0_1, .slice A0_2 l0_2.length c0_2] 26 (0, 0)) (by (with_reducible repeat (first | refine blk_drewN ?_ _ | refine blk_drew ?_ | refine blk_alloc ?_ _)); exact BK269.out) hb)
             have n3_ := Aside0.mk (blk_below (g := gb270) (o := .cells #[.slice none 0 0, .slice none 0 0, .slice none 0 0] 26 (0, 0)) (by (with_reducible repeat (first | refine blk_drewN ?_ _ | refine blk_drew ?_ | refine blk_alloc ?_ _)); exact BK270.out) hb)
             have n4_ := Aside0.mk (below_step (by repeat (first | (with_reducible first | exact HB.out | apply below_alloc | apply pw_below_drewN | apply below_drew1 | refine below_set ?_ GE269.out | refine below_set ?_ GE270.out) | exact HB.out)) hb)
             clear HO279
             clear BK269
             clear BK270
             clear HB
             have HO279 := n0_
             have HO273 := n1_
             have BK269 := n2_
             have BK270 := n3_
             have HB := n4_
             clear n0_ n1_ n2_ n3_ n4_
             clear hb ho11
             refine hK.out _ _ ⟨(blk_cell BK269.out 0).trans rfl, (blk_cell BK269.out 1).trans rfl, (blk_cell BK269.out 2).trans rfl⟩ (fun hHeld => ?_)
             clear hK K
             refine norm_ (a' := ?_) ?_ ?_
             rotate_left
             ·
              show Act.put _ (some 5) _ = _
              simp only [Act.put, List.setIfInBounds_toArray, List.set_cons_zero, List.set_cons_succ, i64_w, i32_w]
              rfl
             exact norm_ (by first | (simp only [putAll, Act.put, List.setIfInBounds_toArray, List.set_cons_zero, List.set_cons_succ]; done) | (simp only [putAll, Act.put, List.setIfInBounds_toArray, List.set_cons_zero, List.set_cons_succ]; rfl)) (hJ0_4 (v272, v278) _ ⟨hHeld, (by (with_reducible repeat (first | apply Kd.R_alloc | apply Kd.R_drewN | apply Kd.R_drew)); exact HO273.out), (by (with_reducible repeat (first | apply Kd.R_alloc | apply Kd.R_drewN | apply Kd.R_drew)); exact HO279.out), (by (with_reducible repeat (first | refine blk_drewN ?_ _ | refine blk_drew ?_ | refine blk_alloc ?_ _)); exact BK269.out), (by (with_reducible repeat (first | refine blk_drewN ?_ _ | refine blk_drew ?_ | refine blk_alloc ?_ _)); exact BK270.out), (by repeat (first | (with_reducible first | exact HB.out | apply below_alloc | apply pw_below_drewN | apply below_drew1 | refine below_set ?_ GE269.out | refine below_set ?_ GE270.out) | exact HB.out))⟩)
            skip
            refine box_step ?hg (N := 3) ?hd (cs := #[.slice none 0 0, .slice none 0 0, .slice none 0 0]) (t := 26) ?hr ?_; (case hd => rfl); (case hg => rfl); (case hr => first | (go_simp; done) | (go_simp; rfl))
            intro gb283 hg w10 hbox hb
            have n0_ := Aside0.mk (Kd.R_below (by (with_reducible repeat (first | apply Kd.R_alloc | apply Kd.R_drewN | apply Kd.R_drew)); exact HO279.out) hb)
            have n1_ := Aside0.mk (blk_below (g := gb269) (o := .cells #[.slice A0_0 l0_0.length c0_0, .slice A0_1 l0_1.length c0_1, .slice A0_2 l0_2.length c0_2] 26 (0, 0)) (by (with_reducible repeat (first | refine blk_drewN ?_ _ | refine blk_drew ?_ | refine blk_alloc ?_ _)); exact BK269.out) hb)
            have n2_ := Aside0.mk (blk_below (g := gb270) (o := .cells #[.slice none 0 0, .slice none 0 0, .slice none 0 0] 26 (0, 0)) (by (with_reducible repeat (first | refine blk_drewN ?_ _ | refine blk_drew ?_ | refine blk_alloc ?_ _)); exact BK270.out) hb)
            have n3_ := Aside0.mk (below_step (by repeat (first | (with_reducible first | exact HB.out | apply below_alloc | apply pw_below_drewN | apply below_drew1 | refine below_set ?_ GE269.out | refine below_set ?_ GE270.out) | exact HB.out)) hb)
            have n4_ := Aside0.mk (hbox)
            have n5_ := Aside0.mk ((by rw [hg]; exact (below_size (by repeat (first | (with_reducible first | exact HB.out | apply below_alloc | apply pw_below_drewN | apply below_drew1 | refine below_set ?_ GE269.out | refine below_set ?_ GE270.out) | exact HB.out))) : w.heap.size ≤ gb283))
            have n6_ := Aside0.mk ((by rw [hg]; exact (below_size (by repeat (first | (with_reducible first | exact HB.out | apply below_alloc | apply pw_below_drewN | apply below_drew1 | refine below_set ?_ GE269.out | refine below_set ?_ GE270.out) | exact HB.out))) : w.heap.size ≤ gb283))
            have n7_ := Aside0.mk ((by rw [hg]; exact Nat.ne_of_lt (blk_lt (g := gb269) (o := .cells #[.slice A0_0 l0_0.length c0_0, .slice A0_1 l0_1.length c0_1, .slice A0_2 l0_2.length c0_2] 26 (0, 0)) (by (with_reducible repeat (first | refine blk_drewN ?_ _ | refine blk_drew ?_ | refine blk_alloc ?_ _)); exact BK269.out)) : gb269 ≠ gb283))
            have n8_ := Aside0.mk ((by rw [hg]; exact Nat.ne_of_gt (blk_lt (g := gb269) (o := .cells #[.slice A0_0 l0_0.length c0_0, .slice A0_1 l0_1.length c0_1, .slice A0_2 l0_2.length c0_2] 26 (0, 0)) (by (with_reducible repeat (first | refine blk_drewN ?_ _ | refine blk_drew ?_ | refine blk_alloc ?_ _)); exact BK269.out)) : gb283 ≠ gb269))
            have n9_ := Aside0.mk ((by rw [hg]; exact Nat.ne_of_lt (blk_lt (g := gb270) (o := .cells #[.slice none 0 0, .slice none 0 0, .slice none 0 0] 26 (0, 0)) (by (with_reducible repeat (first | refine blk_drewN ?_ _ | refine blk_drew ?_ | refine blk_alloc ?_ _)); exact BK270.out)) : gb270 ≠ gb283))
            have n10_ := Aside0.mk ((by rw [hg]; exact Nat.ne_of_gt (blk_lt (g := gb270) (o := .cells #[.slice none 0 0, .slice none 0 0, .slice none 0 0] 26 (0, 0)) (by (with_reducible repeat (first | refine blk_drewN ?_ _ | refine blk_drew ?_ | refine blk_alloc ?_ _)); exact BK270.out)) : gb283 ≠ gb270))
            clear HO279
            clear BK269
            clear BK270
            clear HB
            have HO279 := n0_
            have BK269 := n1_
            have BK270 := n2_
            have HB := n3_
            have BK283 := n4_
            have GW283 := n5_
            have GE283 := n6_
            have NB269_283 := n7_
            have NB283_269 := n8_
            have NB270_283 := n9_
            have NB283_270 := n10_
            clear n0_ n1_ n2_ n3_ n4_ n5_ n6_ n7_ n8_ n9_ n10_
            clear hb hbox hg
            refine hK.out _ _ ⟨(blk_cell BK269.out 0).trans rfl, (blk_cell BK269.out 1).trans rfl, (blk_cell BK269.out 2).trans rfl⟩ (fun hHeld => ?_)
            clear hK K
            refine norm_ (a' := ?_) ?_ ?_
            rotate_left
            ·
             show Act.put _ (some 3) _ = _
             simp only [Act.put, List.setIfInBounds_toArray, List.set_cons_zero, List.set_cons_succ, i64_w, i32_w]
             rfl
            exact norm_ (by first | (simp only [putAll, Act.put, List.setIfInBounds_toArray, List.set_cons_zero, List.set_cons_succ]; done) | (simp only [putAll, Act.put, List.setIfInBounds_toArray, List.set_cons_zero, List.set_cons_succ]; rfl)) (hJ4_9 (v278, gb283) _ ⟨hHeld, (by (with_reducible repeat (first | apply Kd.R_alloc | apply Kd.R_drewN | apply Kd.R_drew)); exact HO279.out), (by (with_reducible repeat (first | refine blk_drewN ?_ _ | refine blk_drew ?_ | refine blk_alloc ?_ _)); exact BK269.out), (by (with_reducible repeat (first | refine blk_drewN ?_ _ | refine blk_drew ?_ | refine blk_alloc ?_ _)); exact BK270.out), (by (with_reducible repeat (first | refine blk_drewN ?_ _ | refine blk_drew ?_ | refine blk_alloc ?_ _)); exact BK283.out), GW283.out, GE283.out, NB269_283.out, NB283_269.out, NB270_283.out, NB283_270.out, (by repeat (first | (with_reducible first | exact HB.out | apply below_alloc | apply pw_below_drewN | apply below_drew1 | refine below_set ?_ GE269.out | refine below_set ?_ GE270.out | refine below_set ?_ GE283.out) | exact HB.out))⟩)
           skip
           rintro v272 w9 ⟨hS_, h0_, h1_, h2_, h3_⟩
           have n0_ : Aside0 (Kd.R (Kd.int .i64) 3 w9 w.heap.size (fun _ => True) v272 y271) := ⟨h0_⟩
           have n1_ : Aside0 (w9.heap[gb269]? = some (.cells #[.slice A0_0 l0_0.length c0_0, .slice A0_1 l0_1.length c0_1, .slice A0_2 l0_2.length c0_2] 26 (0, 0))) := ⟨h1_⟩
           have n2_ : Aside0 (w9.heap[gb270]? = some (.cells #[.slice none 0 0, .slice none 0 0, .slice none 0 0] 26 (0, 0))) := ⟨h2_⟩
           have n3_ : Aside0 (Below w.heap.size w w9) := ⟨h3_⟩
           clear BK269
           clear BK270
           clear HB
           clear h0_ h1_ h2_ h3_
           have HO273 := n0_
           have BK269 := n1_
           have BK270 := n2_
           have HB := n3_
           clear n0_ n1_ n2_ n3_
           have hHeld : w9.cell? ⟨gb269, 0, none⟩ = some (.slice A0_0 l0_0.length c0_0) ∧ w9.cell? ⟨gb269, 1, none⟩ = some (.slice A0_1 l0_1.length c0_1) ∧ w9.cell? ⟨gb269, 2, none⟩ = some (.slice A0_2 l0_2.length c0_2) := hS_
           refine norm_ (a' := ?_) ?_ ?_
           rotate_left
           ·
            simp only [putAll, Act.put, List.setIfInBounds_toArray, List.set_cons_zero, List.set_cons_succ]
            rfl
           refine three_ (i := 3) (j := 4) (k := 9) (Ni := some 8) (Nj := some 9) (Nk := some 3) #[true, true, true, true, false, true, true, false, false, false, false] #[true, true, true, false, true, true, true, false, false, false, false] #[true, true, true, false, false, true, true, false, false, true, false] rfl rfl rfl rfl rfl rfl (three_of HT_.out (by kernel_rfl)) (by decide) (by decide) (by decide) (fun K hK => ?_) (fun K hK => ?_) (fun K hK => ?_)
           ·
            skip
            refine Kd.R_append_rows_step (Kd.int .i64) (w0 := w) w.heap.size (by rfl) (.tmp 5) (.tmp 7) 22 3 (.int .i64 0) 8 rfl Try.underlying22 info3 rfl (by decide) (by omega) v272 y271 l0_0 _ _ _ (fun _ => True) (fun _ => False) rfl rfl ?aO ?aR (fun _ _ h => h) (fun _ h => h.elim) ?aF ?aB ?aS ?aL ?_
            (case aR => repeat (first | exact (Kd.C_below HR0_0.out HB.out) | (with_reducible refine Kd.C_alloc ?_ _) | (with_reducible refine Kd.C_drewN ?_ _) | (with_reducible refine Kd.C_drew ?_)))
            (case aB => exact (by repeat (first | (with_reducible first | exact HB.out | apply below_alloc | apply pw_below_drewN | apply below_drew1 | refine below_set ?_ GE269.out | refine below_set ?_ GE270.out) | exact HB.out)))
            (case aF => exact (fun _ _ => trivial))
            (case aO => exact (by (with_reducible repeat (first | apply Kd.R_alloc | apply Kd.R_drewN | apply Kd.R_drew)); exact HO273.out))
            (case aS => exact (below_size (by repeat (first | (with_reducible first | exact HB.out | apply below_alloc | apply pw_below_drewN | apply below_drew1 | refine below_set ?_ GE269.out | refine below_set ?_ GE270.out) | exact HB.out))))
            (case aL => have := LMc2.out; omega)
            intro v275 w10 ho hb hg hat
            rw [← Ny274.out] at ho
            have n0_ := Aside0.mk (blk_grown (g := gb269) (o := .cells #[.slice A0_0 l0_0.length c0_0, .slice A0_1 l0_1.length c0_1, .slice A0_2 l0_2.length c0_2] 26 (0, 0)) (by (with_reducible repeat (first | refine blk_drewN ?_ _ | refine blk_drew ?_ | refine blk_alloc ?_ _)); exact BK269.out) hg (Kd.R_ne HO273.out BK269.out (by decide)))
            have n1_ := Aside0.mk (blk_grown (g := gb270) (o := .cells #[.slice none 0 0, .slice none 0 0, .slice none 0 0] 26 (0, 0)) (by (with_reducible repeat (first | refine blk_drewN ?_ _ | refine blk_drew ?_ | refine blk_alloc ?_ _)); exact BK270.out) hg (Kd.R_ne HO273.out BK270.out (by decide)))
            have n2_ := Aside0.mk (hb)
            have n3_ := Aside0.mk (ho)
            clear BK269
            clear BK270
            clear HB
            clear HO273
            have BK269 := n0_
            have BK270 := n1_
            have HB := n2_
            have HO276 := n3_
            clear n0_ n1_ n2_ n3_
            clear ho hb hg hat
            refine hK.out _ _ ⟨(blk_cell BK269.out 0).trans rfl, (blk_cell BK269.out 1).trans rfl, (blk_cell BK269.out 2).trans rfl⟩ (fun hHeld => ?_)
            clear hK K
            refine norm_ (a' := ?_) ?_ ?_
            rotate_left
            ·
             show Act.put _ (some 8) _ = _
             simp only [Act.put, List.setIfInBounds_toArray, List.set_cons_zero, List.set_cons_succ, i64_w, i32_w]
             rfl
            exact norm_ (by first | (simp only [putAll, Act.put, List.setIfInBounds_toArray, List.set_cons_zero, List.set_cons_succ]; done) | (simp only [putAll, Act.put, List.setIfInBounds_toArray, List.set_cons_zero, List.set_cons_succ]; rfl)) (hJ0_3 (v272, v275) _ ⟨hHeld, (by (with_reducible repeat (first | apply Kd.R_alloc | apply Kd.R_drewN | apply Kd.R_drew)); exact HO276.out), (by (with_reducible repeat (first | refine blk_drewN ?_ _ | refine blk_drew ?_ | refine blk_alloc ?_ _)); exact BK269.out), (by (with_reducible repeat (first | refine blk_drewN ?_ _ | refine blk_drew ?_ | refine blk_alloc ?_ _)); exact BK270.out), (by repeat (first | (with_reducible first | exact HB.out | apply below_alloc | apply pw_below_drewN | apply below_drew1 | refine below_set ?_ GE269.out | refine below_set ?_ GE270.out) | exact HB.out))⟩)
           ·
            skip
            refine Kd.R_lit_step k50 _ 50 ?hg (N := 9) ?hd (xs := ([] : List (S50))) (inner := []) (ok := fun _ => True) (okp := fun _ => True) ?hr ?hp (fun _ hk => hk) trivial (Below.refl _ _) (Nat.le_refl _) (by simp) ?_; (case hd => rfl); (case hg => rfl); (case hr => first | (go_simp; done) | (go_simp; rfl)); (case hp => exact (Reps.none _ _))
            intro v278 w10 ho11 hb hg_ hnew_
            clear hg_ hnew_
            (first | rw [← Ny277.out] at ho11 | (simp only [Int.reduceToNat] at ho11; rw [← Ny277.out] at ho11))
            have n0_ := Aside0.mk (Kd.R_below (by (with_reducible repeat (first | apply Kd.R_alloc | apply Kd.R_drewN | apply Kd.R_drew)); exact HO273.out) hb)
            have n1_ := Aside0.mk (Kd.R_lower ho11 (below_size (by repeat (first | (with_reducible first | exact HB.out | apply below_alloc | apply pw_below_drewN | apply below_drew1 | refine below_set ?_ GE269.out | refine below_set ?_ GE270.out) | exact HB.out))))
            have n2_ := Aside0.mk (blk_below (g := gb269) (o := .cells #[.slice A0_0 l0_0.length c0_0, .slice A0_1 l0_1.length c0_1, .slice A0_2 l0_2.length c0_2] 26 (0, 0)) (by (with_reducible repeat (first | refine blk_drewN ?_ _ | refine blk_drew ?_ | refine blk_alloc ?_ _)); exact BK269.out) hb)
            have n3_ := Aside0.mk (blk_below (g := gb270) (o := .cells #[.slice none 0 0, .slice none 0 0, .slice none 0 0] 26 (0, 0)) (by (with_reducible repeat (first | refine blk_drewN ?_ _ | refine blk_drew ?_ | refine blk_alloc ?_ _)); exact BK270.out) hb)
            have n4_ := Aside0.mk (below_step (by repeat (first | (with_reducible first | exact HB.out | apply below_alloc | apply pw_below_drewN | apply below_drew1 | refine below_set ?_ GE269.out | refine below_set ?_ GE270.out) | exact HB.out)) hb)
            clear HO273
            clear BK269
            clear BK270
            clear HB
            have HO273 := n0_
            have HO279 := n1_
            have BK269 := n2_
            have BK270 := n3_
            have HB := n4_
            clear n0_ n1_ n2_ n3_ n4_
            clear hb ho11
            refine hK.out _ _ ⟨(blk_cell BK269.out 0).trans rfl, (blk_cell BK269.out 1).trans rfl, (blk_cell BK269.out 2).trans rfl⟩ (fun hHeld => ?_)
            clear hK K
            refine norm_ (a' := ?_) ?_ ?_
            rotate_left
            ·
             show Act.put _ (some 9) _ = _
             simp only [Act.put, List.setIfInBounds_toArray, List.set_cons_zero, List.set_cons_succ, i64_w, i32_w]
             rfl
            exact norm_ (by first | (simp only [putAll, Act.put, List.setIfInBounds_toArray, List.set_cons_zero, List.set_cons_succ]; done) | (simp only [putAll, Act.put, List.setIfInBounds_toArray, List.set_cons_zero, List.set_cons_succ]; rfl)) (hJ0_4 (v272, v278) _ ⟨hHeld, (by (with_reducible repeat (first | apply Kd.R_alloc | apply Kd.R_drewN | apply Kd.R_drew)); exact HO273.out), (by (with_reducible repeat (first | apply Kd.R_alloc | apply Kd.R_drewN | apply Kd.R_drew)); exact HO279.out), (by (with_reducible repeat (first | refine blk_drewN ?_ _ | refine blk_drew ?_ | refine blk_alloc ?_ _)); exact BK269.out), (by (with_reducible repeat (first | refine blk_drewN ?_ _ | refine blk_drew ?_ | refine blk_alloc ?_ _)); exact BK270.out), (by repeat (first | (with_reducible first | exact HB.out | apply below_alloc | apply pw_below_drewN | apply below_drew1 | refine below_set ?_ GE269.out | refine below_set ?_ GE270.out) | exact HB.out))⟩)
           skip
           refine box_step ?hg (N := 3) ?hd (cs := #[.slice none 0 0, .slice none 0 0, .slice none 0 0]) (t := 26) ?hr ?_; (case hd => rfl); (case hg => rfl); (case hr => first | (go_simp; done) | (go_simp; rfl))
           intro gb283 hg w10 hbox hb
           have n0_ := Aside0.mk (Kd.R_below (by (with_reducible repeat (first | apply Kd.R_alloc | apply Kd.R_drewN | apply Kd.R_drew)); exact HO273.out) hb)
           have n1_ := Aside0.mk (blk_below (g := gb269) (o := .cells #[.slice A0_0 l0_0.length c0_0, .slice A0_1 l0_1.length c0_1, .slice A0_2 l0_2.length c0_2] 26 (0, 0)) (by (with_reducible repeat (first | refine blk_drewN ?_ _ | refine blk_drew ?_ | refine blk_alloc ?_ _)); exact BK269.out) hb)
           have n2_ := Aside0.mk (blk_below (g := gb270) (o := .cells #[.slice none 0 0, .slice none 0 0, .slice none 0 0] 26 (0, 0)) (by (with_reducible repeat (first | refine blk_drewN ?_ _ | refine blk_drew ?_ | refine blk_alloc ?_ _)); exact BK270.out) hb)
           have n3_ := Aside0.mk (below_step (by repeat (first | (with_reducible first | exact HB.out | apply below_alloc | apply pw_below_drewN | apply below_drew1 | refine below_set ?_ GE269.out | refine below_set ?_ GE270.out) | exact HB.out)) hb)
           have n4_ := Aside0.mk (hbox)
           have n5_ := Aside0.mk ((by rw [hg]; exact (below_size (by repeat (first | (with_reducible first | exact HB.out | apply below_alloc | apply pw_below_drewN | apply below_drew1 | refine below_set ?_ GE269.out | refine below_set ?_ GE270.out) | exact HB.out))) : w.heap.size ≤ gb283))
           have n6_ := Aside0.mk ((by rw [hg]; exact (below_size (by repeat (first | (with_reducible first | exact HB.out | apply below_alloc | apply pw_below_drewN | apply below_drew1 | refine below_set ?_ GE269.out | refine below_set ?_ GE270.out) | exact HB.out))) : w.heap.size ≤ gb283))
           have n7_ := Aside0.mk ((by rw [hg]; exact Nat.ne_of_lt (blk_lt (g := gb269) (o := .cells #[.slice A0_0 l0_0.length c0_0, .slice A0_1 l0_1.length c0_1, .slice A0_2 l0_2.length c0_2] 26 (0, 0)) (by (with_reducible repeat (first | refine blk_drewN ?_ _ | refine blk_drew ?_ | refine blk_alloc ?_ _)); exact BK269.out)) : gb269 ≠ gb283))
           have n8_ := Aside0.mk ((by rw [hg]; exact Nat.ne_of_gt (blk_lt (g := gb269) (o := .cells #[.slice A0_0 l0_0.length c0_0, .slice A0_1 l0_1.length c0_1, .slice A0_2 l0_2.length c0_2] 26 (0, 0)) (by (with_reducible repeat (first | refine blk_drewN ?_ _ | refine blk_drew ?_ | refine blk_alloc ?_ _)); exact BK269.out)) : gb283 ≠ gb269))
           have n9_ := Aside0.mk ((by rw [hg]; exact Nat.ne_of_lt (blk_lt (g := gb270) (o := .cells #[.slice none 0 0, .slice none 0 0, .slice none 0 0] 26 (0, 0)) (by (with_reducible repeat (first | refine blk_drewN ?_ _ | refine blk_drew ?_ | refine blk_alloc ?_ _)); exact BK270.out)) : gb270 ≠ gb283))
           have n10_ := Aside0.mk ((by rw [hg]; exact Nat.ne_of_gt (blk_lt (g := gb270) (o := .cells #[.slice none 0 0, .slice none 0 0, .slice none 0 0] 26 (0, 0)) (by (with_reducible repeat (first | refine blk_drewN ?_ _ | refine blk_drew ?_ | refine blk_alloc ?_ _)); exact BK270.out)) : gb283 ≠ gb270))
           clear HO273
           clear BK269
           clear BK270
           clear HB
           have HO273 := n0_
           have BK269 := n1_
           have BK270 := n2_
           have HB := n3_
           have BK283 := n4_
           have GW283 := n5_
           have GE283 := n6_
           have NB269_283 := n7_
           have NB283_269 := n8_
           have NB270_283 := n9_
           have NB283_270 := n10_
           clear n0_ n1_ n2_ n3_ n4_ n5_ n6_ n7_ n8_ n9_ n10_
           clear hb hbox hg
           refine hK.out _ _ ⟨(blk_cell BK269.out 0).trans rfl, (blk_cell BK269.out 1).trans rfl, (blk_cell BK269.out 2).trans rfl⟩ (fun hHeld => ?_)
           clear hK K
           refine norm_ (a' := ?_) ?_ ?_
           rotate_left
           ·
            show Act.put _ (some 3) _ = _
            simp only [Act.put, List.setIfInBounds_toArray, List.set_cons_zero, List.set_cons_succ, i64_w, i32_w]
            rfl
           exact norm_ (by first | (simp only [putAll, Act.put, List.setIfInBounds_toArray, List.set_cons_zero, List.set_cons_succ]; done) | (simp only [putAll, Act.put, List.setIfInBounds_toArray, List.set_cons_zero, List.set_cons_succ]; rfl)) (hJ0_9 (v272, gb283) _ ⟨hHeld, (by (with_reducible repeat (first | apply Kd.R_alloc | apply Kd.R_drewN | apply Kd.R_drew)); exact HO273.out), (by (with_reducible repeat (first | refine blk_drewN ?_ _ | refine blk_drew ?_ | refine blk_alloc ?_ _)); exact BK269.out), (by (with_reducible repeat (first | refine blk_drewN ?_ _ | refine blk_drew ?_ | refine blk_alloc ?_ _)); exact BK270.out), (by (with_reducible repeat (first | refine blk_drewN ?_ _ | refine blk_drew ?_ | refine blk_alloc ?_ _)); exact BK283.out), GW283.out, GE283.out, NB269_283.out, NB283_269.out, NB270_283.out, NB283_270.out, (by repeat (first | (with_reducible first | exact HB.out | apply below_alloc | apply pw_below_drewN | apply below_drew1 | refine below_set ?_ GE269.out | refine below_set ?_ GE270.out | refine below_set ?_ GE283.out) | exact HB.out))⟩)
          skip
          rintro ⟨v278, gb283⟩ w10 ⟨hS_, h0_, h1_, h2_, h3_, h4_, h5_, h6_, h7_, h8_, h9_, h10_⟩
          have n0_ : Aside0 (Kd.R k50 50 w10 w.heap.size (fun _ => True) v278 y277) := ⟨h0_⟩
          have n1_ : Aside0 (w10.heap[gb269]? = some (.cells #[.slice A0_0 l0_0.length c0_0, .slice A0_1 l0_1.length c0_1, .slice A0_2 l0_2.length c0_2] 26 (0, 0))) := ⟨h1_⟩
          have n2_ : Aside0 (w10.heap[gb270]? = some (.cells #[.slice none 0 0, .slice none 0 0, .slice none 0 0] 26 (0, 0))) := ⟨h2_⟩
          have n3_ : Aside0 (w10.heap[gb283]? = some (.cells #[.slice none 0 0, .slice none 0 0, .slice none 0 0] 26 (0, 0))) := ⟨h3_⟩
          have n4_ : Aside0 (w.heap.size ≤ gb283) := ⟨h4_⟩
          have n5_ : Aside0 (w.heap.size ≤ gb283) := ⟨h5_⟩
          have n6_ : Aside0 (gb269 ≠ gb283) := ⟨h6_⟩
          have n7_ : Aside0 (gb283 ≠ gb269) := ⟨h7_⟩
          have n8_ : Aside0 (gb270 ≠ gb283) := ⟨h8_⟩
          have n9_ : Aside0 (gb283 ≠ gb270) := ⟨h9_⟩
          have n10_ : Aside0 (Below w.heap.size w w10) := ⟨h10_⟩
          clear BK269
          clear BK270
          clear HB
          clear h0_ h1_ h2_ h3_ h4_ h5_ h6_ h7_ h8_ h9_ h10_
          have HO279 := n0_
          have BK269 := n1_
          have BK270 := n2_
          have BK283 := n3_
          have GW283 := n4_
          have GE283 := n5_
          have NB269_283 := n6_
          have NB283_269 := n7_
          have NB270_283 := n8_
          have NB283_270 := n9_
          have HB := n10_
          clear n0_ n1_ n2_ n3_ n4_ n5_ n6_ n7_ n8_ n9_ n10_
          have hHeld : w10.cell? ⟨gb269, 0, none⟩ = some (.slice A0_0 l0_0.length c0_0) ∧ w10.cell? ⟨gb269, 1, none⟩ = some (.slice A0_1 l0_1.length c0_1) ∧ w10.cell? ⟨gb269, 2, none⟩ = some (.slice A0_2 l0_2.length c0_2) := hS_
          refine norm_ (a' := ?_) ?_ ?_
          rotate_left
          ·
           simp only [putAll, Act.put, List.setIfInBounds_toArray, List.set_cons_zero, List.set_cons_succ]
           rfl
          refine one_ (i := 0) (N := some 5) #[true, true, true, false, true, true, true, false, false, true, false] rfl rfl (one_of HT_.out (by kernel_rfl)) (by decide) (fun K hK => ?_)
          refine Kd.R_lit_step (Kd.int .i64) _ 3 ?hg (N := 5) ?hd (xs := ([] : List Int)) (inner := []) (ok := fun _ => True) (okp := fun _ => True) ?hr ?hp (fun _ hk => hk) trivial (Below.refl _ _) (Nat.le_refl _) (by simp) ?_; (case hd => rfl); (case hg => rfl); (case hr => first | (go_simp; done) | (go_simp; rfl)); (case hp => exact (Reps.none _ _))
          intro v272 w11 ho12 hb hg_ hnew_
          clear hg_ hnew_
          (first | rw [← Ny271.out] at ho12 | (simp only [Int.reduceToNat] at ho12; rw [← Ny271.out] at ho12))
          have n0_ := Aside0.mk (Kd.R_below (by (with_reducible repeat (first | apply Kd.R_alloc | apply Kd.R_drewN | apply Kd.R_drew)); exact HO279.out) hb)
          have n1_ := Aside0.mk (Kd.R_lower ho12 (below_size (by repeat (first | (with_reducible first | exact HB.out | apply below_alloc | apply pw_below_drewN | apply below_drew1 | refine below_set ?_ GE269.out | refine below_set ?_ GE270.out | refine below_set ?_ GE283.out) | exact HB.out))))
          have n2_ := Aside0.mk (blk_below (g := gb269) (o := .cells #[.slice A0_0 l0_0.length c0_0, .slice A0_1 l0_1.length c0_1, .slice A0_2 l0_2.length c0_2] 26 (0, 0)) (by (with_reducible repeat (first | refine blk_drewN ?_ _ | refine blk_drew ?_ | refine blk_alloc ?_ _)); exact BK269.out) hb)
          have n3_ := Aside0.mk (blk_below (g := gb270) (o := .cells #[.slice none 0 0, .slice none 0 0, .slice none 0 0] 26 (0, 0)) (by (with_reducible repeat (first | refine blk_drewN ?_ _ | refine blk_drew ?_ | refine blk_alloc ?_ _)); exact BK270.out) hb)
          have n4_ := Aside0.mk (blk_below (g := gb283) (o := .cells #[.slice none 0 0, .slice none 0 0, .slice none 0 0] 26 (0, 0)) (by (with_reducible repeat (first | refine blk_drewN ?_ _ | refine blk_drew ?_ | refine blk_alloc ?_ _)); exact BK283.out) hb)
          have n5_ := Aside0.mk (below_step (by repeat (first | (with_reducible first | exact HB.out | apply below_alloc | apply pw_below_drewN | apply below_drew1 | refine below_set ?_ GE269.out | refine below_set ?_ GE270.out | refine below_set ?_ GE283.out) | exact HB.out)) hb)
          clear HO279
          clear BK269
          clear BK270
          clear BK283
          clear HB
          have HO279 := n0_
          have HO273 := n1_
          have BK269 := n2_
          have BK270 := n3_
          have BK283 := n4_
          have HB := n5_
          clear n0_ n1_ n2_ n3_ n4_ n5_
          clear hb ho12
          refine hK.out _ _ ⟨(blk_cell BK269.out 0).trans rfl, (blk_cell BK269.out 1).trans rfl, (blk_cell BK269.out 2).trans rfl⟩ (fun hHeld => ?_)
          clear hK K
          refine norm_ (a' := ?_) ?_ ?_
          rotate_left
          ·
           show Act.put _ (some 5) _ = _
           simp only [Act.put, List.setIfInBounds_toArray, List.set_cons_zero, List.set_cons_succ, i64_w, i32_w]
           rfl
          exact norm_ (by first | (simp only [putAll, Act.put, List.setIfInBounds_toArray, List.set_cons_zero, List.set_cons_succ]; done) | (simp only [putAll, Act.put, List.setIfInBounds_toArray, List.set_cons_zero, List.set_cons_succ]; rfl)) (hJ0_4_9 (v272, v278, gb283) _ ⟨hHeld, (by (with_reducible repeat (first | apply Kd.R_alloc | apply Kd.R_drewN | apply Kd.R_drew)); exact HO273.out), (by (with_reducible repeat (first | apply Kd.R_alloc | apply Kd.R_drewN | apply Kd.R_drew)); exact HO279.out), (by (with_reducible repeat (first | refine blk_drewN ?_ _ | refine blk_drew ?_ | refine blk_alloc ?_ _)); exact BK269.out), (by (with_reducible repeat (first | refine blk_drewN ?_ _ | refine blk_drew ?_ | refine blk_alloc ?_ _)); exact BK270.out), (by (with_reducible repeat (first | refine blk_drewN ?_ _ | refine blk_drew ?_ | refine blk_alloc ?_ _)); exact BK283.out), GW283.out, GE283.out, NB269_283.out, NB283_269.out, NB270_283.out, NB283_270.out, (by repeat (first | (with_reducible first | exact HB.out | apply below_alloc | apply pw_below_drewN | apply below_drew1 | refine below_set ?_ GE269.out | refine below_set ?_ GE270.out | refine below_set ?_ GE283.out) | exact HB.out))⟩)
         skip
         rintro ⟨v272, gb283⟩ w10 ⟨hS_, h0_, h1_, h2_, h3_, h4_, h5_, h6_, h7_, h8_, h9_, h10_⟩
         have n0_ : Aside0 (Kd.R (Kd.int .i64) 3 w10 w.heap.size (fun _ => True) v272 y271) := ⟨h0_⟩
         have n1_ : Aside0 (w10.heap[gb269]? = some (.cells #[.slice A0_0 l0_0.length c0_0, .slice A0_1 l0_1.length c0_1, .slice A0_2 l0_2.length c0_2] 26 (0, 0))) := ⟨h1_⟩
         have n2_ : Aside0 (w10.heap[gb270]? = some (.cells #[.slice none 0 0, .slice none 0 0, .slice none 0 0] 26 (0, 0))) := ⟨h2_⟩
         have n3_ : Aside0 (w10.heap[gb283]? = some (.cells #[.slice none 0 0, .slice none 0 0, .slice none 0 0] 26 (0, 0))) := ⟨h3_⟩
         have n4_ : Aside0 (w.heap.size ≤ gb283) := ⟨h4_⟩
         have n5_ : Aside0 (w.heap.size ≤ gb283) := ⟨h5_⟩
         have n6_ : Aside0 (gb269 ≠ gb283) := ⟨h6_⟩
         have n7_ : Aside0 (gb283 ≠ gb269) := ⟨h7_⟩
         have n8_ : Aside0 (gb270 ≠ gb283) := ⟨h8_⟩
         have n9_ : Aside0 (gb283 ≠ gb270) := ⟨h9_⟩
         have n10_ : Aside0 (Below w.heap.size w w10) := ⟨h10_⟩
         clear BK269
         clear BK270
         clear HB
         clear h0_ h1_ h2_ h3_ h4_ h5_ h6_ h7_ h8_ h9_ h10_
         have HO273 := n0_
         have BK269 := n1_
         have BK270 := n2_
         have BK283 := n3_
         have GW283 := n4_
         have GE283 := n5_
         have NB269_283 := n6_
         have NB283_269 := n7_
         have NB270_283 := n8_
         have NB283_270 := n9_
         have HB := n10_
         clear n0_ n1_ n2_ n3_ n4_ n5_ n6_ n7_ n8_ n9_ n10_
         have hHeld : w10.cell? ⟨gb269, 0, none⟩ = some (.slice A0_0 l0_0.length c0_0) ∧ w10.cell? ⟨gb269, 1, none⟩ = some (.slice A0_1 l0_1.length c0_1) ∧ w10.cell? ⟨gb269, 2, none⟩ = some (.slice A0_2 l0_2.length c0_2) := hS_
         refine norm_ (a' := ?_) ?_ ?_
         rotate_left
         ·
          simp only [putAll, Act.put, List.setIfInBounds_toArray, List.set_cons_zero, List.set_cons_succ]
          rfl
         refine two_ (i := 3) (j := 4) (Ni := some 8) (Nj := some 9) #[true, true, true, true, false, true, true, false, false, true, false] #[true, true, true, false, true, true, true, false, false, true, false] rfl rfl rfl rfl (two_of HT_.out (by kernel_rfl)) (by decide) (by decide) (fun K hK => ?_) (fun K hK => ?_)
         ·
          skip
          refine Kd.R_append_rows_step (Kd.int .i64) (w0 := w) w.heap.size (by rfl) (.tmp 5) (.tmp 7) 22 3 (.int .i64 0) 8 rfl Try.underlying22 info3 rfl (by decide) (by omega) v272 y271 l0_0 _ _ _ (fun _ => True) (fun _ => False) rfl rfl ?aO ?aR (fun _ _ h => h) (fun _ h => h.elim) ?aF ?aB ?aS ?aL ?_
          (case aR => repeat (first | exact (Kd.C_below HR0_0.out HB.out) | (with_reducible refine Kd.C_alloc ?_ _) | (with_reducible refine Kd.C_drewN ?_ _) | (with_reducible refine Kd.C_drew ?_)))
          (case aB => exact (by repeat (first | (with_reducible first | exact HB.out | apply below_alloc | apply pw_below_drewN | apply below_drew1 | refine below_set ?_ GE269.out | refine below_set ?_ GE270.out | refine below_set ?_ GE283.out) | exact HB.out)))
          (case aF => exact (fun _ _ => trivial))
          (case aO => exact (by (with_reducible repeat (first | apply Kd.R_alloc | apply Kd.R_drewN | apply Kd.R_drew)); exact HO273.out))
          (case aS => exact (below_size (by repeat (first | (with_reducible first | exact HB.out | apply below_alloc | apply pw_below_drewN | apply below_drew1 | refine below_set ?_ GE269.out | refine below_set ?_ GE270.out | refine below_set ?_ GE283.out) | exact HB.out))))
          (case aL => have := LMc2.out; omega)
          intro v275 w11 ho hb hg hat
          rw [← Ny274.out] at ho
          have n0_ := Aside0.mk (blk_grown (g := gb269) (o := .cells #[.slice A0_0 l0_0.length c0_0, .slice A0_1 l0_1.length c0_1, .slice A0_2 l0_2.length c0_2] 26 (0, 0)) (by (with_reducible repeat (first | refine blk_drewN ?_ _ | refine blk_drew ?_ | refine blk_alloc ?_ _)); exact BK269.out) hg (Kd.R_ne HO273.out BK269.out (by decide)))
          have n1_ := Aside0.mk (blk_grown (g := gb270) (o := .cells #[.slice none 0 0, .slice none 0 0, .slice none 0 0] 26 (0, 0)) (by (with_reducible repeat (first | refine blk_drewN ?_ _ | refine blk_drew ?_ | refine blk_alloc ?_ _)); exact BK270.out) hg (Kd.R_ne HO273.out BK270.out (by decide)))
          have n2_ := Aside0.mk (blk_grown (g := gb283) (o := .cells #[.slice none 0 0, .slice none 0 0, .slice none 0 0] 26 (0, 0)) (by (with_reducible repeat (first | refine blk_drewN ?_ _ | refine blk_drew ?_ | refine blk_alloc ?_ _)); exact BK283.out) hg (Kd.R_ne HO273.out BK283.out (by decide)))
          have n3_ := Aside0.mk (hb)
          have n4_ := Aside0.mk (ho)
          clear BK269
          clear BK270
          clear BK283
          clear HB
          clear HO273
          have BK269 := n0_
          have BK270 := n1_
          have BK283 := n2_
          have HB := n3_
          have HO276 := n4_
          clear n0_ n1_ n2_ n3_ n4_
          clear ho hb hg hat
          refine hK.out _ _ ⟨(blk_cell BK269.out 0).trans rfl, (blk_cell BK269.out 1).trans rfl, (blk_cell BK269.out 2).trans rfl⟩ (fun hHeld => ?_)
          clear hK K
          refine norm_ (a' := ?_) ?_ ?_
          rotate_left
          ·
           show Act.put _ (some 8) _ = _
           simp only [Act.put, List.setIfInBounds_toArray, List.set_cons_zero, List.set_cons_succ, i64_w, i32_w]
           rfl
          exact norm_ (by first | (simp only [putAll, Act.put, List.setIfInBounds_toArray, List.set_cons_zero, List.set_cons_succ]; done) | (simp only [putAll, Act.put, List.setIfInBounds_toArray, List.set_cons_zero, List.set_cons_succ]; rfl)) (hJ0_3_9 (v272, v275, gb283) _ ⟨hHeld, (by (with_reducible repeat (first | apply Kd.R_alloc | apply Kd.R_drewN | apply Kd.R_drew)); exact HO276.out), (by (with_reducible repeat (first | refine blk_drewN ?_ _ | refine blk_drew ?_ | refine blk_alloc ?_ _)); exact BK269.out), (by (with_reducible repeat (first | refine blk_drewN ?_ _ | refine blk_drew ?_ | refine blk_alloc ?_ _)); exact BK270.out), (by (with_reducible repeat (first | refine blk_drewN ?_ _ | refine blk_drew ?_ | refine blk_alloc ?_ _)); exact BK283.out), GW283.out, GE283.out, NB269_283.out, NB283_269.out, NB270_283.out, NB283_270.out, (by repeat (first | (with_reducible first | exact HB.out | apply below_alloc | apply pw_below_drewN | apply below_drew1 | refine below_set ?_ GE269.out | refine below_set ?_ GE270.out | refine below_set ?_ GE283.out) | exact HB.out))⟩)
         skip
         refine Kd.R_lit_step k50 _ 50 ?hg (N := 9) ?hd (xs := ([] : List (S50))) (inner := []) (ok := fun _ => True) (okp := fun _ => True) ?hr ?hp (fun _ hk => hk) trivial (Below.refl _ _) (Nat.le_refl _) (by simp) ?_; (case hd => rfl); (case hg => rfl); (case hr => first | (go_simp; done) | (go_simp; rfl)); (case hp => exact (Reps.none _ _))
         intro v278 w11 ho12 hb hg_ hnew_
         clear hg_ hnew_
         (first | rw [← Ny277.out] at ho12 | (simp only [Int.reduceToNat] at ho12; rw [← Ny277.out] at ho12))
         have n0_ := Aside0.mk (Kd.R_below (by (with_reducible repeat (first | apply Kd.R_alloc | apply Kd.R_drewN | apply Kd.R_drew)); exact HO273.out) hb)
         have n1_ := Aside0.mk (Kd.R_lower ho12 (below_size (by repeat (first | (with_reducible first | exact HB.out | apply below_alloc | apply pw_below_drewN | apply below_drew1 | refine below_set ?_ GE269.out | refine below_set ?_ GE270.out | refine below_set ?_ GE283.out) | exact HB.out))))
         have n2_ := Aside0.mk (blk_below (g := gb269) (o := .cells #[.slice A0_0 l0_0.length c0_0, .slice A0_1 l0_1.length c0_1, .slice A0_2 l0_2.length c0_2] 26 (0, 0)) (by (with_reducible repeat (first | refine blk_drewN ?_ _ | refine blk_drew ?_ | refine blk_alloc ?_ _)); exact BK269.out) hb)
         have n3_ := Aside0.mk (blk_below (g := gb270) (o := .cells #[.slice none 0 0, .slice none 0 0, .slice none 0 0] 26 (0, 0)) (by (with_reducible repeat (first | refine blk_drewN ?_ _ | refine blk_drew ?_ | refine blk_alloc ?_ _)); exact BK270.out) hb)
         have n4_ := Aside0.mk (blk_below (g := gb283) (o := .cells #[.slice none 0 0, .slice none 0 0, .slice none 0 0] 26 (0, 0)) (by (with_reducible repeat (first | refine blk_drewN ?_ _ | refine blk_drew ?_ | refine blk_alloc ?_ _)); exact BK283.out) hb)
         have n5_ := Aside0.mk (below_step (by repeat (first | (with_reducible first | exact HB.out | apply below_alloc | apply pw_below_drewN | apply below_drew1 | refine below_set ?_ GE269.out | refine below_set ?_ GE270.out | refine below_set ?_ GE283.out) | exact HB.out)) hb)
         clear HO273
         clear BK269
         clear BK270
         clear BK283
         clear HB
         have HO273 := n0_
         have HO279 := n1_
         have BK269 := n2_
         have BK270 := n3_
         have BK283 := n4_
         have HB := n5_
         clear n0_ n1_ n2_ n3_ n4_ n5_
         clear hb ho12
         refine hK.out _ _ ⟨(blk_cell BK269.out 0).trans rfl, (blk_cell BK269.out 1).trans rfl, (blk_cell BK269.out 2).trans rfl⟩ (fun hHeld => ?_)
         clear hK K
         refine norm_ (a' := ?_) ?_ ?_
         rotate_left
         ·
          show Act.put _ (some 9) _ = _
          simp only [Act.put, List.setIfInBounds_toArray, List.set_cons_zero, List.set_cons_succ, i64_w, i32_w]
          rfl
         exact norm_ (by first | (simp only [putAll, Act.put, List.setIfInBounds_toArray, List.set_cons_zero, List.set_cons_succ]; done) | (simp only [putAll, Act.put, List.setIfInBounds_toArray, List.set_cons_zero, List.set_cons_succ]; rfl)) (hJ0_4_9 (v272, v278, gb283) _ ⟨hHeld, (by (with_reducible repeat (first | apply Kd.R_alloc | apply Kd.R_drewN | apply Kd.R_drew)); exact HO273.out), (by (with_reducible repeat (first | apply Kd.R_alloc | apply Kd.R_drewN | apply Kd.R_drew)); exact HO279.out), (by (with_reducible repeat (first | refine blk_drewN ?_ _ | refine blk_drew ?_ | refine blk_alloc ?_ _)); exact BK269.out), (by (with_reducible repeat (first | refine blk_drewN ?_ _ | refine blk_drew ?_ | refine blk_alloc ?_ _)); exact BK270.out), (by (with_reducible repeat (first | refine blk_drewN ?_ _ | refine blk_drew ?_ | refine blk_alloc ?_ _)); exact BK283.out), GW283.out, GE283.out, NB269_283.out, NB283_269.out, NB270_283.out, NB283_270.out, (by repeat (first | (with_reducible first | exact HB.out | apply below_alloc | apply pw_below_drewN | apply below_drew1 | refine below_set ?_ GE269.out | refine below_set ?_ GE270.out | refine below_set ?_ GE283.out) | exact HB.out))⟩)
        skip
        rintro ⟨v272, v278⟩ w11 ⟨hS_, h0_, h1_, h2_, h3_, h4_⟩
        have n0_ : Aside0 (Kd.R (Kd.int .i64) 3 w11 w.heap.size (fun _ => True) v272 y271) := ⟨h0_⟩
        have n1_ : Aside0 (Kd.R k50 50 w11 w.heap.size (fun _ => True) v278 y277) := ⟨h1_⟩
        have n2_ : Aside0 (w11.heap[gb269]? = some (.cells #[.slice A0_0 l0_0.length c0_0, .slice A0_1 l0_1.length c0_1, .slice A0_2 l0_2.length c0_2] 26 (0, 0))) := ⟨h2_⟩
        have n3_ : Aside0 (w11.heap[gb270]? = some (.cells #[.slice none 0 0, .slice none 0 0, .slice none 0 0] 26 (0, 0))) := ⟨h3_⟩
        have n4_ : Aside0 (Below w.heap.size w w11) := ⟨h4_⟩
        clear BK269
        clear BK270
        clear HB
        clear h0_ h1_ h2_ h3_ h4_
        have HO273 := n0_
        have HO279 := n1_
        have BK269 := n2_
        have BK270 := n3_
        have HB := n4_
        clear n0_ n1_ n2_ n3_ n4_
        have hHeld : w11.cell? ⟨gb269, 0, none⟩ = some (.slice A0_0 l0_0.length c0_0) ∧ w11.cell? ⟨gb269, 1, none⟩ = some (.slice A0_1 l0_1.length c0_1) ∧ w11.cell? ⟨gb269, 2, none⟩ = some (.slice A0_2 l0_2.length c0_2) := hS_
        refine norm_ (a' := ?_) ?_ ?_
        rotate_left
        ·
         simp only [putAll, Act.put, List.setIfInBounds_toArray, List.set_cons_zero, List.set_cons_succ]
         rfl
        refine two_ (i := 3) (j := 9) (Ni := some 8) (Nj := some 3) #[true, true, true, true, true, true, true, false, false, false, false] #[true, true, true, false, true, true, true, false, false, true, false] rfl rfl rfl rfl (two_of HT_.out (by kernel_rfl)) (by decide) (by decide) (fun K hK => ?_) (fun K hK => ?_)
        ·
         skip
         refine Kd.R_append_rows_step (Kd.int .i64) (w0 := w) w.heap.size (by rfl) (.tmp 5) (.tmp 7) 22 3 (.int .i64 0) 8 rfl Try.underlying22 info3 rfl (by decide) (by omega) v272 y271 l0_0 _ _ _ (fun _ => True) (fun _ => False) rfl rfl ?aO ?aR (fun _ _ h => h) (fun _ h => h.elim) ?aF ?aB ?aS ?aL ?_
         (case aR => repeat (first | exact (Kd.C_below HR0_0.out HB.out) | (with_reducible refine Kd.C_alloc ?_ _) | (with_reducible refine Kd.C_drewN ?_ _) | (with_reducible refine Kd.C_drew ?_)))
         (case aB => exact (by repeat (first | (with_reducible first | exact HB.out | apply below_alloc | apply pw_below_drewN | apply below_drew1 | refine below_set ?_ GE269.out | refine below_set ?_ GE270.out) | exact HB.out)))
         (case aF => exact (fun _ _ => trivial))
         (case aO => exact (by (with_reducible repeat (first | apply Kd.R_alloc | apply Kd.R_drewN | apply Kd.R_drew)); exact HO273.out))
         (case aS => exact (below_size (by repeat (first | (with_reducible first | exact HB.out | apply below_alloc | apply pw_below_drewN | apply below_drew1 | refine below_set ?_ GE269.out | refine below_set ?_ GE270.out) | exact HB.out))))
         (case aL => have := LMc2.out; omega)
         intro v275 w12 ho hb hg hat
         rw [← Ny274.out] at ho
         have n0_ := Aside0.mk (blk_grown (g := gb269) (o := .cells #[.slice A0_0 l0_0.length c0_0, .slice A0_1 l0_1.length c0_1, .slice A0_2 l0_2.length c0_2] 26 (0, 0)) (by (with_reducible repeat (first | refine blk_drewN ?_ _ | refine blk_drew ?_ | refine blk_alloc ?_ _)); exact BK269.out) hg (Kd.R_ne HO273.out BK269.out (by decide)))
         have n1_ := Aside0.mk (blk_grown (g := gb270) (o := .cells #[.slice none 0 0, .slice none 0 0, .slice none 0 0] 26 (0, 0)) (by (with_reducible repeat (first | refine blk_drewN ?_ _ | refine blk_drew ?_ | refine blk_alloc ?_ _)); exact BK270.out) hg (Kd.R_ne HO273.out BK270.out (by decide)))
         have n2_ := Aside0.mk (Kd.R_over' (by (with_reducible repeat (first | apply Kd.R_alloc | apply Kd.R_drewN | apply Kd.R_drew)); exact HO279.out) (Kd.R_typed (by (with_reducible repeat (first | apply Kd.R_alloc | apply Kd.R_drewN | apply Kd.R_drew)); exact HO273.out)) (by decide) hg)
         have n3_ := Aside0.mk (hb)
         have n4_ := Aside0.mk (ho)
         clear BK269
         clear BK270
         clear HO279
         clear HB
         clear HO273
         have BK269 := n0_
         have BK270 := n1_
         have HO279 := n2_
         have HB := n3_
         have HO276 := n4_
         clear n0_ n1_ n2_ n3_ n4_
         clear ho hb hg hat
         refine hK.out _ _ ⟨(blk_cell BK269.out 0).trans rfl, (blk_cell BK269.out 1).trans rfl, (blk_cell BK269.out 2).trans rfl⟩ (fun hHeld => ?_)
         clear hK K
         refine norm_ (a' := ?_) ?_ ?_
         rotate_left
         ·
          show Act.put _ (some 8) _ = _
          simp only [Act.put, List.setIfInBounds_toArray, List.set_cons_zero, List.set_cons_succ, i64_w, i32_w]
          rfl
         exact norm_ (by first | (simp only [putAll, Act.put, List.setIfInBounds_toArray, List.set_cons_zero, List.set_cons_succ]; done) | (simp only [putAll, Act.put, List.setIfInBounds_toArray, List.set_cons_zero, List.set_cons_succ]; rfl)) (hJ0_3_4 (v272, v275, v278) _ ⟨hHeld, (by (with_reducible repeat (first | apply Kd.R_alloc | apply Kd.R_drewN | apply Kd.R_drew)); exact HO276.out), (by (with_reducible repeat (first | apply Kd.R_alloc | apply Kd.R_drewN | apply Kd.R_drew)); exact HO279.out), (by (with_reducible repeat (first | refine blk_drewN ?_ _ | refine blk_drew ?_ | refine blk_alloc ?_ _)); exact BK269.out), (by (with_reducible repeat (first | refine blk_drewN ?_ _ | refine blk_drew ?_ | refine blk_alloc ?_ _)); exact BK270.out), (by repeat (first | (with_reducible first | exact HB.out | apply below_alloc | apply pw_below_drewN | apply below_drew1 | refine below_set ?_ GE269.out | refine below_set ?_ GE270.out) | exact HB.out))⟩)
        skip
        refine box_step ?hg (N := 3) ?hd (cs := #[.slice none 0 0, .slice none 0 0, .slice none 0 0]) (t := 26) ?hr ?_; (case hd => rfl); (case hg => rfl); (case hr => first | (go_simp; done) | (go_simp; rfl))
        intro gb283 hg w12 hbox hb
        have n0_ := Aside0.mk (Kd.R_below (by (with_reducible repeat (first | apply Kd.R_alloc | apply Kd.R_drewN | apply Kd.R_drew)); exact HO273.out) hb)
        have n1_ := Aside0.mk (Kd.R_below (by (with_reducible repeat (first | apply Kd.R_alloc | apply Kd.R_drewN | apply Kd.R_drew)); exact HO279.out) hb)
        have n2_ := Aside0.mk (blk_below (g := gb269) (o := .cells #[.slice A0_0 l0_0.length c0_0, .slice A0_1 l0_1.length c0_1, .slice A0_2 l0_2.length c0_2] 26 (0, 0)) (by (with_reducible repeat (first | refine blk_drewN ?_ _ | refine blk_drew ?_ | refine blk_alloc ?_ _)); exact BK269.out) hb)
        have n3_ := Aside0.mk (blk_below (g := gb270) (o := .cells #[.slice none 0 0, .slice none 0 0, .slice none 0 0] 26 (0, 0)) (by (with_reducible repeat (first | refine blk_drewN ?_ _ | refine blk_drew ?_ | refine blk_alloc ?_ _)); exact BK270.out) hb)
        have n4_ := Aside0.mk (below_step (by repeat (first | (with_reducible first | exact HB.out | apply below_alloc | apply pw_below_drewN | apply below_drew1 | refine below_set ?_ GE269.out | refine below_set ?_ GE270.out) | exact HB.out)) hb)
        have n5_ := Aside0.mk (hbox)
        have n6_ := Aside0.mk ((by rw [hg]; exact (below_size (by repeat (first | (with_reducible first | exact HB.out | apply below_alloc | apply pw_below_drewN | apply below_drew1 | refine below_set ?_ GE269.out | refine below_set ?_ GE270.out) | exact HB.out))) : w.heap.size ≤ gb283))
        have n7_ := Aside0.mk ((by rw [hg]; exact (below_size (by repeat (first | (with_reducible first | exact HB.out | apply below_alloc | apply pw_below_drewN | apply below_drew1 | refine below_set ?_ GE269.out | refine below_set ?_ GE270.out) | exact HB.out))) : w.heap.size ≤ gb283))
        have n8_ := Aside0.mk ((by rw [hg]; exact Nat.ne_of_lt (blk_lt (g := gb269) (o := .cells #[.slice A0_0 l0_0.length c0_0, .slice A0_1 l0_1.length c0_1, .slice A0_2 l0_2.length c0_2] 26 (0, 0)) (by (with_reducible repeat (first | refine blk_drewN ?_ _ | refine blk_drew ?_ | refine blk_alloc ?_ _)); exact BK269.out)) : gb269 ≠ gb283))
        have n9_ := Aside0.mk ((by rw [hg]; exact Nat.ne_of_gt (blk_lt (g := gb269) (o := .cells #[.slice A0_0 l0_0.length c0_0, .slice A0_1 l0_1.length c0_1, .slice A0_2 l0_2.length c0_2] 26 (0, 0)) (by (with_reducible repeat (first | refine blk_drewN ?_ _ | refine blk_drew ?_ | refine blk_alloc ?_ _)); exact BK269.out)) : gb283 ≠ gb269))
        have n10_ := Aside0.mk ((by rw [hg]; exact Nat.ne_of_lt (blk_lt (g := gb270) (o := .cells #[.slice none 0 0, .slice none 0 0, .slice none 0 0] 26 (0, 0)) (by (with_reducible repeat (first | refine blk_drewN ?_ _ | refine blk_drew ?_ | refine blk_alloc ?_ _)); exact BK270.out)) : gb270 ≠ gb283))
        have n11_ := Aside0.mk ((by rw [hg]; exact Nat.ne_of_gt (blk_lt (g := gb270) (o := .cells #[.slice none 0 0, .slice none 0 0, .slice none 0 0] 26 (0, 0)) (by (with_reducible repeat (first | refine blk_drewN ?_ _ | refine blk_drew ?_ | refine blk_alloc ?_ _)); exact BK270.out)) : gb283 ≠ gb270))
        clear HO273
        clear HO279
        clear BK269
        clear BK270
        clear HB
        have HO273 := n0_
        have HO279 := n1_
        have BK269 := n2_
        have BK270 := n3_
        have HB := n4_
        have BK283 := n5_
        have GW283 := n6_
        have GE283 := n7_
        have NB269_283 := n8_
        have NB283_269 := n9_
        have NB270_283 := n10_
        have NB283_270 := n11_
        clear n0_ n1_ n2_ n3_ n4_ n5_ n6_ n7_ n8_ n9_ n10_ n11_
        clear hb hbox hg
        refine hK.out _ _ ⟨(blk_cell BK269.out 0).trans rfl, (blk_cell BK269.out 1).trans rfl, (blk_cell BK269.out 2).trans rfl⟩ (fun hHeld => ?_)
        clear hK K
        refine norm_ (a' := ?_) ?_ ?_
        rotate_left
        ·
         show Act.put _ (some 3) _ = _
         simp only [Act.put, List.setIfInBounds_toArray, List.set_cons_zero, List.set_cons_succ, i64_w, i32_w]
         rfl
        exact norm_ (by first | (simp only [putAll, Act.put, List.setIfInBounds_toArray, List.set_cons_zero, List.set_cons_succ]; done) | (simp only [putAll, Act.put, List.setIfInBounds_toArray, List.set_cons_zero, List.set_cons_succ]; rfl)) (hJ0_4_9 (v272, v278, gb283) _ ⟨hHeld, (by (with_reducible repeat (first | apply Kd.R_alloc | apply Kd.R_drewN | apply Kd.R_drew)); exact HO273.out), (by (with_reducible repeat (first | apply Kd.R_alloc | apply Kd.R_drewN | apply Kd.R_drew)); exact HO279.out), (by (with_reducible repeat (first | refine blk_drewN ?_ _ | refine blk_drew ?_ | refine blk_alloc ?_ _)); exact BK269.out), (by (with_reducible repeat (first | refine blk_drewN ?_ _ | refine blk_drew ?_ | refine blk_alloc ?_ _)); exact BK270.out), (by (with_reducible repeat (first | refine blk_drewN ?_ _ | refine blk_drew ?_ | refine blk_alloc ?_ _)); exact BK283.out), GW283.out, GE283.out, NB269_283.out, NB283_269.out, NB270_283.out, NB283_270.out, (by repeat (first | (with_reducible first | exact HB.out | apply below_alloc | apply pw_below_drewN | apply below_drew1 | refine below_set ?_ GE269.out | refine below_set ?_ GE270.out | refine below_set ?_ GE283.out) | exact HB.out))⟩)
       skip
       rintro ⟨v272, v275⟩ w10 ⟨hS_, h0_, h1_, h2_, h3_⟩
       have n0_ : Aside0 (Kd.R (Kd.int .i64) 3 w10 w.heap.size (fun _ => True) v275 y274) := ⟨h0_⟩
       have n1_ : Aside0 (w10.heap[gb269]? = some (.cells #[.slice A0_0 l0_0.length c0_0, .slice A0_1 l0_1.length c0_1, .slice A0_2 l0_2.length c0_2] 26 (0, 0))) := ⟨h1_⟩
       have n2_ : Aside0 (w10.heap[gb270]? = some (.cells #[.slice none 0 0, .slice none 0 0, .slice none 0 0] 26 (0, 0))) := ⟨h2_⟩
       have n3_ : Aside0 (Below w.heap.size w w10) := ⟨h3_⟩
       clear BK269
       clear BK270
       clear HB
       clear h0_ h1_ h2_ h3_
       have HO276 := n0_
       have BK269 := n1_
       have BK270 := n2_
       have HB := n3_
       clear n0_ n1_ n2_ n3_
       have hHeld : w10.cell? ⟨gb269, 0, none⟩ = some (.slice A0_0 l0_0.length c0_0) ∧ w10.cell? ⟨gb269, 1, none⟩ = some (.slice A0_1 l0_1.length c0_1) ∧ w10.cell? ⟨gb269, 2, none⟩ = some (.slice A0_2 l0_2.length c0_2) := hS_
       refine norm_ (a' := ?_) ?_ ?_
       rotate_left
       ·
        simp only [putAll, Act.put, List.setIfInBounds_toArray, List.set_cons_zero, List.set_cons_succ]
        rfl
       refine two_ (i := 4) (j := 9) (Ni := some 9) (Nj := some 3) #[true, true, true, true, true, true, true, false, false, false, false] #[true, true, true, true, false, true, true, false, false, true, false] rfl rfl rfl rfl (two_of HT_.out (by kernel_rfl)) (by decide) (by decide) (fun K hK => ?_) (fun K hK => ?_)
       ·
        skip
        refine Kd.R_lit_step k50 _ 50 ?hg (N := 9) ?hd (xs := ([] : List (S50))) (inner := []) (ok := fun _ => True) (okp := fun _ => True) ?hr ?hp (fun _ hk => hk) trivial (Below.refl _ _) (Nat.le_refl _) (by simp) ?_; (case hd => rfl); (case hg => rfl); (case hr => first | (go_simp; done) | (go_simp; rfl)); (case hp => exact (Reps.none _ _))
        intro v278 w11 ho12 hb hg_ hnew_
        clear hg_ hnew_
        (first | rw [← Ny277.out] at ho12 | (simp only [Int.reduceToNat] at ho12; rw [← Ny277.out] at ho12))
        have n0_ := Aside0.mk (Kd.R_below (by (with_reducible repeat (first | apply Kd.R_alloc | apply Kd.R_drewN | apply Kd.R_drew)); exact HO276.out) hb)
        have n1_ := Aside0.mk (Kd.R_lower ho12 (below_size (by repeat (first | (with_reducible first | exact HB.out | apply below_alloc | apply pw_below_drewN | apply below_drew1 | refine below_set ?_ GE269.out | refine below_set ?_ GE270.out) | exact HB.out))))
        have n2_ := Aside0.mk (blk_below (g := gb269) (o := .cells #[.slice A0_0 l0_0.length c0_0, .slice A0_1 l0_1.length c0_1, .slice A0_2 l0_2.length c0_2] 26 (0, 0)) (by (with_reducible repeat (first | refine blk_drewN ?_ _ | refine blk_drew ?_ | refine blk_alloc ?_ _)); exact BK269.out) hb)
        have n3_ := Aside0.mk (blk_below (g := gb270) (o := .cells #[.slice none 0 0, .slice none 0 0, .slice none 0 0] 26 (0, 0)) (by (with_reducible repeat (first | refine blk_drewN ?_ _ | refine blk_drew ?_ | refine blk_alloc ?_ _)); exact BK270.out) hb)
        have n4_ := Aside0.mk (below_step (by repeat (first | (with_reducible first | exact HB.out | apply below_alloc | apply pw_below_drewN | apply below_drew1 | refine below_set ?_ GE269.out | refine below_set ?_ GE270.out) | exact HB.out)) hb)
        clear HO276
        clear BK269
        clear BK270
        clear HB
        have HO276 := n0_
        have HO279 := n1_
        have BK269 := n2_
        have BK270 := n3_
        have HB := n4_
        clear n0_ n1_ n2_ n3_ n4_
        clear hb ho12
        refine hK.out _ _ ⟨(blk_cell BK269.out 0).trans rfl, (blk_cell BK269.out 1).trans rfl, (blk_cell BK269.out 2).trans rfl⟩ (fun hHeld => ?_)
        clear hK K
        refine norm_ (a' := ?_) ?_ ?_
        rotate_left
        ·
         show Act.put _ (some 9) _ = _
         simp only [Act.put, List.setIfInBounds_toArray, List.set_cons_zero, List.set_cons_succ, i64_w, i32_w]
         rfl
        exact norm_ (by first | (simp only [putAll, Act.put, List.setIfInBounds_toArray, List.set_cons_zero, List.set_cons_succ]; done) | (simp only [putAll, Act.put, List.setIfInBounds_toArray, List.set_cons_zero, List.set_cons_succ]; rfl)) (hJ0_3_4 (v272, v275, v278) _ ⟨hHeld, (by (with_reducible repeat (first | apply Kd.R_alloc | apply Kd.R_drewN | apply Kd.R_drew)); exact HO276.out), (by (with_reducible repeat (first | apply Kd.R_alloc | apply Kd.R_drewN | apply Kd.R_drew)); exact HO279.out), (by (with_reducible repeat (first | refine blk_drewN ?_ _ | refine blk_drew ?_ | refine blk_alloc ?_ _)); exact BK269.out), (by (with_reducible repeat (first | refine blk_drewN ?_ _ | refine blk_drew ?_ | refine blk_alloc ?_ _)); exact BK270.out), (by repeat (first | (with_reducible first | exact HB.out | apply below_alloc | apply pw_below_drewN | apply below_drew1 | refine below_set ?_ GE269.out | refine below_set ?_ GE270.out) | exact HB.out))⟩)
       skip
       refine box_step ?hg (N := 3) ?hd (cs := #[.slice none 0 0, .slice none 0 0, .slice none 0 0]) (t := 26) ?hr ?_; (case hd => rfl); (case hg => rfl); (case hr => first | (go_simp; done) | (go_simp; rfl))
       intro gb283 hg w11 hbox hb
       have n0_ := Aside0.mk (Kd.R_below (by (with_reducible repeat (first | apply Kd.R_alloc | apply Kd.R_drewN | apply Kd.R_drew)); exact HO276.out) hb)
       have n1_ := Aside0.mk (blk_below (g := gb269) (o := .cells #[.slice A0_0 l0_0.length c0_0, .slice A0_1 l0_1.length c0_1, .slice A0_2 l0_2.length c0_2] 26 (0, 0)) (by (with_reducible repeat (first | refine blk_drewN ?_ _ | refine blk_drew ?_ | refine blk_alloc ?_ _)); exact BK269.out) hb)
       have n2_ := Aside0.mk (blk_below (g := gb270) (o := .cells #[.slice none 0 0, .slice none 0 0, .slice none 0 0] 26 (0, 0)) (by (with_reducible repeat (first | refine blk_drewN ?_ _ | refine blk_drew ?_ | refine blk_alloc ?_ _)); exact BK270.out) hb)
       have n3_ := Aside0.mk (below_step (by repeat (first | (with_reducible first | exact HB.out | apply below_alloc | apply pw_below_drewN | apply below_drew1 | refine below_set ?_ GE269.out | refine below_set ?_ GE270.out) | exact HB.out)) hb)
       have n4_ := Aside0.mk (hbox)
       have n5_ := Aside0.mk ((by rw [hg]; exact (below_size (by repeat (first | (with_reducible first | exact HB.out | apply below_alloc | apply pw_below_drewN | apply below_drew1 | refine below_set ?_ GE269.out | refine below_set ?_ GE270.out) | exact HB.out))) : w.heap.size ≤ gb283))
       have n6_ := Aside0.mk ((by rw [hg]; exact (below_size (by repeat (first | (with_reducible first | exact HB.out | apply below_alloc | apply pw_below_drewN | apply below_drew1 | refine below_set ?_ GE269.out | refine below_set ?_ GE270.out) | exact HB.out))) : w.heap.size ≤ gb283))
       have n7_ := Aside0.mk ((by rw [hg]; exact Nat.ne_of_lt (blk_lt (g := gb269) (o := .cells #[.slice A0_0 l0_0.length c0_0, .slice A0_1 l0_1.length c0_1, .slice A0_2 l0_2.length c0_2] 26 (0, 0)) (by (with_reducible repeat (first | refine blk_drewN ?_ _ | refine blk_drew ?_ | refine blk_alloc ?_ _)); exact BK269.out)) : gb269 ≠ gb283))
       have n8_ := Aside0.mk ((by rw [hg]; exact Nat.ne_of_gt (blk_lt (g := gb269) (o := .cells #[.slice A0_0 l0_0.length c0_0, .slice A0_1 l0_1.length c0_1, .slice A0_2 l0_2.length c0_2] 26 (0, 0)) (by (with_reducible repeat (first | refine blk_drewN ?_ _ | refine blk_drew ?_ | refine blk_alloc ?_ _)); exact BK269.out)) : gb283 ≠ gb269))
       have n9_ := Aside0.mk ((by rw [hg]; exact Nat.ne_of_lt (blk_lt (g := gb270) (o := .cells #[.slice none 0 0, .slice none 0 0, .slice none 0 0] 26 (0, 0)) (by (with_reducible repeat (first | refine blk_drewN ?_ _ | refine blk_drew ?_ | refine blk_alloc ?_ _)); exact BK270.out)) : gb270 ≠ gb283))
       have n10_ := Aside0.mk ((by rw [hg]; exact Nat.ne_of_gt (blk_lt (g := gb270) (o := .cells #[.slice none 0 0, .slice none 0 0, .slice none 0 0] 26 (0, 0)) (by (with_reducible repeat (first | refine blk_drewN ?_ _ | refine blk_drew ?_ | refine blk_alloc ?_ _)); exact BK270.out)) : gb283 ≠ gb270))
       clear HO276
       clear BK269
       clear BK270
       clear HB
       have HO276 := n0_
       have BK269 := n1_
       have BK270 := n2_
       have HB := n3_
       have BK283 := n4_
       have GW283 := n5_
       have GE283 := n6_
       have NB269_283 := n7_
       have NB283_269 := n8_
       have NB270_283 := n9_
       have NB283_270 := n10_
       clear n0_ n1_ n2_ n3_ n4_ n5_ n6_ n7_ n8_ n9_ n10_
       clear hb hbox hg
       refine hK.out _ _ ⟨(blk_cell BK269.out 0).trans rfl, (blk_cell BK269.out 1).trans rfl, (blk_cell BK269.out 2).trans rfl⟩ (fun hHeld => ?_)
       clear hK K
       refine norm_ (a' := ?_) ?_ ?_
       rotate_left
       ·
        show Act.put _ (some 3) _ = _
        simp only [Act.put, List.setIfInBounds_toArray, List.set_cons_zero, List.set_cons_succ, i64_w, i32_w]
        rfl
       exact norm_ (by first | (simp only [putAll, Act.put, List.setIfInBounds_toArray, List.set_cons_zero, List.set_cons_succ]; done) | (simp only [putAll, Act.put, List.setIfInBounds_toArray, List.set_cons_zero, List.set_cons_succ]; rfl)) (hJ0_3_9 (v272, v275, gb283) _ ⟨hHeld, (by (with_reducible repeat (first | apply Kd.R_alloc | apply Kd.R_drewN | apply Kd.R_drew)); exact HO276.out), (by (with_reducible repeat (first | refine blk_drewN ?_ _ | refine blk_drew ?_ | refine blk_alloc ?_ _)); exact BK269.out), (by (with_reducible repeat (first | refine blk_drewN ?_ _ | refine blk_drew ?_ | refine blk_alloc ?_ _)); exact BK270.out), (by (with_reducible repeat (first | refine blk_drewN ?_ _ | refine blk_drew ?_ | refine blk_alloc ?_ _)); exact BK283.out), GW283.out, GE283.out, NB269_283.out, NB283_269.out, NB270_283.out, NB283_270.out, (by repeat (first | (with_reducible first | exact HB.out | apply below_alloc | apply pw_below_drewN | apply below_drew1 | refine below_set ?_ GE269.out | refine below_set ?_ GE270.out | refine below_set ?_ GE283.out) | exact HB.out))⟩)
      skip
      rintro ⟨v272, v278, gb283⟩ w12 ⟨hS_, h0_, h1_, h2_, h3_, h4_, h5_, h6_, h7_, h8_, h9_, h10_, h11_⟩
      have n0_ : Aside0 (Kd.R (Kd.int .i64) 3 w12 w.heap.size (fun _ => True) v272 y271) := ⟨h0_⟩
      have n1_ : Aside0 (Kd.R k50 50 w12 w.heap.size (fun _ => True) v278 y277) := ⟨h1_⟩
      have n2_ : Aside0 (w12.heap[gb269]? = some (.cells #[.slice A0_0 l0_0.length c0_0, .slice A0_1 l0_1.length c0_1, .slice A0_2 l0_2.length c0_2] 26 (0, 0))) := ⟨h2_⟩
      have n3_ : Aside0 (w12.heap[gb270]? = some (.cells #[.slice none 0 0, .slice none 0 0, .slice none 0 0] 26 (0, 0))) := ⟨h3_⟩
      have n4_ : Aside0 (w12.heap[gb283]? = some (.cells #[.slice none 0 0, .slice none 0 0, .slice none 0 0] 26 (0, 0))) := ⟨h4_⟩
      have n5_ : Aside0 (w.heap.size ≤ gb283) := ⟨h5_⟩
      have n6_ : Aside0 (w.heap.size ≤ gb283) := ⟨h6_⟩
      have n7_ : Aside0 (gb269 ≠ gb283) := ⟨h7_⟩
      have n8_ : Aside0 (gb283 ≠ gb269) := ⟨h8_⟩
      have n9_ : Aside0 (gb270 ≠ gb283) := ⟨h9_⟩
      have n10_ : Aside0 (gb283 ≠ gb270) := ⟨h10_⟩
      have n11_ : Aside0 (Below w.heap.size w w12) := ⟨h11_⟩
      clear BK269
      clear BK270
      clear HB
      clear h0_ h1_ h2_ h3_ h4_ h5_ h6_ h7_ h8_ h9_ h10_ h11_
      have HO273 := n0_
      have HO279 := n1_
      have BK269 := n2_
      have BK270 := n3_
      have BK283 := n4_
      have GW283 := n5_
      have GE283 := n6_
      have NB269_283 := n7_
      have NB283_269 := n8_
      have NB270_283 := n9_
      have NB283_270 := n10_
      have HB := n11_
      clear n0_ n1_ n2_ n3_ n4_ n5_ n6_ n7_ n8_ n9_ n10_ n11_
      have hHeld : w12.cell? ⟨gb269, 0, none⟩ = some (.slice A0_0 l0_0.length c0_0) ∧ w12.cell? ⟨gb269, 1, none⟩ = some (.slice A0_1 l0_1.length c0_1) ∧ w12.cell? ⟨gb269, 2, none⟩ = some (.slice A0_2 l0_2.length c0_2) := hS_
      refine norm_ (a' := ?_) ?_ ?_
      rotate_left
      ·
       simp only [putAll, Act.put, List.setIfInBounds_toArray, List.set_cons_zero, List.set_cons_succ]
       rfl
      refine one_ (i := 3) (N := some 8) #[true, true, true, true, true, true, true, false, false, true, false] rfl rfl (one_of HT_.out (by kernel_rfl)) (by decide) (fun K hK => ?_)
      refine Kd.R_append_rows_step (Kd.int .i64) (w0 := w) w.heap.size (by rfl) (.tmp 5) (.tmp 7) 22 3 (.int .i64 0) 8 rfl Try.underlying22 info3 rfl (by decide) (by omega) v272 y271 l0_0 _ _ _ (fun _ => True) (fun _ => False) rfl rfl ?aO ?aR (fun _ _ h => h) (fun _ h => h.elim) ?aF ?aB ?aS ?aL ?_
      (case aR => repeat (first | exact (Kd.C_below HR0_0.out HB.out) | (with_reducible refine Kd.C_alloc ?_ _) | (with_reducible refine Kd.C_drewN ?_ _) | (with_reducible refine Kd.C_drew ?_)))
      (case aB => exact (by repeat (first | (with_reducible first | exact HB.out | apply below_alloc | apply pw_below_drewN | apply below_drew1 | refine below_set ?_ GE269.out | refine below_set ?_ GE270.out | refine below_set ?_ GE283.out) | exact HB.out)))
      (case aF => exact (fun _ _ => trivial))
      (case aO => exact (by (with_reducible repeat (first | apply Kd.R_alloc | apply Kd.R_drewN | apply Kd.R_drew)); exact HO273.out))
      (case aS => exact (below_size (by repeat (first | (with_reducible first | exact HB.out | apply below_alloc | apply pw_below_drewN | apply below_drew1 | refine below_set ?_ GE269.out | refine below_set ?_ GE270.out | refine below_set ?_ GE283.out) | exact HB.out))))
      (case aL => have := LMc2.out; omega)
      intro v275 w13 ho hb hg hat
      rw [← Ny274.out] at ho
      have n0_ := Aside0.mk (blk_grown (g := gb269) (o := .cells #[.slice A0_0 l0_0.length c0_0, .slice A0_1 l0_1.length c0_1, .slice A0_2 l0_2.length c0_2] 26 (0, 0)) (by (with_reducible repeat (first | refine blk_drewN ?_ _ | refine blk_drew ?_ | refine blk_alloc ?_ _)); exact BK269.out) hg (Kd.R_ne HO273.out BK269.out (by decide)))
      have n1_ := Aside0.mk (blk_grown (g := gb270) (o := .cells #[.slice none 0 0, .slice none 0 0, .slice none 0 0] 26 (0, 0)) (by (with_reducible repeat (first | refine blk_drewN ?_ _ | refine blk_drew ?_ | refine blk_alloc ?_ _)); exact BK270.out) hg (Kd.R_ne HO273.out BK270.out (by decide)))
      have n2_ := Aside0.mk (Kd.R_over' (by (with_reducible repeat (first | apply Kd.R_alloc | apply Kd.R_drewN | apply Kd.R_drew)); exact HO279.out) (Kd.R_typed (by (with_reducible repeat (first | apply Kd.R_alloc | apply Kd.R_drewN | apply Kd.R_drew)); exact HO273.out)) (by decide) hg)
      have n3_ := Aside0.mk (blk_grown (g := gb283) (o := .cells #[.slice none 0 0, .slice none 0 0, .slice none 0 0] 26 (0, 0)) (by (with_reducible repeat (first | refine blk_drewN ?_ _ | refine blk_drew ?_ | refine blk_alloc ?_ _)); exact BK283.out) hg (Kd.R_ne HO273.out BK283.out (by decide)))
      have n4_ := Aside0.mk (hb)
      have n5_ := Aside0.mk (ho)
      clear BK269
      clear BK270
      clear HO279
      clear BK283
      clear HB
      clear HO273
      have BK269 := n0_
      have BK270 := n1_
      have HO279 := n2_
      have BK283 := n3_
      have HB := n4_
      have HO276 := n5_
      clear n0_ n1_ n2_ n3_ n4_ n5_
      clear ho hb hg hat
      refine hK.out _ _ ⟨(blk_cell BK269.out 0).trans rfl, (blk_cell BK269.out 1).trans rfl, (blk_cell BK269.out 2).trans rfl⟩ (fun hHeld => ?_)
      clear hK K
      refine norm_ (a' := ?_) ?_ ?_
      rotate_left
      ·
       show Act.put _ (some 8) _ = _
       simp only [Act.put, List.setIfInBounds_toArray, List.set_cons_zero, List.set_cons_succ, i64_w, i32_w]
       rfl
      exact norm_ (by first | (simp only [putAll, Act.put, List.setIfInBounds_toArray, List.set_cons_zero, List.set_cons_succ]; done) | (simp only [putAll, Act.put, List.setIfInBounds_toArray, List.set_cons_zero, List.set_cons_succ]; rfl)) (hJ0_3_4_9 (v272, v275, v278, gb283) _ ⟨hHeld, (by (with_reducible repeat (first | apply Kd.R_alloc | apply Kd.R_drewN | apply Kd.R_drew)); exact HO276.out), (by (with_reducible repeat (first | apply Kd.R_alloc | apply Kd.R_drewN | apply Kd.R_drew)); exact HO279.out), (by (with_reducible repeat (first | refine blk_drewN ?_ _ | refine blk_drew ?_ | refine blk_alloc ?_ _)); exact BK269.out), (by (with_reducible repeat (first | refine blk_drewN ?_ _ | refine blk_drew ?_ | refine blk_alloc ?_ _)); exact BK270.out), (by (with_reducible repeat (first | refine blk_drewN ?_ _ | refine blk_drew ?_ | refine blk_alloc ?_ _)); exact BK283.out), GW283.out, GE283.out, NB269_283.out, NB283_269.out, NB270_283.out, NB283_270.out, (by repeat (first | (with_reducible first | exact HB.out | apply below_alloc | apply pw_below_drewN | apply below_drew1 | refine below_set ?_ GE269.out | refine below_set ?_ GE270.out | refine below_set ?_ GE283.out) | exact HB.out))⟩)
     skip
     rintro ⟨v272, v275, gb283⟩ w11 ⟨hS_, h0_, h1_, h2_, h3_, h4_, h5_, h6_, h7_, h8_, h9_, h10_⟩
     have n0_ : Aside0 (Kd.R (Kd.int .i64) 3 w11 w.heap.size (fun _ => True) v275 y274) := ⟨h0_⟩
     have n1_ : Aside0 (w11.heap[gb269]? = some (.cells #[.slice A0_0 l0_0.length c0_0, .slice A0_1 l0_1.length c0_1, .slice A0_2 l0_2.length c0_2] 26 (0, 0))) := ⟨h1_⟩
     have n2_ : Aside0 (w11.heap[gb270]? = some (.cells #[.slice none 0 0, .slice none 0 0, .slice none 0 0] 26 (0, 0))) := ⟨h2_⟩
     have n3_ : Aside0 (w11.heap[gb283]? = some (.cells #[.slice none 0 0, .slice none 0 0, .slice none 0 0] 26 (0, 0))) := ⟨h3_⟩
     have n4_ : Aside0 (w.heap.size ≤ gb283) := ⟨h4_⟩
     have n5_ : Aside0 (w.heap.size ≤ gb283) := ⟨h5_⟩
     have n6_ : Aside0 (gb269 ≠ gb283) := ⟨h6_⟩
     have n7_ : Aside0 (gb283 ≠ gb269) := ⟨h7_⟩
     have n8_ : Aside0 (gb270 ≠ gb283) := ⟨h8_⟩
     have n9_ : Aside0 (gb283 ≠ gb270) := ⟨h9_⟩
     have n10_ : Aside0 (Below w.heap.size w w11) := ⟨h10_⟩
     clear BK269
     clear BK270
     clear HB
     clear h0_ h1_ h2_ h3_ h4_ h5_ h6_ h7_ h8_ h9_ h10_
     have HO276 := n0_
     have BK269 := n1_
     have BK270 := n2_
     have BK283 := n3_
     have GW283 := n4_
     have GE283 := n5_
     have NB269_283 := n6_
     have NB283_269 := n7_
     have NB270_283 := n8_
     have NB283_270 := n9_
     have HB := n10_
     clear n0_ n1_ n2_ n3_ n4_ n5_ n6_ n7_ n8_ n9_ n10_
     have hHeld : w11.cell? ⟨gb269, 0, none⟩ = some (.slice A0_0 l0_0.length c0_0) ∧ w11.cell? ⟨gb269, 1, none⟩ = some (.slice A0_1 l0_1.length c0_1) ∧ w11.cell? ⟨gb269, 2, none⟩ = some (.slice A0_2 l0_2.length c0_2) := hS_
     refine norm_ (a' := ?_) ?_ ?_
     rotate_left
     ·
      simp only [putAll, Act.put, List.setIfInBounds_toArray, List.set_cons_zero, List.set_cons_succ]
      rfl
     refine one_ (i := 4) (N := some 9) #[true, true, true, true, true, true, true, false, false, true, false] rfl rfl (one_of HT_.out (by kernel_rfl)) (by decide) (fun K hK => ?_)
     refine Kd.R_lit_step k50 _ 50 ?hg (N := 9) ?hd (xs := ([] : List (S50))) (inner := []) (ok := fun _ => True) (okp := fun _ => True) ?hr ?hp (fun _ hk => hk) trivial (Below.refl _ _) (Nat.le_refl _) (by simp) ?_; (case hd => rfl); (case hg => rfl); (case hr => first | (go_simp; done) | (go_simp; rfl)); (case hp => exact (Reps.none _ _))
     intro v278 w12 ho13 hb hg_ hnew_
     clear hg_ hnew_
     (first | rw [← Ny277.out] at ho13 | (simp only [Int.reduceToNat] at ho13; rw [← Ny277.out] at ho13))
     have n0_ := Aside0.mk (Kd.R_below (by (with_reducible repeat (first | apply Kd.R_alloc | apply Kd.R_drewN | apply Kd.R_drew)); exact HO276.out) hb)
     have n1_ := Aside0.mk (Kd.R_lower ho13 (below_size (by repeat (first | (with_reducible first | exact HB.out | apply below_alloc | apply pw_below_drewN | apply below_drew1 | refine below_set ?_ GE269.out | refine below_set ?_ GE270.out | refine below_set ?_ GE283.out) | exact HB.out))))
     have n2_ := Aside0.mk (blk_below (g := gb269) (o := .cells #[.slice A0_0 l0_0.length c0_0, .slice A0_1 l0_1.length c0_1, .slice A0_2 l0_2.length c0_2] 26 (0, 0)) (by (with_reducible repeat (first | refine blk_drewN ?_ _ | refine blk_drew ?_ | refine blk_alloc ?_ _)); exact BK269.out) hb)
     have n3_ := Aside0.mk (blk_below (g := gb270) (o := .cells #[.slice none 0 0, .slice none 0 0, .slice none 0 0] 26 (0, 0)) (by (with_reducible repeat (first | refine blk_drewN ?_ _ | refine blk_drew ?_ | refine blk_alloc ?_ _)); exact BK270.out) hb)
     have n4_ := Aside0.mk (blk_below (g := gb283) (o := .cells #[.slice none 0 0, .slice none 0 0, .slice none 0 0] 26 (0, 0)) (by (with_reducible repeat (first | refine blk_drewN ?_ _ | refine blk_drew ?_ | refine blk_alloc ?_ _)); exact BK283.out) hb)
     have n5_ := Aside0.mk (below_step (by repeat (first | (with_reducible first | exact HB.out | apply below_alloc | apply pw_below_drewN | apply below_drew1 | refine below_set ?_ GE269.out | refine below_set ?_ GE270.out | refine below_set ?_ GE283.out) | exact HB.out)) hb)
     clear HO276
     clear BK269
     clear BK270
     clear BK283
     clear HB
     have HO276 := n0_
     have HO279 := n1_
     have BK269 := n2_
     have BK270 := n3_
     have BK283 := n4_
     have HB := n5_
     clear n0_ n1_ n2_ n3_ n4_ n5_
     clear hb ho13
     refine hK.out _ _ ⟨(blk_cell BK269.out 0).trans rfl, (blk_cell BK269.out 1).trans rfl, (blk_cell BK269.out 2).trans rfl⟩ (fun hHeld => ?_)
     clear hK K
     refine norm_ (a' := ?_) ?_ ?_
     rotate_left
     ·
      show Act.put _ (some 9) _ = _
      simp only [Act.put, List.setIfInBounds_toArray, List.set_cons_zero, List.set_cons_succ, i64_w, i32_w]
      rfl
     exact norm_ (by first | (simp only [putAll, Act.put, List.setIfInBounds_toArray, List.set_cons_zero, List.set_cons_succ]; done) | (simp only [putAll, Act.put, List.setIfInBounds_toArray, List.set_cons_zero, List.set_cons_succ]; rfl)) (hJ0_3_4_9 (v272, v275, v278, gb283) _ ⟨hHeld, (by (with_reducible repeat (first | apply Kd.R_alloc | apply Kd.R_drewN | apply Kd.R_drew)); exact HO276.out), (by (with_reducible repeat (first | apply Kd.R_alloc | apply Kd.R_drewN | apply Kd.R_drew)); exact HO279.out), (by (with_reducible repeat (first | refine blk_drewN ?_ _ | refine blk_drew ?_ | refine blk_alloc ?_ _)); exact BK269.out), (by (with_reducible repeat (first | refine blk_drewN ?_ _ | refine blk_drew ?_ | refine blk_alloc ?_ _)); exact BK270.out), (by (with_reducible repeat (first | refine blk_drewN ?_ _ | refine blk_drew ?_ | refine blk_alloc ?_ _)); exact BK283.out), GW283.out, GE283.out, NB269_283.out, NB283_269.out, NB270_283.out, NB283_270.out, (by repeat (first | (with_reducible first | exact HB.out | apply below_alloc | apply pw_below_drewN | apply below_drew1 | refine below_set ?_ GE269.out | refine below_set ?_ GE270.out | refine below_set ?_ GE283.out) | exact HB.out))⟩)
    skip
    rintro ⟨v272, v275, v278⟩ w12 ⟨hS_, h0_, h1_, h2_, h3_, h4_⟩
    have n0_ : Aside0 (Kd.R (Kd.int .i64) 3 w12 w.heap.size (fun _ => True) v275 y274) := ⟨h0_⟩
    have n1_ : Aside0 (Kd.R k50 50 w12 w.heap.size (fun _ => True) v278 y277) := ⟨h1_⟩
    have n2_ : Aside0 (w12.heap[gb269]? = some (.cells #[.slice A0_0 l0_0.length c0_0, .slice A0_1 l0_1.length c0_1, .slice A0_2 l0_2.length c0_2] 26 (0, 0))) := ⟨h2_⟩
    have n3_ : Aside0 (w12.heap[gb270]? = some (.cells #[.slice none 0 0, .slice none 0 0, .slice none 0 0] 26 (0, 0))) := ⟨h3_⟩
    have n4_ : Aside0 (Below w.heap.size w w12) := ⟨h4_⟩
    clear BK269
    clear BK270
    clear HB
    clear h0_ h1_ h2_ h3_ h4_
    have HO276 := n0_
    have HO279 := n1_
    have BK269 := n2_
    have BK270 := n3_
    have HB := n4_
    clear n0_ n1_ n2_ n3_ n4_
    have hHeld : w12.cell? ⟨gb269, 0, none⟩ = some (.slice A0_0 l0_0.length c0_0) ∧ w12.cell? ⟨gb269, 1, none⟩ = some (.slice A0_1 l0_1.length c0_1) ∧ w12.cell? ⟨gb269, 2, none⟩ = some (.slice A0_2 l0_2.length c0_2) := hS_
    refine norm_ (a' := ?_) ?_ ?_
    rotate_left
    ·
     simp only [putAll, Act.put, List.setIfInBounds_toArray, List.set_cons_zero, List.set_cons_succ]
     rfl
    refine two_ (i := 7) (j := 9) (Ni := some 12) (Nj := some 3) #[true, true, true, true, true, true, true, true, false, false, false] #[true, true, true, true, true, true, true, false, false, true, false] rfl rfl rfl rfl (two_of HT_.out (by kernel_rfl)) (by decide) (by decide) (fun K hK => ?_) (fun K hK => ?_)
    ·
     skip
     refine Kd.R_append_rows_step k50 (w0 := w) w.heap.size (by rfl) (.tmp 9) (.tmp 11) 23 50 (.agg #[(.int .i64 0), (.int .i64 0), (.int .i64 0)]) 24 rfl Try.underlying23 info50 rfl (by decide) (by omega) v278 y277 l0_1 _ _ _ (fun _ => True) (fun _ => False) rfl rfl ?aO ?aR (fun _ _ h => h) (fun _ h => h.elim) ?aF ?aB ?aS ?aL ?_
     (case aR => repeat (first | exact (Kd.C_below HR0_1.out HB.out) | (with_reducible refine Kd.C_alloc ?_ _) | (with_reducible refine Kd.C_drewN ?_ _) | (with_reducible refine Kd.C_drew ?_)))
     (case aB => exact (by repeat (first | (with_reducible first | exact HB.out | apply below_alloc | apply pw_below_drewN | apply below_drew1 | refine below_set ?_ GE269.out | refine below_set ?_ GE270.out) | exact HB.out)))
     (case aF => exact (fun _ _ => trivial))
     (case aO => exact (by (with_reducible repeat (first | apply Kd.R_alloc | apply Kd.R_drewN | apply Kd.R_drew)); exact HO279.out))
     (case aS => exact (below_size (by repeat (first | (with_reducible first | exact HB.out | apply below_alloc | apply pw_below_drewN | apply below_drew1 | refine below_set ?_ GE269.out | refine below_set ?_ GE270.out) | exact HB.out))))
     (case aL => have := LMc3.out; omega)
     intro v281 w13 ho hb hg hat
     rw [← Ny280.out] at ho
     have n0_ := Aside0.mk (blk_grown (g := gb269) (o := .cells #[.slice A0_0 l0_0.length c0_0, .slice A0_1 l0_1.length c0_1, .slice A0_2 l0_2.length c0_2] 26 (0, 0)) (by (with_reducible repeat (first | refine blk_drewN ?_ _ | refine blk_drew ?_ | refine blk_alloc ?_ _)); exact BK269.out) hg (Kd.R_ne HO279.out BK269.out (by decide)))
     have n1_ := Aside0.mk (blk_grown (g := gb270) (o := .cells #[.slice none 0 0, .slice none 0 0, .slice none 0 0] 26 (0, 0)) (by (with_reducible repeat (first | refine blk_drewN ?_ _ | refine blk_drew ?_ | refine blk_alloc ?_ _)); exact BK270.out) hg (Kd.R_ne HO279.out BK270.out (by decide)))
     have n2_ := Aside0.mk (Kd.R_over' (by (with_reducible repeat (first | apply Kd.R_alloc | apply Kd.R_drewN | apply Kd.R_drew)); exact HO276.out) (Kd.R_typed (by (with_reducible repeat (first | apply Kd.R_alloc | apply Kd.R_drewN | apply Kd.R_drew)); exact HO279.out)) (by decide) hg)
     have n3_ := Aside0.mk (hb)
     have n4_ := Aside0.mk (ho)
     clear BK269
     clear BK270
     clear HO276
     clear HB
     clear HO279
     have BK269 := n0_
     have BK270 := n1_
     have HO276 := n2_
     have HB := n3_
     have HO282 := n4_
     clear n0_ n1_ n2_ n3_ n4_
     clear ho hb hg hat
     obtain ⟨Ao14, co14, eo14⟩ := Kd.R_slice HO282.out
     (first | subst eo14 | (injection eo14 with f1_ f2_ f3_; have f4_ := f1_.symm; have f5_ := f3_.symm; clear f1_ f2_ f3_; subst f4_; subst f5_))
     obtain ⟨Ao15, co15, eo15⟩ := Kd.R_slice HO276.out
     (first | subst eo15 | (injection eo15 with f1_ f2_ f3_; have f4_ := f1_.symm; have f5_ := f3_.symm; clear f1_ f2_ f3_; subst f4_; subst f5_))
     refine hK.out _ _ ⟨(blk_cell BK269.out 0).trans rfl, (blk_cell BK269.out 1).trans rfl, (blk_cell BK269.out 2).trans rfl⟩ (fun hHeld => ?_)
     clear hK K
     refine norm_ (a' := ?_) ?_ ?_
     rotate_left
     ·
      show Act.put _ (some 12) _ = _
      simp only [Act.put, List.setIfInBounds_toArray, List.set_cons_zero, List.set_cons_succ, i64_w, i32_w]
      rfl
     refine pure_ (i := 8) (N := some 13) (v := ?_) (a' := ?_) #[true, true, true, true, true, true, true, true, true, false, false] rfl rfl (any_of HT_.out (by kernel_rfl)) (fun _ _ _ h => h) (Or.inl ⟨by rfl, ?_⟩) ?_ ?_
     rotate_left
     ·
      intro w'
      go_simp
      with_reducible rfl
     rotate_left
     ·
      simp only [Act.put, List.setIfInBounds_toArray, List.set_cons_zero, List.set_cons_succ, i64_w, i32_w]
      rfl
     exact norm_ (by first | (simp only [putAll, Act.put, List.setIfInBounds_toArray, List.set_cons_zero, List.set_cons_succ]; done) | (simp only [putAll, Act.put, List.setIfInBounds_toArray, List.set_cons_zero, List.set_cons_succ]; rfl)) (hJ0_3_4_7 (v272, .slice Ao15 y274.length co15, v278, .slice Ao14 y280.length co14) _ ⟨hHeld, (by (with_reducible repeat (first | apply Kd.R_alloc | apply Kd.R_drewN | apply Kd.R_drew)); exact HO276.out), (by (with_reducible repeat (first | apply Kd.R_alloc | apply Kd.R_drewN | apply Kd.R_drew)); exact HO282.out), (by (with_reducible repeat (first | refine blk_drewN ?_ _ | refine blk_drew ?_ | refine blk_alloc ?_ _)); exact BK269.out), (by (with_reducible repeat (first | refine blk_drewN ?_ _ | refine blk_drew ?_ | refine blk_alloc ?_ _)); exact BK270.out), (by repeat (first | (with_reducible first | exact HB.out | apply below_alloc | apply pw_below_drewN | apply below_drew1 | refine below_set ?_ GE269.out | refine below_set ?_ GE270.out) | exact HB.out))⟩)
    skip
    refine box_step ?hg (N := 3) ?hd (cs := #[.slice none 0 0, .slice none 0 0, .slice none 0 0]) (t := 26) ?hr ?_; (case hd => rfl); (case hg => rfl); (case hr => first | (go_simp; done) | (go_simp; rfl))
    intro gb283 hg w13 hbox hb
    have n0_ := Aside0.mk (Kd.R_below (by (with_reducible repeat (first | apply Kd.R_alloc | apply Kd.R_drewN | apply Kd.R_drew)); exact HO276.out) hb)
    have n1_ := Aside0.mk (Kd.R_below (by (with_reducible repeat (first | apply Kd.R_alloc | apply Kd.R_drewN | apply Kd.R_drew)); exact HO279.out) hb)
    have n2_ := Aside0.mk (blk_below (g := gb269) (o := .cells #[.slice A0_0 l0_0.length c0_0, .slice A0_1 l0_1.length c0_1, .slice A0_2 l0_2.length c0_2] 26 (0, 0)) (by (with_reducible repeat (first | refine blk_drewN ?_ _ | refine blk_drew ?_ | refine blk_alloc ?_ _)); exact BK269.out) hb)
    have n3_ := Aside0.mk (blk_below (g := gb270) (o := .cells #[.slice none 0 0, .slice none 0 0, .slice none 0 0] 26 (0, 0)) (by (with_reducible repeat (first | refine blk_drewN ?_ _ | refine blk_drew ?_ | refine blk_alloc ?_ _)); exact BK270.out) hb)
    have n4_ := Aside0.mk (below_step (by repeat (first | (with_reducible first | exact HB.out | apply below_alloc | apply pw_below_drewN | apply below_drew1 | refine below_set ?_ GE269.out | refine below_set ?_ GE270.out) | exact HB.out)) hb)
    have n5_ := Aside0.mk (hbox)
    have n6_ := Aside0.mk ((by rw [hg]; exact (below_size (by repeat (first | (with_reducible first | exact HB.out | apply below_alloc | apply pw_below_drewN | apply below_drew1 | refine below_set ?_ GE269.out | refine below_set ?_ GE270.out) | exact HB.out))) : w.heap.size ≤ gb283))
    have n7_ := Aside0.mk ((by rw [hg]; exact (below_size (by repeat (first | (with_reducible first | exact HB.out | apply below_alloc | apply pw_below_drewN | apply below_drew1 | refine below_set ?_ GE269.out | refine below_set ?_ GE270.out) | exact HB.out))) : w.heap.size ≤ gb283))
    have n8_ := Aside0.mk ((by rw [hg]; exact Nat.ne_of_lt (blk_lt (g := gb269) (o := .cells #[.slice A0_0 l0_0.length c0_0, .slice A0_1 l0_1.length c0_1, .slice A0_2 l0_2.length c0_2] 26 (0, 0)) (by (with_reducible repeat (first | refine blk_drewN ?_ _ | refine blk_drew ?_ | refine blk_alloc ?_ _)); exact BK269.out)) : gb269 ≠ gb283))
    have n9_ := Aside0.mk ((by rw [hg]; exact Nat.ne_of_gt (blk_lt (g := gb269) (o := .cells #[.slice A0_0 l0_0.length c0_0, .slice A0_1 l0_1.length c0_1, .slice A0_2 l0_2.length c0_2] 26 (0, 0)) (by (with_reducible repeat (first | refine blk_drewN ?_ _ | refine blk_drew ?_ | refine blk_alloc ?_ _)); exact BK269.out)) : gb283 ≠ gb269))
    have n10_ := Aside0.mk ((by rw [hg]; exact Nat.ne_of_lt (blk_lt (g := gb270) (o := .cells #[.slice none 0 0, .slice none 0 0, .slice none 0 0] 26 (0, 0)) (by (with_reducible repeat (first | refine blk_drewN ?_ _ | refine blk_drew ?_ | refine blk_alloc ?_ _)); exact BK270.out)) : gb270 ≠ gb283))
    have n11_ := Aside0.mk ((by rw [hg]; exact Nat.ne_of_gt (blk_lt (g := gb270) (o := .cells #[.slice none 0 0, .slice none 0 0, .slice none 0 0] 26 (0, 0)) (by (with_reducible repeat (first | refine blk_drewN ?_ _ | refine blk_drew ?_ | refine blk_alloc ?_ _)); exact BK270.out)) : gb283 ≠ gb270))
    clear HO276
    clear HO279
    clear BK269
    clear BK270
    clear HB
    have HO276 := n0_
    have HO279 := n1_
    have BK269 := n2_
    have BK270 := n3_
    have HB := n4_
    have BK283 := n5_
    have GW283 := n6_
    have GE283 := n7_
    have NB269_283 := n8_
    have NB283_269 := n9_
    have NB270_283 := n10_
    have NB283_270 := n11_
    clear n0_ n1_ n2_ n3_ n4_ n5_ n6_ n7_ n8_ n9_ n10_ n11_
    clear hb hbox hg
    refine hK.out _ _ ⟨(blk_cell BK269.out 0).trans rfl, (blk_cell BK269.out 1).trans rfl, (blk_cell BK269.out 2).trans rfl⟩ (fun hHeld => ?_)
    clear hK K
    refine norm_ (a' := ?_) ?_ ?_
    rotate_left
    ·
     show Act.put _ (some 3) _ = _
     simp only [Act.put, List.setIfInBounds_toArray, List.set_cons_zero, List.set_cons_succ, i64_w, i32_w]
     rfl
    exact norm_ (by first | (simp only [putAll, Act.put, List.setIfInBounds_toArray, List.set_cons_zero, List.set_cons_succ]; done) | (simp only [putAll, Act.put, List.setIfInBounds_toArray, List.set_cons_zero, List.set_cons_succ]; rfl)) (hJ0_3_4_9 (v272, v275, v278, gb283) _ ⟨hHeld, (by (with_reducible repeat (first | apply Kd.R_alloc | apply Kd.R_drewN | apply Kd.R_drew)); exact HO276.out), (by (with_reducible repeat (first | apply Kd.R_alloc | apply Kd.R_drewN | apply Kd.R_drew)); exact HO279.out), (by (with_reducible repeat (first | refine blk_drewN ?_ _ | refine blk_drew ?_ | refine blk_alloc ?_ _)); exact BK269.out), (by (with_reducible repeat (first | refine blk_drewN ?_ _ | refine blk_drew ?_ | refine blk_alloc ?_ _)); exact BK270.out), (by (with_reducible repeat (first | refine blk_drewN ?_ _ | refine blk_drew ?_ | refine blk_alloc ?_ _)); exact BK283.out), GW283.out, GE283.out, NB269_283.out, NB283_269.out, NB270_283.out, NB283_270.out, (by repeat (first | (with_reducible first | exact HB.out | apply below_alloc | apply pw_below_drewN | apply below_drew1 | refine below_set ?_ GE269.out | refine below_set ?_ GE270.out | refine below_set ?_ GE283.out) | exact HB.out))⟩)
   skip
   rintro ⟨v272, v275, v278, gb283⟩ w13 ⟨hS_, h0_, h1_, h2_, h3_, h4_, h5_, h6_, h7_, h8_, h9_, h10_, h11_⟩
   have n0_ : Aside0 (Kd.R (Kd.int .i64) 3 w13 w.heap.size (fun _ => True) v275 y274) := ⟨h0_⟩
   have n1_ : Aside0 (Kd.R k50 50 w13 w.heap.size (fun _ => True) v278 y277) := ⟨h1_⟩
   have n2_ : Aside0 (w13.heap[gb269]? = some (.cells #[.slice A0_0 l0_0.length c0_0, .slice A0_1 l0_1.length c0_1, .slice A0_2 l0_2.length c0_2] 26 (0, 0))) := ⟨h2_⟩
   have n3_ : Aside0 (w13.heap[gb270]? = some (.cells #[.slice none 0 0, .slice none 0 0, .slice none 0 0] 26 (0, 0))) := ⟨h3_⟩
   have n4_ : Aside0 (w13.heap[gb283]? = some (.cells #[.slice none 0 0, .slice none 0 0, .slice none 0 0] 26 (0, 0))) := ⟨h4_⟩
   have n5_ : Aside0 (w.heap.size ≤ gb283) := ⟨h5_⟩
   have n6_ : Aside0 (w.heap.size ≤ gb283) := ⟨h6_⟩
   have n7_ : Aside0 (gb269 ≠ gb283) := ⟨h7_⟩
   have n8_ : Aside0 (gb283 ≠ gb269) := ⟨h8_⟩
   have n9_ : Aside0 (gb270 ≠ gb283) := ⟨h9_⟩
   have n10_ : Aside0 (gb283 ≠ gb270) := ⟨h10_⟩
   have n11_ : Aside0 (Below w.heap.size w w13) := ⟨h11_⟩
   clear BK269
   clear BK270
   clear HB
   clear h0_ h1_ h2_ h3_ h4_ h5_ h6_ h7_ h8_ h9_ h10_ h11_
   have HO276 := n0_
   have HO279 := n1_
   have BK269 := n2_
   have BK270 := n3_
   have BK283 := n4_
   have GW283 := n5_
   have GE283 := n6_
   have NB269_283 := n7_
   have NB283_269 := n8_
   have NB270_283 := n9_
   have NB283_270 := n10_
   have HB := n11_
   clear n0_ n1_ n2_ n3_ n4_ n5_ n6_ n7_ n8_ n9_ n10_ n11_
   have hHeld : w13.cell? ⟨gb269, 0, none⟩ = some (.slice A0_0 l0_0.length c0_0) ∧ w13.cell? ⟨gb269, 1, none⟩ = some (.slice A0_1 l0_1.length c0_1) ∧ w13.cell? ⟨gb269, 2, none⟩ = some (.slice A0_2 l0_2.length c0_2) := hS_
   refine norm_ (a' := ?_) ?_ ?_
   rotate_left
   ·
    simp only [putAll, Act.put, List.setIfInBounds_toArray, List.set_cons_zero, List.set_cons_succ]
    rfl
   refine one_ (i := 7) (N := some 12) #[true, true, true, true, true, true, true, true, false, true, false] rfl rfl (one_of HT_.out (by kernel_rfl)) (by decide) (fun K hK => ?_)
   refine Kd.R_append_rows_step k50 (w0 := w) w.heap.size (by rfl) (.tmp 9) (.tmp 11) 23 50 (.agg #[(.int .i64 0), (.int .i64 0), (.int .i64 0)]) 24 rfl Try.underlying23 info50 rfl (by decide) (by omega) v278 y277 l0_1 _ _ _ (fun _ => True) (fun _ => False) rfl rfl ?aO ?aR (fun _ _ h => h) (fun _ h => h.elim) ?aF ?aB ?aS ?aL ?_
   (case aR => repeat (first | exact (Kd.C_below HR0_1.out HB.out) | (with_reducible refine Kd.C_alloc ?_ _) | (with_reducible refine Kd.C_drewN ?_ _) | (with_reducible refine Kd.C_drew ?_)))
   (case aB => exact (by repeat (first | (with_reducible first | exact HB.out | apply below_alloc | apply pw_below_drewN | apply below_drew1 | refine below_set ?_ GE269.out | refine below_set ?_ GE270.out | refine below_set ?_ GE283.out) | exact HB.out)))
   (case aF => exact (fun _ _ => trivial))
   (case aO => exact (by (with_reducible repeat (first | apply Kd.R_alloc | apply Kd.R_drewN | apply Kd.R_drew)); exact HO279.out))
   (case aS => exact (below_size (by repeat (first | (with_reducible first | exact HB.out | apply below_alloc | apply pw_below_drewN | apply below_drew1 | refine below_set ?_ GE269.out | refine below_set ?_ GE270.out | refine below_set ?_ GE283.out) | exact HB.out))))
   (case aL => have := LMc3.out; omega)
   intro v281 w14 ho hb hg hat
   rw [← Ny280.out] at ho
   have n0_ := Aside0.mk (blk_grown (g := gb269) (o := .cells #[.slice A0_0 l0_0.length c0_0, .slice A0_1 l0_1.length c0_1, .slice A0_2 l0_2.length c0_2] 26 (0, 0)) (by (with_reducible repeat (first | refine blk_drewN ?_ _ | refine blk_drew ?_ | refine blk_alloc ?_ _)); exact BK269.out) hg (Kd.R_ne HO279.out BK269.out (by decide)))
   have n1_ := Aside0.mk (blk_grown (g := gb270) (o := .cells #[.slice none 0 0, .slice none 0 0, .slice none 0 0] 26 (0, 0)) (by (with_reducible repeat (first | refine blk_drewN ?_ _ | refine blk_drew ?_ | refine blk_alloc ?_ _)); exact BK270.out) hg (Kd.R_ne HO279.out BK270.out (by decide)))
   have n2_ := Aside0.mk (Kd.R_over' (by (with_reducible repeat (first | apply Kd.R_alloc | apply Kd.R_drewN | apply Kd.R_drew)); exact HO276.out) (Kd.R_typed (by (with_reducible repeat (first | apply Kd.R_alloc | apply Kd.R_drewN | apply Kd.R_drew)); exact HO279.out)) (by decide) hg)
   have n3_ := Aside0.mk (blk_grown (g := gb283) (o := .cells #[.slice none 0 0, .slice none 0 0, .slice none 0 0] 26 (0, 0)) (by (with_reducible repeat (first | refine blk_drewN ?_ _ | refine blk_drew ?_ | refine blk_alloc ?_ _)); exact BK283.out) hg (Kd.R_ne HO279.out BK283.out (by decide)))
   have n4_ := Aside0.mk (hb)
   have n5_ := Aside0.mk (ho)
   clear BK269
   clear BK270
   clear HO276
   clear BK283
   clear HB
   clear HO279
   have BK269 := n0_
   have BK270 := n1_
   have HO276 := n2_
   have BK283 := n3_
   have HB := n4_
   have HO282 := n5_
   clear n0_ n1_ n2_ n3_ n4_ n5_
   clear ho hb hg hat
   obtain ⟨Ao15, co15, eo15⟩ := Kd.R_slice HO282.out
   (first | subst eo15 | (injection eo15 with f1_ f2_ f3_; have f4_ := f1_.symm; have f5_ := f3_.symm; clear f1_ f2_ f3_; subst f4_; subst f5_))
   obtain ⟨Ao16, co16, eo16⟩ := Kd.R_slice HO276.out
   (first | subst eo16 | (injection eo16 with f1_ f2_ f3_; have f4_ := f1_.symm; have f5_ := f3_.symm; clear f1_ f2_ f3_; subst f4_; subst f5_))
   refine hK.out _ _ ⟨(blk_cell BK269.out 0).trans rfl, (blk_cell BK269.out 1).trans rfl, (blk_cell BK269.out 2).trans rfl⟩ (fun hHeld => ?_)
   clear hK K
   refine norm_ (a' := ?_) ?_ ?_
   rotate_left
   ·
    show Act.put _ (some 12) _ = _
    simp only [Act.put, List.setIfInBounds_toArray, List.set_cons_zero, List.set_cons_succ, i64_w, i32_w]
    rfl
   refine pure_ (i := 8) (N := some 13) (v := ?_) (a' := ?_) #[true, true, true, true, true, true, true, true, true, true, false] rfl rfl (any_of HT_.out (by kernel_rfl)) (fun _ _ _ h => h) (Or.inl ⟨by rfl, ?_⟩) ?_ ?_
   rotate_left
   ·
    intro w'
    go_simp
    with_reducible rfl
   rotate_left
   ·
    simp only [Act.put, List.setIfInBounds_toArray, List.set_cons_zero, List.set_cons_succ, i64_w, i32_w]
    rfl
   exact norm_ (by first | (simp only [putAll, Act.put, List.setIfInBounds_toArray, List.set_cons_zero, List.set_cons_succ]; done) | (simp only [putAll, Act.put, List.setIfInBounds_toArray, List.set_cons_zero, List.set_cons_succ]; rfl)) (hJ0_3_4_7_9 (v272, .slice Ao16 y274.length co16, v278, .slice Ao15 y280.length co15, gb283) _ ⟨hHeld, (by (with_reducible repeat (first | apply Kd.R_alloc | apply Kd.R_drewN | apply Kd.R_drew)); exact HO276.out), (by (with_reducible repeat (first | apply Kd.R_alloc | apply Kd.R_drewN | apply Kd.R_drew)); exact HO282.out), (by (with_reducible repeat (first | refine blk_drewN ?_ _ | refine blk_drew ?_ | refine blk_alloc ?_ _)); exact BK269.out), (by (with_reducible repeat (first | refine blk_drewN ?_ _ | refine blk_drew ?_ | refine blk_alloc ?_ _)); exact BK270.out), (by (with_reducible repeat (first | refine blk_drewN ?_ _ | refine blk_drew ?_ | refine blk_alloc ?_ _)); exact BK283.out), GW283.out, GE283.out, NB269_283.out, NB283_269.out, NB270_283.out, NB283_270.out, (by repeat (first | (with_reducible first | exact HB.out | apply below_alloc | apply pw_below_drewN | apply below_drew1 | refine below_set ?_ GE269.out | refine below_set ?_ GE270.out | refine below_set ?_ GE283.out) | exact HB.out))⟩)
  skip
  rintro ⟨v272, v275, v278, v281⟩ w15 ⟨hS_, h0_, h1_, h2_, h3_, h4_⟩
  have n0_ : Aside0 (Kd.R (Kd.int .i64) 3 w15 w.heap.size (fun _ => True) v275 y274) := ⟨h0_⟩
  have n1_ : Aside0 (Kd.R k50 50 w15 w.heap.size (fun _ => True) v281 y280) := ⟨h1_⟩
  have n2_ : Aside0 (w15.heap[gb269]? = some (.cells #[.slice A0_0 l0_0.length c0_0, .slice A0_1 l0_1.length c0_1, .slice A0_2 l0_2.length c0_2] 26 (0, 0))) := ⟨h2_⟩
  have n3_ : Aside0 (w15.heap[gb270]? = some (.cells #[.slice none 0 0, .slice none 0 0, .slice none 0 0] 26 (0, 0))) := ⟨h3_⟩
  have n4_ : Aside0 (Below w.heap.size w w15) := ⟨h4_⟩
  clear BK269
  clear BK270
  clear HB
  clear h0_ h1_ h2_ h3_ h4_
  have HO276 := n0_
  have HO282 := n1_
  have BK269 := n2_
  have BK270 := n3_
  have HB := n4_
  clear n0_ n1_ n2_ n3_ n4_
  have hHeld : w15.cell? ⟨gb269, 0, none⟩ = some (.slice A0_0 l0_0.length c0_0) ∧ w15.cell? ⟨gb269, 1, none⟩ = some (.slice A0_1 l0_1.length c0_1) ∧ w15.cell? ⟨gb269, 2, none⟩ = some (.slice A0_2 l0_2.length c0_2) := hS_
  obtain ⟨Ao16, co16, eo16⟩ := Kd.R_slice HO282.out
  (first | subst eo16 | (injection eo16 with f1_ f2_ f3_; have f4_ := f1_.symm; have f5_ := f3_.symm; clear f1_ f2_ f3_; subst f4_; subst f5_))
  obtain ⟨Ao17, co17, eo17⟩ := Kd.R_slice HO276.out
  (first | subst eo17 | (injection eo17 with f1_ f2_ f3_; have f4_ := f1_.symm; have f5_ := f3_.symm; clear f1_ f2_ f3_; subst f4_; subst f5_))
  refine norm_ (a' := ?_) ?_ ?_
  rotate_left
  ·
   simp only [putAll, Act.put, List.setIfInBounds_toArray, List.set_cons_zero, List.set_cons_succ]
   rfl
  refine one_ (i := 9) (N := some 3) #[true, true, true, true, true, true, true, true, true, true, false] rfl rfl (one_of HT_.out (by kernel_rfl)) (by decide) (fun K hK => ?_)
  refine box_step ?hg (N := 3) ?hd (cs := #[.slice none 0 0, .slice none 0 0, .slice none 0 0]) (t := 26) ?hr ?_; (case hd => rfl); (case hg => rfl); (case hr => first | (go_simp; done) | (go_simp; rfl))
  intro gb283 hg w18 hbox hb
  have n0_ := Aside0.mk (Kd.R_below (by (with_reducible repeat (first | apply Kd.R_alloc | apply Kd.R_drewN | apply Kd.R_drew)); exact HO276.out) hb)
  have n1_ := Aside0.mk (Kd.R_below (by (with_reducible repeat (first | apply Kd.R_alloc | apply Kd.R_drewN | apply Kd.R_drew)); exact HO282.out) hb)
  have n2_ := Aside0.mk (blk_below (g := gb269) (o := .cells #[.slice A0_0 l0_0.length c0_0, .slice A0_1 l0_1.length c0_1, .slice A0_2 l0_2.length c0_2] 26 (0, 0)) (by (with_reducible repeat (first | refine blk_drewN ?_ _ | refine blk_drew ?_ | refine blk_alloc ?_ _)); exact BK269.out) hb)
  have n3_ := Aside0.mk (blk_below (g := gb270) (o := .cells #[.slice none 0 0, .slice none 0 0, .slice none 0 0] 26 (0, 0)) (by (with_reducible repeat (first | refine blk_drewN ?_ _ | refine blk_drew ?_ | refine blk_alloc ?_ _)); exact BK270.out) hb)
  have n4_ := Aside0.mk (below_step (by repeat (first | (with_reducible first | exact HB.out | apply below_alloc | apply pw_below_drewN | apply below_drew1 | refine below_set ?_ GE269.out | refine below_set ?_ GE270.out) | exact HB.out)) hb)
  have n5_ := Aside0.mk (hbox)
  have n6_ := Aside0.mk ((by rw [hg]; exact (below_size (by repeat (first | (with_reducible first | exact HB.out | apply below_alloc | apply pw_below_drewN | apply below_drew1 | refine below_set ?_ GE269.out | refine below_set ?_ GE270.out) | exact HB.out))) : w.heap.size ≤ gb283))
  have n7_ := Aside0.mk ((by rw [hg]; exact (below_size (by repeat (first | (with_reducible first | exact HB.out | apply below_alloc | apply pw_below_drewN | apply below_drew1 | refine below_set ?_ GE269.out | refine below_set ?_ GE270.out) | exact HB.out))) : w.heap.size ≤ gb283))
  have n8_ := Aside0.mk ((by rw [hg]; exact Nat.ne_of_lt (blk_lt (g := gb269) (o := .cells #[.slice A0_0 l0_0.length c0_0, .slice A0_1 l0_1.length c0_1, .slice A0_2 l0_2.length c0_2] 26 (0, 0)) (by (with_reducible repeat (first | refine blk_drewN ?_ _ | refine blk_drew ?_ | refine blk_alloc ?_ _)); exact BK269.out)) : gb269 ≠ gb283))
  have n9_ := Aside0.mk ((by rw [hg]; exact Nat.ne_of_gt (blk_lt (g := gb269) (o := .cells #[.slice A0_0 l0_0.length c0_0, .slice A0_1 l0_1.length c0_1, .slice A0_2 l0_2.length c0_2] 26 (0, 0)) (by (with_reducible repeat (first | refine blk_drewN ?_ _ | refine blk_drew ?_ | refine blk_alloc ?_ _)); exact BK269.out)) : gb283 ≠ gb269))
  have n10_ := Aside0.mk ((by rw [hg]; exact Nat.ne_of_lt (blk_lt (g := gb270) (o := .cells #[.slice none 0 0, .slice none 0 0, .slice none 0 0] 26 (0, 0)) (by (with_reducible repeat (first | refine blk_drewN ?_ _ | refine blk_drew ?_ | refine blk_alloc ?_ _)); exact BK270.out)) : gb270 ≠ gb283))
  have n11_ := Aside0.mk ((by rw [hg]; exact Nat.ne_of_gt (blk_lt (g := gb270) (o := .cells #[.slice none 0 0, .slice none 0 0, .slice none 0 0] 26 (0, 0)) (by (with_reducible repeat (first | refine blk_drewN ?_ _ | refine blk_drew ?_ | refine blk_alloc ?_ _)); exact BK270.out)) : gb283 ≠ gb270))
  clear HO276
  clear HO282
  clear BK269
  clear BK270
  clear HB
  have HO276 := n0_
  have HO282 := n1_
  have BK269 := n2_
  have BK270 := n3_
  have HB := n4_
  have BK283 := n5_
  have GW283 := n6_
  have GE283 := n7_
  have NB269_283 := n8_
  have NB283_269 := n9_
  have NB270_283 := n10_
  have NB283_270 := n11_
  clear n0_ n1_ n2_ n3_ n4_ n5_ n6_ n7_ n8_ n9_ n10_ n11_
  clear hb hbox hg
  refine hK.out _ _ ⟨(blk_cell BK269.out 0).trans rfl, (blk_cell BK269.out 1).trans rfl, (blk_cell BK269.out 2).trans rfl⟩ (fun hHeld => ?_)
  clear hK K
  refine norm_ (a' := ?_) ?_ ?_
  rotate_left
  ·
   show Act.put _ (some 3) _ = _
   simp only [Act.put, List.setIfInBounds_toArray, List.set_cons_zero, List.set_cons_succ, i64_w, i32_w]
   rfl
  exact norm_ (by first | (simp only [putAll, Act.put, List.setIfInBounds_toArray, List.set_cons_zero, List.set_cons_succ]; done) | (simp only [putAll, Act.put, List.setIfInBounds_toArray, List.set_cons_zero, List.set_cons_succ]; rfl)) (hJ0_3_4_7_9 (v272, .slice Ao17 y274.length co17, v278, .slice Ao16 y280.length co16, gb283) _ ⟨hHeld, (by (with_reducible repeat (first | apply Kd.R_alloc | apply Kd.R_drewN | apply Kd.R_drew)); exact HO276.out), (by (with_reducible repeat (first | apply Kd.R_alloc | apply Kd.R_drewN | apply Kd.R_drew)); exact HO282.out), (by (with_reducible repeat (first | refine blk_drewN ?_ _ | refine blk_drew ?_ | refine blk_alloc ?_ _)); exact BK269.out), (by (with_reducible repeat (first | refine blk_drewN ?_ _ | refine blk_drew ?_ | refine blk_alloc ?_ _)); exact BK270.out), (by (with_reducible repeat (first | refine blk_drewN ?_ _ | refine blk_drew ?_ | refine blk_alloc ?_ _)); exact BK283.out), GW283.out, GE283.out, NB269_283.out, NB283_269.out, NB270_283.out, NB283_270.out, (by repeat (first | (with_reducible first | exact HB.out | apply below_alloc | apply pw_below_drewN | apply below_drew1 | refine below_set ?_ GE269.out | refine below_set ?_ GE270.out | refine below_set ?_ GE283.out) | exact HB.out))⟩)
 rintro ⟨v272, v275, v278, v281, gb283⟩ w16 ⟨hS_, h0_, h1_, h2_, h3_, h4_, h5_, h6_, h7_, h8_, h9_, h10_, h11_⟩
 have n0_ : Aside0 (Kd.R (Kd.int .i64) 3 w16 w.heap.size (fun _ => True) v275 y274) := ⟨h0_⟩
 have n1_ : Aside0 (Kd.R k50 50 w16 w.heap.size (fun _ => True) v281 y280) := ⟨h1_⟩
 have n2_ : Aside0 (w16.heap[gb269]? = some (.cells #[.slice A0_0 l0_0.length c0_0, .slice A0_1 l0_1.length c0_1, .slice A0_2 l0_2.length c0_2] 26 (0, 0))) := ⟨h2_⟩
 have n3_ : Aside0 (w16.heap[gb270]? = some (.cells #[.slice none 0 0, .slice none 0 0, .slice none 0 0] 26 (0, 0))) := ⟨h3_⟩
 have n4_ : Aside0 (w16.heap[gb283]? = some (.cells #[.slice none 0 0, .slice none 0 0, .slice none 0 0] 26 (0, 0))) := ⟨h4_⟩
 have n5_ : Aside0 (w.heap.size ≤ gb283) := ⟨h5_⟩
 have n6_ : Aside0 (w.heap.size ≤ gb283) := ⟨h6_⟩
 have n7_ : Aside0 (gb269 ≠ gb283) := ⟨h7_⟩
 have n8_ : Aside0 (gb283 ≠ gb269) := ⟨h8_⟩
 have n9_ : Aside0 (gb270 ≠ gb283) := ⟨h9_⟩
 have n10_ : Aside0 (gb283 ≠ gb270) := ⟨h10_⟩
 have n11_ : Aside0 (Below w.heap.size w w16) := ⟨h11_⟩
 clear BK269
 clear BK270
 clear HB
 clear h0_ h1_ h2_ h3_ h4_ h5_ h6_ h7_ h8_ h9_ h10_ h11_
 have HO276 := n0_
 have HO282 := n1_
 have BK269 := n2_
 have BK270 := n3_
 have BK283 := n4_
 have GW283 := n5_
 have GE283 := n6_
 have NB269_283 := n7_
 have NB283_269 := n8_
 have NB270_283 := n9_
 have NB283_270 := n10_
 have HB := n11_
 clear n0_ n1_ n2_ n3_ n4_ n5_ n6_ n7_ n8_ n9_ n10_ n11_
 have hHeld : w16.cell? ⟨gb269, 0, none⟩ = some (.slice A0_0 l0_0.length c0_0) ∧ w16.cell? ⟨gb269, 1, none⟩ = some (.slice A0_1 l0_1.length c0_1) ∧ w16.cell? ⟨gb269, 2, none⟩ = some (.slice A0_2 l0_2.length c0_2) := hS_
 obtain ⟨Ao17, co17, eo17⟩ := Kd.R_slice HO282.out
 (first | subst eo17 | (injection eo17 with f1_ f2_ f3_; have f4_ := f1_.symm; have f5_ := f3_.symm; clear f1_ f2_ f3_; subst f4_; subst f5_))
 obtain ⟨Ao18, co18, eo18⟩ := Kd.R_slice HO276.out
 (first | subst eo18 | (injection eo18 with f1_ f2_ f3_; have f4_ := f1_.symm; have f5_ := f3_.symm; clear f1_ f2_ f3_; subst f4_; subst f5_))
 refine norm_ (a' := ?_) ?_ ?_
 rotate_left
 ·
  simp only [putAll, Act.put, List.setIfInBounds_toArray, List.set_cons_zero, List.set_cons_succ]
  rfl
 refine one_ (i := 10) (N := none) #[true, true, true, true, true, true, true, true, true, true, true] rfl rfl (one_of HT_.out (by kernel_rfl)) (by decide) (fun K hK => ?_)
 have hs19 : w16.cell? ⟨gb283, 0, none⟩ = some (.slice none 0 0) := (blk_cell BK283.out 0).trans rfl
 have hfs19 := blk_frozen BK283.out 0
 have hns19_0 := NB269_283.out
 have hns19_1 := NB270_283.out
 have hms19_0 := NB283_269.out
 have hms19_1 := NB283_270.out
 have hs20 : w16.cell? ⟨gb283, 1, none⟩ = some (.slice none 0 0) := (blk_cell BK283.out 1).trans rfl
 have hfs20 := blk_frozen BK283.out 1
 have hns20_0 := NB269_283.out
 have hns20_1 := NB270_283.out
 have hms20_0 := NB283_269.out
 have hms20_1 := NB283_270.out
 have hs21 : w16.cell? ⟨gb283, 2, none⟩ = some (.slice none 0 0) := (blk_cell BK283.out 2).trans rfl
 have hfs21 := blk_frozen BK283.out 2
 have hns21_0 := NB269_283.out
 have hns21_1 := NB270_283.out
 have hms21_0 := NB283_269.out
 have hms21_1 := NB283_270.out
 refine skip_ (w1 := ?_) (by rfl) rfl ?_ ?_
 rotate_left
 ·
  go_simp
  rfl
 refine hK.out _ _ ⟨((cell_far (p := ⟨gb283, _, none⟩) NB269_283.out _).trans (((cell_far (p := ⟨gb283, _, none⟩) NB269_283.out _).trans (((cell_far (p := ⟨gb283, _, none⟩) NB269_283.out _).trans (hHeld.1)))))), ((cell_far (p := ⟨gb283, _, none⟩) NB269_283.out _).trans (((cell_far (p := ⟨gb283, _, none⟩) NB269_283.out _).trans (((cell_far (p := ⟨gb283, _, none⟩) NB269_283.out _).trans (hHeld.2.1)))))), ((cell_far (p := ⟨gb283, _, none⟩) NB269_283.out _).trans (((cell_far (p := ⟨gb283, _, none⟩) NB269_283.out _).trans (((cell_far (p := ⟨gb283, _, none⟩) NB269_283.out _).trans (hHeld.2.2))))))⟩ (fun hHeld => ?_)
 clear hK K
 refine done_ (done_of HT_.out (by kernel_rfl)) ?_
 try go_wp2
 go_loopg [4] k (fun kq v4 w' => ∃ (x4_1 : Int) (x284002_1 : List (List Int)) (u284002 : Value), v4 = .int .i64 x4_1 ∧ Aside0 (laganref04_Copied.l0 kq x4_1 l0_0 l0_1 l0_2 y274 y280 x284002_1 = some (r1, r2, r3)) ∧ Aside0 (kq ≤ k) ∧ Aside0 (Kd.R (Kd.int .i64) 3 w' w.heap.size (fun _ => True) (.slice Ao18 y274.length co18) y274) ∧ Aside0 (Kd.R k50 50 w' w.heap.size (fun _ => True) (.slice Ao17 y280.length co17) y280) ∧ Aside0 (Kd.S (Kd.slice 3 (Kd.int .i64)) 22 w' w.heap.size (fun k_ => some k_ ≠ ((.slice Ao18 y274.length co18) : Value).ownBlock) u284002 x284002_1) ∧ Aside0 (w'.heap[gb269]? = some (.cells #[(.slice A0_0 l0_0.length c0_0), (.slice A0_1 l0_1.length c0_1), (.slice A0_2 l0_2.length c0_2)] 26 (0, 0))) ∧ Aside0 (w'.heap[gb270]? = some (.cells #[(.slice none 0 0), (.slice none 0 0), (.slice none 0 0)] 26 (0, 0))) ∧ Aside0 (w'.heap[gb283]? = some (.cells #[(.slice Ao18 y274.length co18), (.slice Ao17 y280.length co17), u284002] 26 (0, 0))) ∧ Aside0 (Below w.heap.size w w'))
 case atStart => exact ⟨(0), (([] : List (List Int))), (.slice none 0 0), (by first | rfl | (simp; done) | (simp [*]; done)), H', ⟨Nat.le_refl _⟩, ⟨by (with_reducible repeat (first | apply Kd.R_alloc | apply Kd.R_drewN | apply Kd.R_drew)); exact Kd.R_mono (Kd.R_far (p := ⟨gb283, 2, none⟩) (Kd.R_far (p := ⟨gb283, 1, none⟩) (Kd.R_far (p := ⟨gb283, 0, none⟩) (Kd.R_types HO276.out BK283.out (by decide)) (fun _ hk => hk.2) (.slice Ao18 y274.length co18)) (fun _ hk => hk.2) (.slice Ao17 y280.length co17)) (fun _ hk => hk.2) (.slice none 0 0)) (fun _ hk => trivial)⟩, ⟨by (with_reducible repeat (first | apply Kd.R_alloc | apply Kd.R_drewN | apply Kd.R_drew)); exact Kd.R_mono (Kd.R_far (p := ⟨gb283, 2, none⟩) (Kd.R_far (p := ⟨gb283, 1, none⟩) (Kd.R_far (p := ⟨gb283, 0, none⟩) (Kd.R_types HO282.out BK283.out (by decide)) (fun _ hk => hk.2) (.slice Ao18 y274.length co18)) (fun _ hk => hk.2) (.slice Ao17 y280.length co17)) (fun _ hk => hk.2) (.slice none 0 0)) (fun _ hk => trivial)⟩, ⟨by first | exact Kd.S_nil _ _ _ _ _ | exact Kd.N_nil _ _ _ _ _ | exact Kd.V_nil _ _ _ _ _ | exact Kd.Q_nil _ _ _ _ _ | exact Kd.R_nil _ _ _ _ _⟩, ⟨by (with_reducible repeat (first | refine blk_drewN ?_ _ | refine blk_drew ?_ | refine blk_alloc ?_ _)); refine blk_far ?_ NB269_283.out _; (with_reducible repeat (first | refine blk_drewN ?_ _ | refine blk_drew ?_ | refine blk_alloc ?_ _)); refine blk_far ?_ NB269_283.out _; (with_reducible repeat (first | refine blk_drewN ?_ _ | refine blk_drew ?_ | refine blk_alloc ?_ _)); refine blk_far ?_ NB269_283.out _; (with_reducible repeat (first | refine blk_drewN ?_ _ | refine blk_drew ?_ | refine blk_alloc ?_ _)); exact BK269.out⟩, ⟨by (with_reducible repeat (first | refine blk_drewN ?_ _ | refine blk_drew ?_ | refine blk_alloc ?_ _)); refine blk_far ?_ NB270_283.out _; (with_reducible repeat (first | refine blk_drewN ?_ _ | refine blk_drew ?_ | refine blk_alloc ?_ _)); refine blk_far ?_ NB270_283.out _; (with_reducible repeat (first | refine blk_drewN ?_ _ | refine blk_drew ?_ | refine blk_alloc ?_ _)); refine blk_far ?_ NB270_283.out _; (with_reducible repeat (first | refine blk_drewN ?_ _ | refine blk_drew ?_ | refine blk_alloc ?_ _)); exact BK270.out⟩, ⟨by (with_reducible repeat (first | refine blk_drewN ?_ _ | refine blk_drew ?_ | refine blk_alloc ?_ _)); refine blk_put (cs := #[.slice Ao18 y274.length co18, .slice Ao17 y280.length co17, .slice none 0 0]) ?_ 2 _ rfl; (with_reducible repeat (first | refine blk_drewN ?_ _ | refine blk_drew ?_ | refine blk_alloc ?_ _)); refine blk_put (cs := #[.slice Ao18 y274.length co18, .slice none 0 0, .slice none 0 0]) ?_ 1 _ rfl; (with_reducible repeat (first | refine blk_drewN ?_ _ | refine blk_drew ?_ | refine blk_alloc ?_ _)); refine blk_put (cs := #[.slice none 0 0, .slice none 0 0, .slice none 0 0]) ?_ 0 _ rfl; (with_reducible repeat (first | refine blk_drewN ?_ _ | refine blk_drew ?_ | refine blk_alloc ?_ _)); exact BK283.out⟩, ⟨by repeat (first | (with_reducible first | exact HB.out | apply below_alloc | apply pw_below_drewN | apply below_drew1 | refine below_set ?_ GE269.out | refine below_set ?_ GE270.out | refine below_set ?_ GE283.out) | exact HB.out)⟩⟩
 clear H'
 try clear c2
 try clear p2
 try clear c3
 obtain ⟨x4_1, x284002_1, u284002, rfl, HA, HK1, HO_284000, HO_284001, HO_284002, BK269, BK270, BK283, HB⟩ := hrel
 cases gk with
 | zero => exact absurd HA.out (by simp [laganref04_Copied.l0])
 | succ k1 =>
  have H := HA.out
  clear HA
  simp only [laganref04_Copied.l0] at H
  by_cases c22 : x4_1 < (l0_2.length : Int)
  rotate_left
  ·
   rw [if_neg c22] at H
   have c22b0 : decide (x4_1 < (l0_2.length : Int)) = false := decide_eq_false c22
   clear c22
   simp only [Option.some.injEq, Prod.mk.injEq] at H
   obtain ⟨rfl, rfl, rfl⟩ := H
   have hnb37 := NB269_270.out
   have hnc37 := NB270_269.out
   have hnb38 := NB269_283.out
   have hnc38 := NB283_269.out
   have hcz39_0 : wr.cell? ⟨gb269, 0, none⟩ = some (.slice A0_0 l0_0.length c0_0) := (blk_cell BK269.out 0).trans rfl
   have hcz39_1 : wr.cell? ⟨gb269, 1, none⟩ = some (.slice A0_1 l0_1.length c0_1) := (blk_cell BK269.out 1).trans rfl
   have hcz39_2 : wr.cell? ⟨gb269, 2, none⟩ = some (.slice A0_2 l0_2.length c0_2) := (blk_cell BK269.out 2).trans rfl
   have hfz39_0 := blk_frozen BK269.out 0
   have hfz39_1 := blk_frozen BK269.out 1
   have hfz39_2 := blk_frozen BK269.out 2
   have hnb40 := NB283_270.out
   have hnc40 := NB270_283.out
   have hcz41_0 : wr.cell? ⟨gb283, 0, none⟩ = some (.slice Ao18 y274.length co18) := (blk_cell BK283.out 0).trans rfl
   have hcz41_1 : wr.cell? ⟨gb283, 1, none⟩ = some (.slice Ao17 y280.length co17) := (blk_cell BK283.out 1).trans rfl
   have hcz41_2 : wr.cell? ⟨gb283, 2, none⟩ = some (u284002) := (blk_cell BK283.out 2).trans rfl
   have hfz41_0 := blk_frozen BK283.out 0
   have hfz41_1 := blk_frozen BK283.out 1
   have hfz41_2 := blk_frozen BK283.out 2
   have hcz42_0 : wr.cell? ⟨gb270, 0, none⟩ = some (.slice none 0 0) := (blk_cell BK270.out 0).trans rfl
   have hcz42_1 : wr.cell? ⟨gb270, 1, none⟩ = some (.slice none 0 0) := (blk_cell BK270.out 1).trans rfl
   have hcz42_2 : wr.cell? ⟨gb270, 2, none⟩ = some (.slice none 0 0) := (blk_cell BK270.out 2).trans rfl
   have hfz42_0 := blk_frozen BK270.out 0
   have hfz42_1 := blk_frozen BK270.out 1
   have hfz42_2 := blk_frozen BK270.out 2
   obtain ⟨Ao43, co43, eo43⟩ := Kd.S_slice HO_284002.out
   subst eo43
   go_wp2
   refine bodyPost_ret (results_cell_row rfl _ _ gb270 26 #[.slice Ao18 y274.length co18, .slice Ao17 y280.length co17, .slice Ao43 x284002_1.length co43] (0, 0) _ rfl (by (with_reducible repeat (first | refine blk_drewN ?_ _ | refine blk_drew ?_ | refine blk_alloc ?_ _)); refine blk_put (cs := #[.slice Ao18 y274.length co18, .slice Ao17 y280.length co17, .slice none 0 0]) ?_ 2 _ rfl; (with_reducible repeat (first | refine blk_drewN ?_ _ | refine blk_drew ?_ | refine blk_alloc ?_ _)); refine blk_put (cs := #[.slice Ao18 y274.length co18, .slice none 0 0, .slice none 0 0]) ?_ 1 _ rfl; (with_reducible repeat (first | refine blk_drewN ?_ _ | refine blk_drew ?_ | refine blk_alloc ?_ _)); refine blk_put (cs := #[.slice none 0 0, .slice none 0 0, .slice none 0 0]) ?_ 0 _ rfl; (with_reducible repeat (first | refine blk_drewN ?_ _ | refine blk_drew ?_ | refine blk_alloc ?_ _)); exact BK270.out) Try.underlying26 rfl (by kernel_rfl)) rfl ?_
   exact ⟨_, _, _, by first | rfl | (simp [errW_none, errW_some] <;> rfl) | (simp [*, errW_none, errW_some] <;> rfl), by (with_reducible repeat (first | apply Kd.R_alloc | apply Kd.R_drewN | apply Kd.R_drew)); exact Kd.R_mono (Kd.R_far (p := ⟨gb270, 2, none⟩) (Kd.R_far (p := ⟨gb270, 1, none⟩) (Kd.R_far (p := ⟨gb270, 0, none⟩) (Kd.R_types HO_284000.out BK270.out (by decide)) (fun _ hk => hk.2) (.slice Ao18 y274.length co18)) (fun _ hk => hk.2) (.slice Ao17 y280.length co17)) (fun _ hk => hk.2) (.slice Ao43 x284002_1.length co43)) (fun _ hk => trivial), by (with_reducible repeat (first | apply Kd.R_alloc | apply Kd.R_drewN | apply Kd.R_drew)); exact Kd.R_mono (Kd.R_far (p := ⟨gb270, 2, none⟩) (Kd.R_far (p := ⟨gb270, 1, none⟩) (Kd.R_far (p := ⟨gb270, 0, none⟩) (Kd.R_types HO_284001.out BK270.out (by decide)) (fun _ hk => hk.2) (.slice Ao18 y274.length co18)) (fun _ hk => hk.2) (.slice Ao17 y280.length co17)) (fun _ hk => hk.2) (.slice Ao43 x284002_1.length co43)) (fun _ hk => trivial), by (with_reducible repeat (first | apply Kd.S_alloc | apply Kd.S_drewN | apply Kd.S_drew)); exact Kd.S_mono (Kd.S_far (p := ⟨gb270, 2, none⟩) (Kd.S_far (p := ⟨gb270, 1, none⟩) (Kd.S_far (p := ⟨gb270, 0, none⟩) (Kd.S_types HO_284002.out BK270.out (by decide)) (fun _ hk => hk.2) (.slice Ao18 y274.length co18)) (fun _ hk => hk.2) (.slice Ao17 y280.length co17)) (fun _ hk => hk.2) (.slice Ao43 x284002_1.length co43)) (fun _ hk => hk.1), by repeat (first | (with_reducible first | exact HB.out | apply below_alloc | apply pw_below_drewN | apply below_drew1 | refine below_set ?_ GE269.out | refine below_set ?_ GE270.out | refine below_set ?_ GE283.out) | exact HB.out)⟩
  rw [if_pos c22] at H
  have c22b0 : decide (x4_1 < (l0_2.length : Int)) = true := decide_eq_true c22
  clear c22
  obtain ⟨y284, hy284⟩ : ∃ y_ : List Int, y_ = (([] : List Int)) := ⟨_, rfl⟩
  replace H : (if 0 ≤ x4_1 then (if y284.length + (rd_L1 l0_2 x4_1).length < 17592186044416 then (if x284002_1.length < 5864062014805 then (laganref04_Copied.l0 k1 (wrap64 (x4_1 + 1)) l0_0 l0_1 l0_2 y274 y280 (x284002_1 ++ [(y284 ++ (rd_L1 l0_2 x4_1))])) else (none)) else (none)) else (none)) = some (r1, r2, r3) := by first | (rw [hy284]; with_reducible exact H) | (have H2_ := (Option.bind_some _ _).symm.trans H; rw [hy284]; with_reducible exact H2_) | (have H2_ := (Option.bind_some _ _).symm.trans H; with_reducible exact H2_) | with_reducible exact H | (rw [hy284]; exact H) | exact H
  have Ny284 := Aside0.mk hy284
  clear hy284
  by_cases c23 : 0 ≤ x4_1
  rotate_left
  ·
   rw [if_neg c23] at H
   exact absurd H (by simp)
  rw [if_pos c23] at H
  have c23b0 : decide (0 ≤ x4_1) = true := decide_eq_true c23
  clear c23
  by_cases c24 : y284.length + (rd_L1 l0_2 x4_1).length < 17592186044416
  rotate_left
  ·
   rw [if_neg c24] at H
   exact absurd H (by simp)
  rw [if_pos c24] at H
  have LMc24 := Aside0.mk c24
  clear c24
  obtain ⟨y288, hy288⟩ : ∃ y_ : List Int, y_ = (y284 ++ (rd_L1 l0_2 x4_1)) := ⟨_, rfl⟩
  replace H : (if x284002_1.length < 5864062014805 then (laganref04_Copied.l0 k1 (wrap64 (x4_1 + 1)) l0_0 l0_1 l0_2 y274 y280 (x284002_1 ++ [y288])) else (none)) = some (r1, r2, r3) := by first | (rw [hy288]; with_reducible exact H) | (have H2_ := (Option.bind_some _ _).symm.trans H; rw [hy288]; with_reducible exact H2_) | (have H2_ := (Option.bind_some _ _).symm.trans H; with_reducible exact H2_) | with_reducible exact H | (rw [hy288]; exact H) | exact H
  have Ny288 := Aside0.mk hy288
  clear hy288
  by_cases c25 : x284002_1.length < 5864062014805
  rotate_left
  ·
   rw [if_neg c25] at H
   exact absurd H (by simp)
  rw [if_pos c25] at H
  have LMc25 := Aside0.mk c25
  clear c25
  obtain ⟨y291, hy291⟩ : ∃ y_ : List (List Int), y_ = (x284002_1 ++ [y288]) := ⟨_, rfl⟩
  replace H : (laganref04_Copied.l0 k1 (wrap64 (x4_1 + 1)) l0_0 l0_1 l0_2 y274 y280 y291) = some (r1, r2, r3) := by first | (rw [hy291]; with_reducible exact H) | (have H2_ := (Option.bind_some _ _).symm.trans H; rw [hy291]; with_reducible exact H2_) | (have H2_ := (Option.bind_some _ _).symm.trans H; with_reducible exact H2_) | with_reducible exact H | (rw [hy291]; exact H) | exact H
  have Ny291 := Aside0.mk hy291
  clear hy291
  have H' := Aside0.mk H
  clear H
  have hnb26 := NB269_270.out
  have hnc26 := NB270_269.out
  have hnb27 := NB269_283.out
  have hnc27 := NB283_269.out
  have hcz28_0 : wr.cell? ⟨gb269, 0, none⟩ = some (.slice A0_0 l0_0.length c0_0) := (blk_cell BK269.out 0).trans rfl
  have hcz28_1 : wr.cell? ⟨gb269, 1, none⟩ = some (.slice A0_1 l0_1.length c0_1) := (blk_cell BK269.out 1).trans rfl
  have hcz28_2 : wr.cell? ⟨gb269, 2, none⟩ = some (.slice A0_2 l0_2.length c0_2) := (blk_cell BK269.out 2).trans rfl
  have hfz28_0 := blk_frozen BK269.out 0
  have hfz28_1 := blk_frozen BK269.out 1
  have hfz28_2 := blk_frozen BK269.out 2
  try go_wp2
  have n0_ := Aside0.mk (Kd.R_drew HO_284000.out)
  have n1_ := Aside0.mk (Kd.R_drew HO_284001.out)
  have n2_ := Aside0.mk (Kd.S_drew HO_284002.out)
  have n3_ := Aside0.mk (blk_drew BK269.out)
  have n4_ := Aside0.mk (blk_drew BK270.out)
  have n5_ := Aside0.mk (blk_drew BK283.out)
  have n6_ := Aside0.mk (below_drew1 HB.out)
  clear HO_284000
  clear HO_284001
  clear HO_284002
  clear BK269
  clear BK270
  clear BK283
  clear HB
  have HO_284000 := n0_
  have HO_284001 := n1_
  have HO_284002 := n2_
  have BK269 := n3_
  have BK270 := n4_
  have BK283 := n5_
  have HB := n6_
  clear n0_ n1_ n2_ n3_ n4_ n5_ n6_
  have p287 : 0 ≤ (x4_1 : Int) := of_decide_eq_true (by first | (with_reducible assumption) | assumption)
  have q287 : x4_1 < (l0_2.length : Int) := of_decide_eq_true (by first | (with_reducible assumption) | assumption)
  obtain ⟨ad287, A287_0, c287_0, e287, hx287_0, hl287_0, hi287_0⟩ := at_L1 HR0_2.out x4_1 p287 q287
  have hw287_0 := hx287_0
  cases e287
  replace hx287_0 := (HB.out.cell (World.block_lt_of_cell? w _ hx287_0)).trans hx287_0
  have HR287_0 := Aside0.mk hi287_0
  have HC287_0 := Aside0.mk hl287_0
  clear hi287_0 hl287_0
  replace p287 := eq_true p287
  replace q287 := eq_true q287
  refine start_ (n := 13) (S := fun w' => w'.cell? ⟨gb283, 0, none⟩ = some (.slice Ao18 y274.length co18) ∧ w'.cell? ⟨gb283, 1, none⟩ = some (.slice Ao17 y280.length co17) ∧ w'.cell? ⟨gb283, 2, none⟩ = some (u284002) ∧ w'.cell? ⟨gb269, 0, none⟩ = some (.slice A0_0 l0_0.length c0_0) ∧ w'.cell? ⟨gb269, 1, none⟩ = some (.slice A0_1 l0_1.length c0_1) ∧ w'.cell? ⟨gb269, 2, none⟩ = some (.slice (some ad287) l0_2.length c0_2) ∧ w'.cell? (ad287.add (x4_1).toNat) = some (.slice A287_0 (rd_L1 l0_2 x4_1).length c287_0)) (ds := [12]) #[false, false, false, false, false, false, false, false, false, false, false, false, false] (by kernel_rfl) rfl rfl ⟨(blk_cell BK283.out 0).trans rfl, (blk_cell BK283.out 1).trans rfl, (blk_cell BK283.out 2).trans rfl, (blk_cell BK269.out 0).trans rfl, (blk_cell BK269.out 1).trans rfl, (blk_cell BK269.out 2).trans rfl, ((HB.out.cell (World.block_lt_of_cell? w _ hw287_0)).trans hw287_0)⟩ (fun hHeld => ?_); refine with_tabW laganref04_Copied.tab5 laganref04_Copied.bits5 (fun HT_ HW_ => ?_)
  generalize wr.drew = w29 at HO_284000 HO_284001 HO_284002 BK269 BK270 BK283 HB HR287_0 hx287_0 hHeld ⊢
  refine pure_ (i := 0) (N := some 21) (v := ?_) (a' := ?_) #[true, false, false, false, false, false, false, false, false, false, false, false, false] rfl rfl (any_of HT_.out (by kernel_rfl)) (fun _ _ _ h => h) (Or.inl ⟨by rfl, ?_⟩) ?_ ?_
  rotate_left
  ·
   intro w'
   go_simp
   with_reducible rfl
  rotate_left
  ·
   simp only [Act.put, List.setIfInBounds_toArray, List.set_cons_zero, List.set_cons_succ, i64_w, i32_w]
   rfl
  refine pure_ (i := 3) (N := some 24) (v := ?_) (a' := ?_) #[true, false, false, true, false, false, false, false, false, false, false, false, false] rfl rfl (any_of HT_.out (by kernel_rfl)) (fun _ _ _ h => h) (Or.inl ⟨by rfl, ?_⟩) ?_ ?_
  rotate_left
  ·
   intro w'
   go_simp
   with_reducible rfl
  rotate_left
  ·
   simp only [Act.put, List.setIfInBounds_toArray, List.set_cons_zero, List.set_cons_succ, i64_w, i32_w]
   rfl
  refine pure_ (i := 5) (N := some 26) (v := ?_) (a' := ?_) #[true, false, false, true, false, true, false, false, false, false, false, false, false] rfl rfl (any_of HT_.out (by kernel_rfl)) (fun _ _ _ h => h) (Or.inl ⟨by rfl, ?_⟩) ?_ ?_
  rotate_left
  ·
   intro w'
   go_simp
   with_reducible rfl
  rotate_left
  ·
   simp only [Act.put, List.setIfInBounds_toArray, List.set_cons_zero, List.set_cons_succ, i64_w, i32_w]
   rfl
  refine take_ (i := 1) (N := some 22) (v := ?_) (a' := ?_) #[true, true, false, true, false, true, false, false, false, false, false, false, false] rfl rfl (take_ofW HT_.out HW_.out (by kernel_rfl)) (fun _ _ _ h => h) (Or.inl ⟨by rfl, ?_⟩) hHeld ?_ ?_
  rotate_left
  ·
   rintro w' ⟨s0, s1, s2, s3, s4, s5, s6⟩
   go_simp
   with_reducible rfl
  rotate_left
  ·
   simp only [Act.put, List.setIfInBounds_toArray, List.set_cons_zero, List.set_cons_succ, i64_w, i32_w]
   rfl
  refine take_ (i := 4) (N := some 25) (v := ?_) (a' := ?_) #[true, true, false, true, true, true, false, false, false, false, false, false, false] rfl rfl (take_ofW HT_.out HW_.out (by kernel_rfl)) (fun _ _ _ h => h) (Or.inl ⟨by rfl, ?_⟩) hHeld ?_ ?_
  rotate_left
  ·
   rintro w' ⟨s0, s1, s2, s3, s4, s5, s6⟩
   go_simp
   with_reducible rfl
  rotate_left
  ·
   simp only [Act.put, List.setIfInBounds_toArray, List.set_cons_zero, List.set_cons_succ, i64_w, i32_w]
   rfl
  refine pure_ (i := 6) (N := some 27) (v := ?_) (a' := ?_) #[true, true, false, true, true, true, true, false, false, false, false, false, false] rfl rfl (any_of HT_.out (by kernel_rfl)) (fun _ _ _ h => h) (Or.inl ⟨by rfl, ?_⟩) ?_ ?_
  rotate_left
  ·
   intro w'
   go_simp
   with_reducible rfl
  rotate_left
  ·
   simp only [Act.put, List.setIfInBounds_toArray, List.set_cons_zero, List.set_cons_succ, i64_w, i32_w]
   rfl
  refine take_ (i := 7) (N := some 28) (v := ?_) (a' := ?_) #[true, true, false, true, true, true, true, true, false, false, false, false, false] rfl rfl (take_ofW HT_.out HW_.out (by kernel_rfl)) (fun _ _ _ h => h) (Or.inl ⟨by rfl, ?_⟩) hHeld ?_ ?_
  rotate_left
  ·
   rintro w' ⟨s0, s1, s2, s3, s4, s5, s6⟩
   go_simp
   with_reducible rfl
  rotate_left
  ·
   simp only [Act.put, List.setIfInBounds_toArray, List.set_cons_zero, List.set_cons_succ, i64_w, i32_w]
   rfl
  refine one_ (i := 2) (N := some 23) #[true, true, true, true, true, true, true, true, false, false, false, false, false] rfl rfl (one_of HT_.out (by kernel_rfl)) (by decide) (fun K hK => ?_)
  refine Kd.R_lit_step (Kd.int .i64) _ 3 ?hg (N := 23) ?hd (xs := ([] : List Int)) (inner := []) (ok := fun _ => True) (okp := fun _ => True) ?hr ?hp (fun _ hk => hk) trivial (Below.refl _ _) (Nat.le_refl _) (by simp) ?_; (case hd => rfl); (case hg => rfl); (case hr => first | (go_simp; done) | (go_simp; rfl)); (case hp => exact (Reps.none _ _))
  intro v285 w30 ho31 hb hg_ hnew_
  clear hg_ hnew_
  (first | rw [← Ny284.out] at ho31 | (simp only [Int.reduceToNat] at ho31; rw [← Ny284.out] at ho31))
  have n0_ := Aside0.mk (Kd.R_elder' (by (with_reducible repeat (first | apply Kd.R_alloc | apply Kd.R_drewN | apply Kd.R_drew)); exact HO_284000.out) (Kd.R_base ho31) hb)
  have n1_ := Aside0.mk (Kd.R_below (by (with_reducible repeat (first | apply Kd.R_alloc | apply Kd.R_drewN | apply Kd.R_drew)); exact HO_284001.out) hb)
  have n2_ := Aside0.mk (Kd.S_elder' (by (with_reducible repeat (first | apply Kd.S_alloc | apply Kd.S_drewN | apply Kd.S_drew)); exact HO_284002.out) (Kd.R_base ho31) hb)
  have n3_ := Aside0.mk (Kd.R_lower (Kd.R_new' ho31 (Kd.R_lt (by (with_reducible repeat (first | apply Kd.R_alloc | apply Kd.R_drewN | apply Kd.R_drew)); exact HO_284000.out))) (below_size (by repeat (first | (with_reducible first | exact HB.out | apply below_alloc | apply pw_below_drewN | apply below_drew1 | refine below_set ?_ GE269.out | refine below_set ?_ GE270.out | refine below_set ?_ GE283.out) | exact HB.out))))
  have n4_ := Aside0.mk (blk_below (g := gb269) (o := .cells #[.slice A0_0 l0_0.length c0_0, .slice A0_1 l0_1.length c0_1, .slice (some ad287) l0_2.length c0_2] 26 (0, 0)) (by (with_reducible repeat (first | refine blk_drewN ?_ _ | refine blk_drew ?_ | refine blk_alloc ?_ _)); exact BK269.out) hb)
  have n5_ := Aside0.mk (blk_below (g := gb270) (o := .cells #[.slice none 0 0, .slice none 0 0, .slice none 0 0] 26 (0, 0)) (by (with_reducible repeat (first | refine blk_drewN ?_ _ | refine blk_drew ?_ | refine blk_alloc ?_ _)); exact BK270.out) hb)
  have n6_ := Aside0.mk (blk_below (g := gb283) (o := .cells #[.slice Ao18 y274.length co18, .slice Ao17 y280.length co17, u284002] 26 (0, 0)) (by (with_reducible repeat (first | refine blk_drewN ?_ _ | refine blk_drew ?_ | refine blk_alloc ?_ _)); exact BK283.out) hb)
  have n7_ := Aside0.mk (below_step (by repeat (first | (with_reducible first | exact HB.out | apply below_alloc | apply pw_below_drewN | apply below_drew1 | refine below_set ?_ GE269.out | refine below_set ?_ GE270.out | refine below_set ?_ GE283.out) | exact HB.out)) hb)
  clear HO_284000
  clear HO_284001
  clear HO_284002
  clear BK269
  clear BK270
  clear BK283
  clear HB
  have HO_284000 := n0_
  have HO_284001 := n1_
  have HO_284002 := n2_
  have HO286 := n3_
  have BK269 := n4_
  have BK270 := n5_
  have BK283 := n6_
  have HB := n7_
  clear n0_ n1_ n2_ n3_ n4_ n5_ n6_ n7_
  clear hb ho31
  refine hK.out _ _ ⟨(blk_cell BK283.out 0).trans rfl, (blk_cell BK283.out 1).trans rfl, (blk_cell BK283.out 2).trans rfl, (blk_cell BK269.out 0).trans rfl, (blk_cell BK269.out 1).trans rfl, (blk_cell BK269.out 2).trans rfl, ((HB.out.cell (World.block_lt_of_cell? w _ hw287_0)).trans hw287_0)⟩ (fun hHeld => ?_)
  clear hK K
  refine norm_ (a' := ?_) ?_ ?_
  rotate_left
  ·
   show Act.put _ (some 23) _ = _
   simp only [Act.put, List.setIfInBounds_toArray, List.set_cons_zero, List.set_cons_succ, i64_w, i32_w]
   rfl
  refine one_ (i := 8) (N := some 29) #[true, true, true, true, true, true, true, true, true, false, false, false, false] rfl rfl (one_of HT_.out (by kernel_rfl)) (by decide) (fun K hK => ?_)
  refine Kd.R_append_rows_step (Kd.int .i64) (w0 := w) w.heap.size (by rfl) (.tmp 23) (.tmp 28) 22 3 (.int .i64 0) 8 rfl Try.underlying22 info3 rfl (by decide) (by omega) v285 y284 (rd_L1 l0_2 x4_1) _ _ _ (fun k_ => some k_ ≠ (.slice Ao18 y274.length co18 : Value).ownBlock) (fun _ => False) rfl rfl ?aO ?aR (fun _ _ h => h) (fun _ h => h.elim) ?aF ?aB ?aS ?aL ?_
  (case aR => repeat (first | exact (Kd.C_below HR287_0.out HB.out) | (with_reducible refine Kd.C_alloc ?_ _) | (with_reducible refine Kd.C_drewN ?_ _) | (with_reducible refine Kd.C_drew ?_)))
  (case aB => exact (by repeat (first | (with_reducible first | exact HB.out | apply below_alloc | apply pw_below_drewN | apply below_drew1 | refine below_set ?_ GE269.out | refine below_set ?_ GE270.out | refine below_set ?_ GE283.out) | exact HB.out)))
  (case aF => exact (fun k_ hk => Kd.fresh' (Kd.R_lt (by (with_reducible repeat (first | apply Kd.R_alloc | apply Kd.R_drewN | apply Kd.R_drew)); exact HO_284000.out)) k_ hk))
  (case aO => exact (by (with_reducible repeat (first | apply Kd.R_alloc | apply Kd.R_drewN | apply Kd.R_drew)); exact Kd.R_mono HO286.out (fun _ hk => hk.2)))
  (case aS => exact (below_size (by repeat (first | (with_reducible first | exact HB.out | apply below_alloc | apply pw_below_drewN | apply below_drew1 | refine below_set ?_ GE269.out | refine below_set ?_ GE270.out | refine below_set ?_ GE283.out) | exact HB.out))))
  (case aL => have := LMc24.out; omega)
  intro v289 w32 ho hb hg hat
  rw [← Ny288.out] at ho
  have n0_ := Aside0.mk (Kd.R_after (ok := (fun _ => True)) (by (with_reducible repeat (first | apply Kd.R_alloc | apply Kd.R_drewN | apply Kd.R_drew)); exact HO_284000.out) hg hat)
  have n1_ := Aside0.mk (Kd.R_over' (by (with_reducible repeat (first | apply Kd.R_alloc | apply Kd.R_drewN | apply Kd.R_drew)); exact HO_284001.out) (Kd.R_typed (by (with_reducible repeat (first | apply Kd.R_alloc | apply Kd.R_drewN | apply Kd.R_drew)); exact HO286.out)) (by decide) hg)
  have n2_ := Aside0.mk (Kd.S_after (ok := (fun k_ => some k_ ≠ (.slice Ao18 y274.length co18 : Value).ownBlock)) (by (with_reducible repeat (first | apply Kd.S_alloc | apply Kd.S_drewN | apply Kd.S_drew)); exact HO_284002.out) hg hat)
  have n3_ := Aside0.mk (blk_grown (g := gb269) (o := .cells #[.slice A0_0 l0_0.length c0_0, .slice A0_1 l0_1.length c0_1, .slice (some ad287) l0_2.length c0_2] 26 (0, 0)) (by (with_reducible repeat (first | refine blk_drewN ?_ _ | refine blk_drew ?_ | refine blk_alloc ?_ _)); exact BK269.out) hg (Kd.R_ne HO286.out BK269.out (by decide)))
  have n4_ := Aside0.mk (blk_grown (g := gb270) (o := .cells #[.slice none 0 0, .slice none 0 0, .slice none 0 0] 26 (0, 0)) (by (with_reducible repeat (first | refine blk_drewN ?_ _ | refine blk_drew ?_ | refine blk_alloc ?_ _)); exact BK270.out) hg (Kd.R_ne HO286.out BK270.out (by decide)))
  have n5_ := Aside0.mk (blk_grown (g := gb283) (o := .cells #[.slice Ao18 y274.length co18, .slice Ao17 y280.length co17, u284002] 26 (0, 0)) (by (with_reducible repeat (first | refine blk_drewN ?_ _ | refine blk_drew ?_ | refine blk_alloc ?_ _)); exact BK283.out) hg (Kd.R_ne HO286.out BK283.out (by decide)))
  have n6_ := Aside0.mk (hb)
  have n7_ := Aside0.mk (ho)
  clear HO_284000
  clear HO_284001
  clear HO_284002
  clear BK269
  clear BK270
  clear BK283
  clear HB
  clear HO286
  have HO_284000 := n0_
  have HO_284001 := n1_
  have HO_284002 := n2_
  have BK269 := n3_
  have BK270 := n4_
  have BK283 := n5_
  have HB := n6_
  have HO290 := n7_
  clear n0_ n1_ n2_ n3_ n4_ n5_ n6_ n7_
  clear ho hb hg hat
  obtain ⟨Ao34, co34, eo34⟩ := Kd.R_slice HO290.out
  (first | subst eo34 | (injection eo34 with f1_ f2_ f3_; have f4_ := f1_.symm; have f5_ := f3_.symm; clear f1_ f2_ f3_; subst f4_; subst f5_))
  refine hK.out _ _ ⟨(blk_cell BK283.out 0).trans rfl, (blk_cell BK283.out 1).trans rfl, (blk_cell BK283.out 2).trans rfl, (blk_cell BK269.out 0).trans rfl, (blk_cell BK269.out 1).trans rfl, (blk_cell BK269.out 2).trans rfl, ((HB.out.cell (World.block_lt_of_cell? w _ hw287_0)).trans hw287_0)⟩ (fun hHeld => ?_)
  clear hK K
  refine norm_ (a' := ?_) ?_ ?_
  rotate_left
  ·
   show Act.put _ (some 29) _ = _
   simp only [Act.put, List.setIfInBounds_toArray, List.set_cons_zero, List.set_cons_succ, i64_w, i32_w]
   rfl
  refine one_ (i := 9) (N := some 30) #[true, true, true, true, true, true, true, true, true, true, false, false, false] rfl rfl (one_of HT_.out (by kernel_rfl)) (by decide) (fun K hK => ?_)
  refine value_ (w1 := ?_) (v := ?_) (by rfl) rfl ?_ ?_
  rotate_left 2
  ·
   go_simp
   constructor
   ·
    rfl
   rfl
  refine hK.out _ _ ⟨(blk_cell (blk_alloc BK283.out _) 0).trans rfl, (blk_cell (blk_alloc BK283.out _) 1).trans rfl, (blk_cell (blk_alloc BK283.out _) 2).trans rfl, (blk_cell (blk_alloc BK269.out _) 0).trans rfl, (blk_cell (blk_alloc BK269.out _) 1).trans rfl, (blk_cell (blk_alloc BK269.out _) 2).trans rfl, (World.cell?_alloc_lt _ _ _ (World.block_lt_of_cell? _ _ (((HB.out.cell (World.block_lt_of_cell? w _ hw287_0)).trans hw287_0)))).trans (((HB.out.cell (World.block_lt_of_cell? w _ hw287_0)).trans hw287_0))⟩ (fun hHeld => ?_)
  clear hK K
  refine norm_ (a' := ?_) ?_ ?_
  rotate_left
  ·
   show Act.put _ (some 30) _ = _
   simp only [Act.put, List.setIfInBounds_toArray, List.set_cons_zero, List.set_cons_succ, i64_w, i32_w]
   rfl
  refine one_ (i := 10) (N := some 31) #[true, true, true, true, true, true, true, true, true, true, true, false, false] rfl rfl (one_of HT_.out (by kernel_rfl)) (by decide) (fun K hK => ?_)
  refine Kd.S_append_step (Kd.slice 3 (Kd.int .i64)) (w0 := w) w.heap.size (by rfl) (.tmp 22) (.tmp 30) 24 22 (.slice none 0 0) 24 rfl Try.underlying24 info22 rfl (by decide) (by omega) u284002 x284002_1 y288 [.slice Ao34 y288.length co34] (fun k_ => some k_ ≠ (.slice Ao18 y274.length co18 : Value).ownBlock) (fun k_ => some k_ = (.slice Ao34 y288.length co34 : Value).ownBlock) rfl rfl ?aP (fun k_ hk_ => ((Kd.R_mono (ok' := fun k_ => ((fun k_ => some k_ ≠ (.slice Ao18 y274.length co18 : Value).ownBlock)) k_ ∧ some k_ ≠ (u284002 : Value).ownBlock) (Kd.R_apart' (HO290.out) (Kd.S_typed HO_284002.out) (by decide)) (fun k_ hk => ⟨hk.1, hk.2⟩))).1 k_ hk_.symm) ?aF ?aO ?aB ?aS ?aL ?_
  (case aP => exact Kd.M_row (Kd.R_mono (Kd.R_tight rfl (Kd.R_mono (ok' := fun k_ => ((fun k_ => some k_ ≠ (.slice Ao18 y274.length co18 : Value).ownBlock)) k_ ∧ some k_ ≠ (u284002 : Value).ownBlock) (Kd.R_apart' (HO290.out) (Kd.S_typed HO_284002.out) (by decide)) (fun k_ hk => ⟨hk.1, hk.2⟩))) (fun _ h_ => h_)))
  (case aB => exact (by repeat (first | (with_reducible first | exact HB.out | apply below_alloc | apply pw_below_drewN | apply below_drew1 | refine below_set ?_ GE269.out | refine below_set ?_ GE270.out | refine below_set ?_ GE283.out) | exact HB.out)))
  (case aF => exact (fun k_ hk => Kd.fresh' (Kd.R_lt (by (with_reducible repeat (first | apply Kd.R_alloc | apply Kd.R_drewN | apply Kd.R_drew)); exact HO_284000.out)) k_ hk))
  (case aO => exact (by (with_reducible repeat (first | apply Kd.S_alloc | apply Kd.S_drewN | apply Kd.S_drew)); exact Kd.S_mono HO_284002.out (fun k_ hk => ⟨hk.1, fun e_ => hk.2 e_⟩)))
  (case aS => exact (below_size (by repeat (first | (with_reducible first | exact HB.out | apply below_alloc | apply pw_below_drewN | apply below_drew1 | refine below_set ?_ GE269.out | refine below_set ?_ GE270.out | refine below_set ?_ GE283.out) | exact HB.out))))
  (case aL => have := LMc25.out; omega)
  intro v292 w33 ho hb hg hat
  rw [← Ny291.out] at ho
  have n0_ := Aside0.mk (Kd.R_over' (by (with_reducible repeat (first | apply Kd.R_alloc | apply Kd.R_drewN | apply Kd.R_drew)); exact HO_284000.out) (Kd.S_typed (by (with_reducible repeat (first | apply Kd.S_alloc | apply Kd.S_drewN | apply Kd.S_drew)); exact HO_284002.out)) (by decide) hg)
  have n1_ := Aside0.mk (Kd.R_over' (by (with_reducible repeat (first | apply Kd.R_alloc | apply Kd.R_drewN | apply Kd.R_drew)); exact HO_284001.out) (Kd.S_typed (by (with_reducible repeat (first | apply Kd.S_alloc | apply Kd.S_drewN | apply Kd.S_drew)); exact HO_284002.out)) (by decide) hg)
  have n2_ := Aside0.mk (blk_grown (g := gb269) (o := .cells #[.slice A0_0 l0_0.length c0_0, .slice A0_1 l0_1.length c0_1, .slice (some ad287) l0_2.length c0_2] 26 (0, 0)) (by (with_reducible repeat (first | refine blk_drewN ?_ _ | refine blk_drew ?_ | refine blk_alloc ?_ _)); exact BK269.out) hg (Kd.S_ne HO_284002.out BK269.out (by decide)))
  have n3_ := Aside0.mk (blk_grown (g := gb270) (o := .cells #[.slice none 0 0, .slice none 0 0, .slice none 0 0] 26 (0, 0)) (by (with_reducible repeat (first | refine blk_drewN ?_ _ | refine blk_drew ?_ | refine blk_alloc ?_ _)); exact BK270.out) hg (Kd.S_ne HO_284002.out BK270.out (by decide)))
  have n4_ := Aside0.mk (blk_grown (g := gb283) (o := .cells #[.slice Ao18 y274.length co18, .slice Ao17 y280.length co17, u284002] 26 (0, 0)) (by (with_reducible repeat (first | refine blk_drewN ?_ _ | refine blk_drew ?_ | refine blk_alloc ?_ _)); exact BK283.out) hg (Kd.S_ne HO_284002.out BK283.out (by decide)))
  have n5_ := Aside0.mk (hb)
  have n6_ := Aside0.mk (ho)
  clear HO_284000
  clear HO_284001
  clear BK269
  clear BK270
  clear BK283
  clear HB
  clear HO_284002
  clear HO290
  have HO_284000 := n0_
  have HO_284001 := n1_
  have BK269 := n2_
  have BK270 := n3_
  have BK283 := n4_
  have HB := n5_
  have HO293 := n6_
  clear n0_ n1_ n2_ n3_ n4_ n5_ n6_
  clear ho hb hg hat
  obtain ⟨Ao35, co35, eo35⟩ := Kd.S_slice HO293.out
  (first | subst eo35 | (injection eo35 with f1_ f2_ f3_; have f4_ := f1_.symm; have f5_ := f3_.symm; clear f1_ f2_ f3_; subst f4_; subst f5_))
  refine hK.out _ _ ⟨(blk_cell BK283.out 0).trans rfl, (blk_cell BK283.out 1).trans rfl, (blk_cell BK283.out 2).trans rfl, (blk_cell BK269.out 0).trans rfl, (blk_cell BK269.out 1).trans rfl, (blk_cell BK269.out 2).trans rfl, ((HB.out.cell (World.block_lt_of_cell? w _ hw287_0)).trans hw287_0)⟩ (fun hHeld => ?_)
  clear hK K
  refine norm_ (a' := ?_) ?_ ?_
  rotate_left
  ·
   show Act.put _ (some 31) _ = _
   simp only [Act.put, List.setIfInBounds_toArray, List.set_cons_zero, List.set_cons_succ, i64_w, i32_w]
   rfl
  refine pure_ (i := 11) (N := some 32) (v := ?_) (a' := ?_) #[true, true, true, true, true, true, true, true, true, true, true, true, false] rfl rfl (any_of HT_.out (by kernel_rfl)) (fun _ _ _ h => h) (Or.inl ⟨by rfl, ?_⟩) ?_ ?_
  rotate_left
  ·
   intro w'
   go_simp
   with_reducible rfl
  rotate_left
  ·
   simp only [Act.put, List.setIfInBounds_toArray, List.set_cons_zero, List.set_cons_succ, i64_w, i32_w]
   rfl
  refine last_ (i := 12) (N := none) #[true, true, true, true, true, true, true, true, true, true, true, true, true] rfl rfl (one_of HT_.out (by kernel_rfl)) (by decide) (fun K hK => ?_)
  have hs36 : w33.cell? ⟨gb283, 2, none⟩ = some (u284002) := (blk_cell BK283.out 2).trans rfl
  have hfs36 := blk_frozen BK283.out 2
  have hns36_0 := NB269_283.out
  have hns36_1 := NB270_283.out
  have hms36_0 := NB283_269.out
  have hms36_1 := NB283_270.out
  refine skip_ (w1 := ?_) (by rfl) rfl ?_ ?_
  rotate_left
  ·
   go_simp
   rfl
  refine hK.out _ _ ?_
  clear hK K
  refine done_ (done_of HT_.out (by kernel_rfl)) ?_
  try go_wp2
  go_roundg k1
  case measure => have := HK1.out; omega
  case rel => exact ⟨(wrap64 (x4_1 + 1)), (y291), (.slice Ao35 y291.length co35), (by first | rfl | (simp; done) | (simp [*]; done)), H', ⟨by have := HK1.out; omega⟩, ⟨by (with_reducible repeat (first | apply Kd.R_alloc | apply Kd.R_drewN | apply Kd.R_drew)); exact Kd.R_mono (Kd.R_far (p := ⟨gb283, 2, none⟩) (Kd.R_types HO_284000.out BK283.out (by decide)) (fun _ hk => hk.2) (.slice Ao35 y291.length co35)) (fun _ hk => trivial)⟩, ⟨by (with_reducible repeat (first | apply Kd.R_alloc | apply Kd.R_drewN | apply Kd.R_drew)); exact Kd.R_mono (Kd.R_far (p := ⟨gb283, 2, none⟩) (Kd.R_types HO_284001.out BK283.out (by decide)) (fun _ hk => hk.2) (.slice Ao35 y291.length co35)) (fun _ hk => trivial)⟩, ⟨by (with_reducible repeat (first | apply Kd.S_alloc | apply Kd.S_drewN | apply Kd.S_drew)); exact Kd.S_mono (Kd.S_far (p := ⟨gb283, 2, none⟩) (Kd.S_types HO293.out BK283.out (by decide)) (fun _ hk => hk.2) (.slice Ao35 y291.length co35)) (fun _ hk => hk.1)⟩, ⟨by (with_reducible repeat (first | refine blk_drewN ?_ _ | refine blk_drew ?_ | refine blk_alloc ?_ _)); refine blk_far ?_ NB269_283.out _; (with_reducible repeat (first | refine blk_drewN ?_ _ | refine blk_drew ?_ | refine blk_alloc ?_ _)); exact BK269.out⟩, ⟨by (with_reducible repeat (first | refine blk_drewN ?_ _ | refine blk_drew ?_ | refine blk_alloc ?_ _)); refine blk_far ?_ NB270_283.out _; (with_reducible repeat (first | refine blk_drewN ?_ _ | refine blk_drew ?_ | refine blk_alloc ?_ _)); exact BK270.out⟩, ⟨by (with_reducible repeat (first | refine blk_drewN ?_ _ | refine blk_drew ?_ | refine blk_alloc ?_ _)); refine blk_put (cs := #[.slice Ao18 y274.length co18, .slice Ao17 y280.length co17, u284002]) ?_ 2 _ rfl; (with_reducible repeat (first | refine blk_drewN ?_ _ | refine blk_drew ?_ | refine blk_alloc ?_ _)); exact BK283.out⟩, ⟨by repeat (first | (with_reducible first | exact HB.out | apply below_alloc | apply pw_below_drewN | apply below_drew1 | refine below_set ?_ GE269.out | refine below_set ?_ GE270.out | refine below_set ?_ GE283.out) | exact HB.out)⟩⟩
end Go.Proofs.Ytkmmihadcbfkoaa.PM
end
