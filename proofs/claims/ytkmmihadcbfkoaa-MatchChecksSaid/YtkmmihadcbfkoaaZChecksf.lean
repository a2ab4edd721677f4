/-
  MatchChecks holds: for every board, assignment, find, slot and list of finds the law returns true and what it is given reads as it did. (part 6 of 7 of the texts that it stands on)
-/
import Derived.Deep.RegionHeld3
import Derived.Laws.EntriesVeiled
import Derived.Test.YtkmmihadcbfkoaaZCheckse
section
namespace Go.Proofs.Ytkmmihadcbfkoaa
open Go.RowKit Go.Proofs.YtkmmihadcbfkoaaW.PrintWords PM
set_option linter.unusedVariables false
set_option linter.unusedSimpArgs false
/-- What filling from nothing comes to, the board being as said. -/
def hallR (F : List Int) (S : List S50) (T : List (List Int)) (out : Int) (room : List Int) : FR := fillF T room S.length out (List.replicate F.length (-1))
def PM.match_Hall.f (F : List Int) (S : List S50) (T : List (List Int)) : Option (List Int × Bool × Int) :=
  if checkB F S T ≠ 0 then some ([], false, checkB F S T) else some ((hallR F S T (-1) (rooms S)).hall, !(hallR F S T (-1) (rooms S)).ok, 0)
theorem R_nil (w : World) (b : Nat) : Kd.R (Kd.int .i64) 3 w b (fun _ => True) (.slice none 0 0) [] :=
  Kd.R_of_own (enc := Value.int .i64) (h1 := fun _ => rfl) (ok := fun _ => True) (World.ownsRow_nil w b 3 1) (fun _ _ => trivial)
/-- What is new memory of list, bool and error, of world w. -/
def LBE (l : List Int) (b : Bool) (e : Int) (w : World) (en : Ending) (w' : World) : Prop :=
  ∃ v0_ : Value, en = .returned (.tuple #[v0_, .bool b, .int .i64 e]) ∧ Kd.R (Kd.int .i64) 3 w' w.heap.size (fun _ => True) v0_ l ∧ Below w.heap.size w w'
set_option maxRecDepth 100000 in
set_option maxHeartbeats 8000000 in
theorem hall_walk (A0 : Option Addr) (c0 : Nat) (F : List Int) (A1 : Option Addr) (c1 : Nat) (S : List S50) (A2 : Option Addr) (c2 : Nat) (T : List (List Int)) (r1 : List Int) (r2 : Bool) (r3 : Int) (w : World)
    (hr0 : Kd.C (Kd.int .i64) w A0 F.length F) (hc0 : F.length ≤ c0) (hr1 : Kd.C k50 w A1 S.length S) (hr2 : Kd.C (Kd.slice 3 (Kd.int .i64)) w A2 T.length T) (h : match_Hall.f F S T = some (r1, r2, r3)) :
    Calls Try.prog 38 #[.agg #[.slice A0 F.length c0, .slice A1 S.length c1, .slice A2 T.length c2]] w (LBE r1 r2 r3 w) := by
  have hB0 := (Below.refl w.heap.size w).alloc (Nat.le_refl _) (.cells #[.slice A0 F.length c0, .slice A1 S.length c1, .slice A2 T.length c2] 26)
  have CB := checkboard_calls A0 c0 F A1 c1 S A2 c2 T _ (Kd.C_below hr0 hB0) hc0 (Kd.C_below hr1 hB0) (Kd.C_below hr2 hB0)
  unfold match_Hall.f at h
  obtain ⟨q, hq⟩ : ∃ q, checkB F S T = q := ⟨_, rfl⟩
  rw [hq] at h CB
  have HB0 := Go.Lib.hid hB0
  have HR := Go.Lib.hid (And.intro hr1 hr2)
  have HQ := Go.Lib.hid hq
  have HH := Go.Lib.hid h
  clear hr0 hr1 hr2 hB0 hq h
  go_enter Try.func38, Try.ntmps38
  go_wp2_with fail
  refine CB.mono ?_
  clear CB
  rintro e w1 ⟨rfl, hB1⟩
  have b1 : w1.heap[w.heap.size]? = some (.cells #[.slice A0 F.length c0, .slice A1 S.length c1, .slice A2 T.length c2] 26 (0, 0)) := by
    rw [hB1.block w.heap.size (by simp)]
    exact World.alloc_heap_new w _
  have hW1 : Below w.heap.size w w1 := HB0.out.trans (hB1.mono HB0.out.size)
  have k0 := cell_of_heap b1 (j := 0) rfl
  have k1 := cell_of_heap b1 (j := 1) rfl
  have k2 := cell_of_heap b1 (j := 2) rfl
  have HW1 := Go.Lib.hid hW1
  clear hB1 b1 hW1
  by_cases hq0 : q = 0
  · subst hq0
    have hk := bok_of_check HQ.out
    have TC := tried_calls2 A0 c0 F A1 c1 S A2 c2 T w1 hk (Kd.C_below HR.out.1 HW1.out) (Kd.C_below HR.out.2 HW1.out)
    have hf := HH.out
    rw [if_neg (by simp)] at hf
    injection hf with hf
    obtain ⟨rr, hrr⟩ : ∃ rr, hallR F S T (-1) (rooms S) = rr := ⟨_, rfl⟩
    rw [hrr] at hf
    injection hf with hf1 hf
    injection hf with hf2 hf3
    subst hf2 hf3
    have HRR := Go.Lib.hid hrr
    have HF1 := Go.Lib.hid hf1
    clear hk hrr hf1 HH HQ
    go_wp2_with fail
    refine TC.mono ?_
    clear TC
    rintro e w2 ⟨t, rfl, e1, e2, e3, hT, hB, _⟩
    have FC := fill_calls t T (rooms S) hT.fit (-1) _ hT.len w2 hT.st hT.row
    rw [e1, show fillF T (rooms S) S.length (-1) (List.replicate F.length (-1)) = rr from HRR.out] at FC
    have HT := Go.Lib.hid hT
    have HB := Go.Lib.hid hB
    clear hT hB e1 e2 e3
    go_wp2_with fail
    refine FC.mono ?_
    clear FC
    rintro e w3 ⟨v, rfl, hag, _, how⟩
    have HAG := Go.Lib.hid hag
    have HOW := Go.Lib.hid how
    clear hag how
    go_wp2_with fail
    go_ret3
    have hb2 : Below w.heap.size w w2 := HW1.out.trans (HB.out.mono HW1.out.size)
    have hbl : w.heap.size ≤ t.bh := Nat.le_trans HW1.out.size HT.out.bl
    refine ⟨v, rfl, ?_, HAG.out.below hb2 hb2.size hbl hbl⟩
    rw [← HF1.out]
    exact Kd.R_of_own (enc := Value.int .i64) (h1 := fun _ => rfl) (ok := fun _ => True) (own_weaken HOW.out hb2.size) (fun _ _ => trivial)
  · have g9 : decide (q = 0) = false := by simpa using hq0
    have hf := HH.out
    rw [if_pos hq0] at hf
    injection hf with hf
    injection hf with hf1 hf
    injection hf with hf2 hf3
    subst hf1 hf2 hf3
    go_wp2_with fail
    go_ret3
    exact ⟨_, rfl, R_nil _ _, HW1.out⟩
theorem PM.match_Hall.calls (A0 : Option Addr) (c0 : Nat) (F : List Int) (A1 : Option Addr) (c1 : Nat) (S : List S50) (A2 : Option Addr) (c2 : Nat) (T : List (List Int)) (r1 : List Int) (r2 : Bool) (r3 : Int) (w : World)
    (hr0 : Kd.C (Kd.int .i64) w A0 F.length F) (hc0 : F.length ≤ c0) (hr1 : Kd.C k50 w A1 S.length S) (hc1 : S.length ≤ c1) (hr2 : Kd.C (Kd.slice 3 (Kd.int .i64)) w A2 T.length T) (hc2 : T.length ≤ c2) (h : match_Hall.f F S T = some (r1, r2, r3)) :
    Calls Try.prog 38 #[.agg #[.slice A0 F.length c0, .slice A1 S.length c1, .slice A2 T.length c2]] w (LBE r1 r2 r3 w) := hall_walk A0 c0 F A1 c1 S A2 c2 T r1 r2 r3 w hr0 hc0 hr1 hr2 h
end Go.Proofs.Ytkmmihadcbfkoaa
end

section
namespace Go.Proofs.Ytkmmihadcbfkoaa
open Go.RowKit Go.Proofs.YtkmmihadcbfkoaaW.PrintWords PM
set_option linter.unusedVariables false
set_option linter.unusedSimpArgs false
theorem tryRow_len (F : List Int) (S : List S50) (f : Nat) : ∀ (row : List Int) (T : List (List Int)) (out : List Int), (tryRow F S f row T out).2.length = out.length
  | [], _, _ => rfl
  | s :: ss, T, out => by
    unfold tryRow
    split
    · simp
    · exact tryRow_len F S f ss _ out
theorem nextF_len (F : List Int) (S : List S50) (T0 : List (List Int)) : ∀ (n f : Nat) (T : List (List Int)) (out : List Int), (nextF F S T0 n f T out).length = out.length
  | 0, _, _, _ => rfl
  | n + 1, f, T, out => by
    unfold nextF
    rw [nextF_len F S T0 n, tryRow_len]
def firstF (F : List Int) (S : List S50) (T : List (List Int)) : List Int := nextF F S T T.length 0 T (List.replicate F.length (-1))
def PM.match_Assign.f (F : List Int) (S : List S50) (T : List (List Int)) : Option (List Int × Bool × Int) :=
  if checkB F S T ≠ 0 then some ([], false, checkB F S T) else if isF F S T = false then some ([], false, 0) else some (firstF F S T, true, 0)
theorem AG.below {Cf Bo B : Nat} {w0 w w' : World} (h0 : Below B w0 w) (hB : B ≤ w.heap.size) (h : AG Cf Bo w w') (h1 : B ≤ Cf) (h2 : B ≤ Bo) : Below B w0 w' :=
  h0.trans ⟨h.os, h.tape, h.output, h.size, fun k hk => h.block k (by omega) (by omega) (by omega)⟩
set_option maxRecDepth 100000 in
theorem next_zero (Bc Bb Bq Bn c : Nat) (A : Option Addr) (w : World) (h : w.cell? ⟨Bc, 2, none⟩ = some (.slice A 0 c)) :
    Calls Try.prog 55 #[.int .i64 0, .pointer (some ⟨Bc, 0, none⟩), .pointer (some ⟨Bb, 0, none⟩), .pointer (some ⟨Bq, 0, none⟩), .pointer (some ⟨Bn, 0, none⟩)] w fun e w' => e = .returned (.tuple #[]) ∧ w' = w := by
  go_enter Try.func55, Try.ntmps55
  go_wp2_with fail
  go_step3
  go_wp2_with fail
  rw [Exit.noGoto_ret]
  refine bodyPost_ret (results_none rfl _ _ _) rfl ?_
  exact ⟨rfl, rfl⟩
theorem copiedT_calls (B : Nat) (A : Option Addr) (c : Nat) (T : List (List Int)) (w : World) (hr : Kd.F (Kd.slice 3 (Kd.int .i64)) w (fun k => k < B) A T.length T) (hc : T.length ≤ c) (hl : T.length ≤ 1000) :
    Calls Try.prog 53 #[.slice A T.length c] w fun e w' => ∃ v, e = .returned v ∧ Kd.N (Kd.slice 3 (Kd.int .i64)) 22 w' w.heap.size (fun k => k < B ∨ w.heap.size ≤ k) v T ∧ Below w.heap.size w w' :=
  match_copied_int_53.calls (fun k => k < B) A c T T w (Kd.V_mk hc hr) (by
    unfold match_copied_int_53.f
    rw [Option.bind_some, if_pos (by simp; omega)]
    rfl)
theorem box3_set {w : World} {b t : Nat} {a0 a1 a2 : Value} (h : w.heap[b]? = some (.cells #[a0, a1, a2] t (0, 0))) (u0 u1 u2 : Value) :
    (((w.setCell ⟨b, 0, none⟩ u0).setCell ⟨b, 1, none⟩ u1).setCell ⟨b, 2, none⟩ u2).heap[b]? = some (.cells #[u0, u1, u2] t (0, 0)) := by
  simp [World.setCell, Array.getElem?_modify, h]
def StartPost (F : List Int) (S : List S50) (T : List (List Int)) (Bo Bq : Nat) (w : World) (e : Ending) (w' : World) : Prop :=
  e = .returned (.tuple #[]) ∧ w'.cell? ⟨Bq, 0, none⟩ = some (.slice (some ⟨Bo, 0, none⟩) F.length F.length) ∧ Kd.R (Kd.int .i64) 3 w' w.heap.size (fun _ => True) (.slice (some ⟨Bo, 0, none⟩) F.length F.length) (firstF F S T) ∧ Below w.heap.size w w'
/-- The first call of 'next', in the world in which Assign calls it. -/
theorem start_next {A0 : Option Addr} {c0 : Nat} {F : List Int} {A1 : Option Addr} {c1 : Nat} {S : List S50} {A2 : Option Addr} {c2 : Nat} {T : List (List Int)} {w w2 W4 w6 : World} {Ac : Option Addr} {cf Bc Bo : Nat}
    (hk : BOK F S T) (hr1 : Kd.C k50 w A1 S.length S) (hr2 : Kd.C (Kd.slice 3 (Kd.int .i64)) w A2 T.length T) (hW2 : Below w.heap.size w w2)
    (b2 : w2.heap[w.heap.size]? = some (.cells #[.slice A0 F.length c0, .slice A1 S.length c1, .slice A2 T.length c2] 26 (0, 0)))
    (hBc : W4.heap[Bc]? = some (.cells #[.slice A0 F.length c0, .slice A1 S.length c1, .slice Ac T.length cf] 26 (0, 0)))
    (hN : Kd.N (Kd.slice 3 (Kd.int .i64)) 22 W4 w2.heap.size (fun _ => True) (.slice Ac T.length cf) T) (hb4 : Below w2.heap.size w2 W4)
    (hbo : (W4.alloc (.cells #[.int .i64 (-1)] 3)).heap.size ≤ Bo) (hrow6 : w6.heap[Bo]? = some (.cells (List.replicate F.length (Value.int .i64 (-1))).toArray 3 (0, 0))) (hb6 : Below (W4.alloc (.cells #[.int .i64 (-1)] 3)).heap.size (W4.alloc (.cells #[.int .i64 (-1)] 3)) w6) :
    Calls Try.prog 55 #[.int .i64 0, .pointer (some ⟨Bc, 0, none⟩), .pointer (some ⟨w.heap.size, 0, none⟩), .pointer (some ⟨w6.heap.size, 0, none⟩), .pointer (some ⟨w6.heap.size + 1, 0, none⟩)]
      ((w6.alloc (.cells #[.slice (some ⟨Bo, 0, none⟩) F.length F.length] 22)).alloc (.cells #[.func (.func 55) #[] #[.pointer (some ⟨Bc, 0, none⟩), .pointer (some ⟨w.heap.size, 0, none⟩), .pointer (some ⟨w6.heap.size, 0, none⟩), .pointer (some ⟨w6.heap.size + 1, 0, none⟩)]] 73))
      (StartPost F S T Bo w6.heap.size w) := by
  have hal := (Below.refl W4.heap.size W4).alloc (Nat.le_refl _) (.cells #[.int .i64 (-1)] 3)
  have hb46 : Below W4.heap.size W4 w6 := hal.trans (hb6.mono hal.size)
  have ha1 := (Below.refl w6.heap.size w6).alloc (Nat.le_refl _) (.cells #[.slice (some ⟨Bo, 0, none⟩) F.length F.length] 22)
  have n1 := World.alloc_heap_new w6 (.cells #[.slice (some ⟨Bo, 0, none⟩) F.length F.length] 22)
  have n2 := World.alloc_heap_new (w6.alloc (.cells #[.slice (some ⟨Bo, 0, none⟩) F.length F.length] 22)) (.cells #[.func (.func 55) #[] #[.pointer (some ⟨Bc, 0, none⟩), .pointer (some ⟨w.heap.size, 0, none⟩), .pointer (some ⟨w6.heap.size, 0, none⟩), .pointer (some ⟨w6.heap.size + 1, 0, none⟩)]] 73)
  have ha2 := (Below.refl (w6.alloc (.cells #[.slice (some ⟨Bo, 0, none⟩) F.length F.length] 22)).heap.size (w6.alloc (.cells #[.slice (some ⟨Bo, 0, none⟩) F.length F.length] 22))).alloc (Nat.le_refl _) (.cells #[.func (.func 55) #[] #[.pointer (some ⟨Bc, 0, none⟩), .pointer (some ⟨w.heap.size, 0, none⟩), .pointer (some ⟨w6.heap.size, 0, none⟩), .pointer (some ⟨w6.heap.size + 1, 0, none⟩)]] 73)
  generalize hW8 : ((w6.alloc (.cells #[.slice (some ⟨Bo, 0, none⟩) F.length F.length] 22)).alloc (.cells #[.func (.func 55) #[] #[.pointer (some ⟨Bc, 0, none⟩), .pointer (some ⟨w.heap.size, 0, none⟩), .pointer (some ⟨w6.heap.size, 0, none⟩), .pointer (some ⟨w6.heap.size + 1, 0, none⟩)]] 73)) = W8 at *
  have s1 : (w6.alloc (.cells #[.slice (some ⟨Bo, 0, none⟩) F.length F.length] 22)).heap.size = w6.heap.size + 1 := by simp
  rw [s1] at n2 ha2
  have n1 := (ha2.block w6.heap.size (by omega)).trans n1
  have hb68 : Below w6.heap.size w6 W8 := ha1.trans (ha2.mono (by omega))
  have hb48 : Below W4.heap.size W4 W8 := hb46.trans (hb68.mono hb46.size)
  have hb28 : Below w2.heap.size w2 W8 := hb4.trans (hb48.mono hb4.size)
  have hb8 : Below w.heap.size w W8 := hW2.trans (hb28.mono hW2.size)
  have hBol : Bo < w6.heap.size := (Array.getElem?_eq_some_iff.1 hrow6).1
  have hbo' : W4.heap.size < Bo := by
    have : (W4.alloc (.cells #[.int .i64 (-1)] 3)).heap.size = W4.heap.size + 1 := by simp
    omega
  have row8 := (hb68.block Bo hBol).trans hrow6
  have hR8 : RowAt W8 Bo 3 (Value.int .i64) (List.replicate F.length (-1)) := ⟨_, row8, fun j hj => by
    simp at hj
    simp [hj]⟩
  have hS8 : szOf (W8.heap[Bo]?) = F.length := by rw [row8]; simp [szOf]
  have hwBo : w.heap.size ≤ Bo := Nat.le_trans hW2.size (Nat.le_trans hb4.size (Nat.le_of_lt hbo'))
  have lF := hk.nf
  by_cases hT0 : T.length = 0
  · have hF0 : F.length = 0 := by rw [← hk.nt]; exact hT0
    have hc := pw_cell_below hb48 (cell_of_heap hBc (j := 2) rfl)
    have hc : W8.cell? ⟨Bc, 2, none⟩ = some (.slice Ac 0 cf) := by
      rw [← hT0]; exact hc
    refine (next_zero Bc w.heap.size w6.heap.size (w6.heap.size + 1) cf Ac W8 hc).mono ?_
    rintro e w' ⟨rfl, rfl⟩
    refine ⟨rfl, cell_of_heap n1 rfl, ?_, hb8⟩
    have : firstF F S T = List.replicate F.length (-1) := by unfold firstF; rw [hT0]; rfl
    rw [this]
    exact row_result hR8 hS8 (by simp) (Nat.le_refl _) (by rw [hF0]; exact Nat.zero_le _) hwBo
  · obtain ⟨Cf, cap, e, hCb, hCl, cells, hCh⟩ := Kd.N_form hN (by omega)
    injection e with e1 e2 e3
    subst e1
    have hne : Bo ≠ Cf := by omega
    have hBcf : Bc ≠ Cf := by
      rintro rfl
      rw [hBc] at hCh
      injection hCh with hCh
      injection hCh with _ hCh
      exact absurd hCh (by decide)
    obtain ⟨ra, rc, hra⟩ := RowsAt.of_C hr2
    have hBcl := (Array.getElem?_eq_some_iff.1 hBc).1
    have hwl := (Array.getElem?_eq_some_iff.1 b2).1
    have h48 := hb48.size
    have h68 := hb68.size
    have h24 := hb4.size
    have h46 := hb46.size
    have hlast : w6.heap.size + 1 < W8.heap.size := (Array.getElem?_eq_some_iff.1 n2).1
    have NC := next_calls { A0 := A0, c0 := c0, A1 := A1, c1 := c1, A2 := A2, c2 := c2, Bc := Bc, Bb := w.heap.size, Bq := w6.heap.size, Bn := w6.heap.size + 1, Cf := Cf, cf := cf, Bo := Bo, base := w2.heap.size, ra := ra, rc := rc } F S T hne hk T.length 0 T (List.replicate F.length (-1)) W8 (by omega)
      (fun w' a => by
        have hb' : Below w.heap.size w w' := AG.below hb8 hb8.size a (Nat.le_trans hW2.size hCb) hwBo
        exact ⟨((a.block w.heap.size (by omega) (by show w.heap.size ≠ Cf; omega) (by show w.heap.size ≠ Bo; omega)).trans (hb28.block _ hwl)).trans b2,
          ((a.block Bc (by omega) hBcf (by show Bc ≠ Bo; omega)).trans (hb48.block _ hBcl)).trans hBc,
          (a.block w6.heap.size (by omega) (by show w6.heap.size ≠ Cf; omega) (by show w6.heap.size ≠ Bo; omega)).trans n1,
          (a.block (w6.heap.size + 1) (by omega) (by show w6.heap.size + 1 ≠ Cf; omega) (by show w6.heap.size + 1 ≠ Bo; omega)).trans n2,
          Kd.C_below hr1 hb', hra.below hb'⟩)
      ⟨Kd.N_mono (Kd.N_old hN hb48) (fun q hq => by show q ≠ Bo; have := hq.2; omega), hR8, rfl, by simp, hk⟩
    refine Calls.mono NC ?_
    rintro e w' ⟨rfl, a, hrow⟩
    refine ⟨rfl, cell_of_heap ((a.block w6.heap.size (by omega) (by show w6.heap.size ≠ Cf; omega) (by show w6.heap.size ≠ Bo; omega)).trans n1) rfl, ?_, AG.below hb8 hb8.size a (Nat.le_trans hW2.size hCb) hwBo⟩
    exact row_result hrow (a.cells.trans hS8) (by unfold firstF; rw [nextF_len]; simp) (Nat.le_refl _) (by show F.length ≤ maxLen; unfold maxLen; omega) hwBo
set_option maxRecDepth 100000 in
set_option maxHeartbeats 8000000 in
theorem PM.match_Assign.calls (A0 : Option Addr) (c0 : Nat) (F : List Int) (A1 : Option Addr) (c1 : Nat) (S : List S50) (A2 : Option Addr) (c2 : Nat) (T : List (List Int)) (r1 : List Int) (r2 : Bool) (r3 : Int) (w : World)
    (hr0 : Kd.C (Kd.int .i64) w A0 F.length F) (hc0 : F.length ≤ c0) (hr1 : Kd.C k50 w A1 S.length S) (hc1 : S.length ≤ c1) (hr2 : Kd.C (Kd.slice 3 (Kd.int .i64)) w A2 T.length T) (hc2 : T.length ≤ c2) (h : match_Assign.f F S T = some (r1, r2, r3)) :
    Calls Try.prog 15 #[.agg #[.slice A0 F.length c0, .slice A1 S.length c1, .slice A2 T.length c2]] w (LBE r1 r2 r3 w) := by
  have hB0 := (Below.refl w.heap.size w).alloc (Nat.le_refl _) (.cells #[.slice A0 F.length c0, .slice A1 S.length c1, .slice A2 T.length c2] 26)
  have CB := checkboard_calls A0 c0 F A1 c1 S A2 c2 T _ (Kd.C_below hr0 hB0) hc0 (Kd.C_below hr1 hB0) (Kd.C_below hr2 hB0)
  unfold match_Assign.f at h
  obtain ⟨q, hq⟩ : ∃ q, checkB F S T = q := ⟨_, rfl⟩
  rw [hq] at h CB
  have HB0 := Go.Lib.hid hB0
  have HR := Go.Lib.hid (And.intro hr1 hr2)
  have HQ := Go.Lib.hid hq
  have HH := Go.Lib.hid h
  clear hr0 hr1 hr2 hB0 hq h
  go_enter Try.func15, Try.ntmps15
  go_wp2_with fail
  refine CB.mono ?_
  clear CB
  rintro e w1 ⟨rfl, hB1⟩
  have b1 : w1.heap[w.heap.size]? = some (.cells #[.slice A0 F.length c0, .slice A1 S.length c1, .slice A2 T.length c2] 26 (0, 0)) := by
    rw [hB1.block w.heap.size (by simp)]
    exact World.alloc_heap_new w _
  have hW1 : Below w.heap.size w w1 := HB0.out.trans (hB1.mono HB0.out.size)
  have k0 := cell_of_heap b1 (j := 0) rfl
  have k1 := cell_of_heap b1 (j := 1) rfl
  have k2 := cell_of_heap b1 (j := 2) rfl
  have HW1 := Go.Lib.hid hW1
  have BX1 := Go.Lib.hid b1
  clear hB1 b1 hW1
  by_cases hq0 : q = 0
  · subst hq0
    have hk := bok_of_check HQ.out
    have SC := some_calls A0 c0 F A1 c1 S A2 c2 T w1 hk (Kd.C_below HR.out.1 HW1.out) (Kd.C_below HR.out.2 HW1.out)
    have hf := HH.out
    rw [if_neg (by simp)] at hf
    have lT : T.length ≤ 60 := by rw [hk.nt]; exact hk.nf
    have lF : F.length ≤ 60 := hk.nf
    have HK := Go.Lib.hid hk
    unfold SomePost at SC
    obtain ⟨ok, hok⟩ : ∃ ok, (fillF T (rooms S) S.length (-1) (List.replicate F.length (-1))).ok = ok := ⟨_, rfl⟩
    rw [hok] at SC
    rw [show isF F S T = ok from hok] at hf
    clear hk hok HH HQ
    cases ok with
    | false =>
      rw [if_pos rfl] at hf
      injection hf with hf
      injection hf with hf1 hf
      injection hf with hf2 hf3
      subst hf1 hf2 hf3
      go_wp2_with fail
      refine SC.mono ?_
      clear SC
      rintro e w2 ⟨t, rfl, _, _, _, _, hB2⟩
      have HB2 := Go.Lib.hid (HW1.out.trans (hB2.mono HW1.out.size))
      clear hB2
      go_wp2_with fail
      go_ret3
      exact ⟨_, rfl, R_nil _ _, HB2.out⟩
    | true =>
      rw [if_neg (by simp)] at hf
      injection hf with hf
      injection hf with hf1 hf
      injection hf with hf2 hf3
      subst hf2 hf3
      have HF1 := Go.Lib.hid hf1
      clear hf1
      go_wp2_with fail
      refine SC.mono ?_
      clear SC
      rintro e w2 ⟨t, rfl, _, _, _, _, hB2⟩
      have hW2 := HW1.out.trans (hB2.mono HW1.out.size)
      have b2 := (hB2.block w.heap.size (Array.getElem?_eq_some_iff.1 BX1.out).1).trans BX1.out
      have hFT := Kd.C_F (Kd.heap_slice 3 (Kd.heap_int .i64)) (Kd.C_below HR.out.2 hW2)
      have CT : ∀ W, Below w2.heap.size w2 W → Calls Try.prog 53 #[.slice A2 T.length c2] W fun e w' => ∃ v, e = .returned v ∧ Kd.N (Kd.slice 3 (Kd.int .i64)) 22 w' W.heap.size (fun k => k < w2.heap.size ∨ W.heap.size ≤ k) v T ∧ Below W.heap.size W w' ∧ Below w2.heap.size w2 w' := fun W hb => by
        refine (copiedT_calls w2.heap.size A2 c2 T W (Kd.F_below hFT hb) hc2 (by omega)).mono ?_
        rintro e w' ⟨v, rfl, hN, h1⟩
        exact ⟨v, rfl, hN, h1, hb.trans (h1.mono hb.size)⟩
      have hb0 : Below w2.heap.size w2 w2.drew := (Below.refl _ _).drew
      have hb1 : ∀ o, Below w2.heap.size w2 (w2.alloc o).drew := fun o => ((Below.refl _ _).alloc (Nat.le_refl _) o).drew
      have k0 : w2.cell? ⟨w.heap.size, 0, none⟩ = some (.slice A0 F.length c0) := cell_of_heap b2 (j := 0) rfl
      have k1 : w2.cell? ⟨w.heap.size, 1, none⟩ = some (.slice A1 S.length c1) := cell_of_heap b2 (j := 1) rfl
      have k2 : w2.cell? ⟨w.heap.size, 2, none⟩ = some (.slice A2 T.length c2) := cell_of_heap b2 (j := 2) rfl
      have E := World.alloc_heap_new w2 (.cells #[.slice none 0 0, .slice none 0 0, .slice none 0 0] 26)
      have E0 : (w2.alloc (.cells #[.slice none 0 0, .slice none 0 0, .slice none 0 0] 26)).drew.cell? ⟨w2.heap.size, 0, none⟩ = some (.slice none 0 0) := cell_of_heap E (j := 0) rfl
      have E1 : (w2.alloc (.cells #[.slice none 0 0, .slice none 0 0, .slice none 0 0] 26)).drew.cell? ⟨w2.heap.size, 1, none⟩ = some (.slice none 0 0) := cell_of_heap E (j := 1) rfl
      have E2 : (w2.alloc (.cells #[.slice none 0 0, .slice none 0 0, .slice none 0 0] 26)).drew.cell? ⟨w2.heap.size, 2, none⟩ = some (.slice none 0 0) := cell_of_heap E (j := 2) rfl
      have Z0 : (w2.alloc (.cells #[.slice none 0 0, .slice none 0 0, .slice none 0 0] 26)).drew.frozen? ⟨w2.heap.size, 0, none⟩ = false := frozen_of_heap E
      have Z1 : (w2.alloc (.cells #[.slice none 0 0, .slice none 0 0, .slice none 0 0] 26)).drew.frozen? ⟨w2.heap.size, 1, none⟩ = false := frozen_of_heap E
      have Z2 : (w2.alloc (.cells #[.slice none 0 0, .slice none 0 0, .slice none 0 0] 26)).drew.frozen? ⟨w2.heap.size, 2, none⟩ = false := frozen_of_heap E
      have hne1 : w2.heap.size ≠ w.heap.size := by have := World.block_lt_of_cell? w2 _ k0; exact Nat.ne_of_gt this
      have hne2 : w.heap.size ≠ w2.heap.size := Ne.symm hne1
      have HK2 := Go.Lib.hid (And.intro k0 (And.intro k1 k2))
      have HW2 := Go.Lib.hid hW2
      have BX2 := Go.Lib.hid b2
      have HE := Go.Lib.hid E
      clear hB2 hW2 b2 E hFT
      go_wp2_with fail
      go_region_held3 (fun w' => w'.cell? ⟨w.heap.size, 0, none⟩ = some (.slice A0 F.length c0) ∧ w'.cell? ⟨w.heap.size, 1, none⟩ = some (.slice A1 S.length c1) ∧ w'.cell? ⟨w.heap.size, 2, none⟩ = some (.slice A2 T.length c2) ∧ Below w2.heap.size w2 w')
        (go_keep)
        (first
          | (go_at_call 53; refine (CT _ (by first | assumption | exact hb1 _)).mono ?_; rintro e w3 ⟨vc, rfl, hN, hbc, hb⟩; obtain ⟨Ac, cf, rfl⟩ := Kd.N_slice hN; have hba : ∀ o, Below w2.heap.size w2 (w3.alloc o) := fun o => hb.alloc hb.size o; have hbs : ∀ j u, Below w2.heap.size w2 (w3.setCell ⟨w2.heap.size, j, none⟩ u) := fun j u => setCell_below hb (Nat.le_refl _) u; have hbs3 : ∀ u1 u2 u3, Below w2.heap.size w2 (((w3.setCell ⟨w2.heap.size, 0, none⟩ u1).setCell ⟨w2.heap.size, 1, none⟩ u2).setCell ⟨w2.heap.size, 2, none⟩ u3) := fun u1 u2 u3 => setCell_below (setCell_below (setCell_below hb (Nat.le_refl _) u1) (Nat.le_refl _) u2) (Nat.le_refl _) u3; have f0 := pw_cell_below hb HK2.out.1; have f1 := pw_cell_below hb HK2.out.2.1; have f2 := pw_cell_below hb HK2.out.2.2; (try (have e0 := pw_cell_below hbc E0; have e1 := pw_cell_below hbc E1; have e2 := pw_cell_below hbc E2; have z0 := (hbc.frozen (p := ⟨w2.heap.size, 0, none⟩) (by simp)).trans Z0; have z1 := (hbc.frozen (p := ⟨w2.heap.size, 1, none⟩) (by simp)).trans Z1; have z2 := (hbc.frozen (p := ⟨w2.heap.size, 2, none⟩) (by simp)).trans Z2))))
      all_goals (first
        | (have hX4 : ∃ Bc W4, w2.heap.size = Bc ∧ (((w3.setCell ⟨w2.heap.size, 0, none⟩ (.slice A0 F.length c0)).setCell ⟨w2.heap.size, 1, none⟩ (.slice A1 S.length c1)).setCell ⟨w2.heap.size, 2, none⟩ (.slice Ac T.length cf)) = W4 ∧ W4.heap[Bc]? = some (.cells #[.slice A0 F.length c0, .slice A1 S.length c1, .slice Ac T.length cf] 26 (0, 0)) ∧ Kd.N (Kd.slice 3 (Kd.int .i64)) 22 W4 w2.heap.size (fun _ => True) (.slice Ac T.length cf) T ∧ Below w2.heap.size w2 W4 :=
            ⟨_, _, rfl, rfl, box3_set ((hbc.block w2.heap.size (by simp)).trans HE.out) _ _ _, Kd.N_mono (Kd.N_lower (Kd.N_far (p := ⟨w2.heap.size, 2, none⟩) (Kd.N_far (p := ⟨w2.heap.size, 1, none⟩) (Kd.N_far (p := ⟨w2.heap.size, 0, none⟩) hN (fun k hk => by simp at hk; show k ≠ w2.heap.size; omega) _) (fun k hk => by simp at hk; show k ≠ w2.heap.size; omega) _) (fun k hk => by simp at hk; show k ≠ w2.heap.size; omega) _) (by simp)) (fun _ _ => trivial), hbs3 _ _ _⟩
           obtain ⟨Bc, W4, hBc, hW4, hX4⟩ := hX4
           rw [hW4, hBc]
           clear hbs3 hbs hba hW4 hBc E0 E1 E2 Z0 Z1 Z2)
        | (have hX4 : ∃ Bc W4, w3.heap.size = Bc ∧ w3.alloc (.cells #[.slice A0 F.length c0, .slice A1 S.length c1, .slice Ac T.length cf] 26) = W4 ∧ W4.heap[Bc]? = some (.cells #[.slice A0 F.length c0, .slice A1 S.length c1, .slice Ac T.length cf] 26 (0, 0)) ∧ Kd.N (Kd.slice 3 (Kd.int .i64)) 22 W4 w2.heap.size (fun _ => True) (.slice Ac T.length cf) T ∧ Below w2.heap.size w2 W4 :=
            ⟨_, _, rfl, rfl, World.alloc_heap_new _ _, Kd.N_alloc (Kd.N_mono (Kd.N_lower hN (by simp)) (fun _ _ => trivial)) _, hba _⟩
           obtain ⟨Bc, W4, hBc, hW4, hX4⟩ := hX4
           rw [hW4, hBc]
           clear hbs3 hbs hba hW4 hBc E0 E1 E2 Z0 Z1 Z2))
      all_goals (
        have hb4 := hX4.2.2
        have j0 := pw_cell_below hb4 HK2.out.1
        have hal := (Below.refl W4.heap.size W4).alloc (Nat.le_refl _) (.cells #[.int .i64 (-1)] 3)
        have j1 := pw_cell_below hal j0
        have RP := repeat_calls W4.heap.size (-1) F.length (by omega) _ (cell_of_heap (World.alloc_heap_new W4 (.cells #[.int .i64 (-1)] 3)) (j := 0) rfl)
        have HX4 := Go.Lib.hid hX4
        have HAL := Go.Lib.hid hal
        clear hX4 hb4 hal k0 k1 k2 hN hbc hb f0 f1 f2 CT
        go_wp2_with fail
        refine RP.mono ?_
        clear RP
        rintro e w6 ⟨Bo, rfl, hbo, hrow6, hb6⟩
        have HR6 := Go.Lib.hid (And.intro hbo (And.intro hrow6 hb6))
        clear hbo hrow6 hb6
        go_wp2_with fail)
      all_goals (
        have SN := start_next HK.out HR.out.1 HR.out.2 HW2.out BX2.out HX4.out.1 HX4.out.2.1 HX4.out.2.2 HR6.out.1 HR6.out.2.1 HR6.out.2.2
        refine SN.mono ?_
        clear SN
        rintro e w9 ⟨rfl, hq9, hR9, hB9⟩
        have HX9 := Go.Lib.hid (And.intro hR9 hB9)
        clear hR9 hB9
        go_wp2_with fail
        go_ret3
        exact ⟨_, rfl, by rw [← HF1.out]; exact HX9.out.1, HX9.out.2⟩)
  · have g9 : decide (q = 0) = false := by simpa using hq0
    have hf := HH.out
    rw [if_pos hq0] at hf
    injection hf with hf
    injection hf with hf1 hf
    injection hf with hf2 hf3
    subst hf1 hf2 hf3
    go_wp2_with fail
    go_ret3
    exact ⟨_, rfl, R_nil _ _, HW1.out⟩
end Go.Proofs.Ytkmmihadcbfkoaa
end

section
namespace Go.Proofs.Ytkmmihadcbfkoaa
open Go.RowKit Go.Proofs.YtkmmihadcbfkoaaW.PrintWords PM
set_option linter.unusedVariables false
set_option linter.unusedSimpArgs false
/-- The rooms, one slot having one less. -/
def roomsLess (S : List S50) (slot : Int) : List Int := (rooms S).set slot.toNat ((rooms S).getD slot.toNat 0 - 1)
def PM.match_Refuse.f (F : List Int) (S : List S50) (T : List (List Int)) (find slot : Int) : Option (List Int × Bool × Int) :=
  if askB F S T find slot false false ≠ 0 then some ([], false, askB F S T find slot false false)
  else if isF F S T = false then some ([], false, 40)
  else if slot ∉ T.getD find.toNat [] then some ([], true, 0)
  else some ((hallR F S T find (roomsLess S slot)).hall, !(hallR F S T find (roomsLess S slot)).ok, 0)
set_option maxRecDepth 100000 in
set_option maxHeartbeats 8000000 in
theorem refuse_walk (A0 : Option Addr) (c0 : Nat) (F : List Int) (A1 : Option Addr) (c1 : Nat) (S : List S50) (A2 : Option Addr) (c2 : Nat) (T : List (List Int)) (find slot : Int) (r1 : List Int) (r2 : Bool) (r3 : Int) (w : World)
    (hr0 : Kd.C (Kd.int .i64) w A0 F.length F) (hc0 : F.length ≤ c0) (hr1 : Kd.C k50 w A1 S.length S) (hr2 : Kd.C (Kd.slice 3 (Kd.int .i64)) w A2 T.length T) (h : match_Refuse.f F S T find slot = some (r1, r2, r3)) :
    Calls Try.prog 31 #[.agg #[.slice A0 F.length c0, .slice A1 S.length c1, .slice A2 T.length c2], .int .i64 find, .int .i64 slot] w (LBE r1 r2 r3 w) := by
  have hB0 := (Below.refl w.heap.size w).alloc (Nat.le_refl _) (.cells #[.slice A0 F.length c0, .slice A1 S.length c1, .slice A2 T.length c2] 26)
  have CB := both_calls A0 c0 F A1 c1 S A2 c2 T find slot _ (Kd.C_below hr0 hB0) hc0 (Kd.C_below hr1 hB0) (Kd.C_below hr2 hB0)
  unfold match_Refuse.f at h
  obtain ⟨q, hq⟩ : ∃ q, askB F S T find slot false false = q := ⟨_, rfl⟩
  rw [hq] at h CB
  have HB0 := Go.Lib.hid hB0
  have HR := Go.Lib.hid (And.intro hr1 hr2)
  have HQ := Go.Lib.hid hq
  have HH := Go.Lib.hid h
  clear hr0 hr1 hr2 hB0 hq h
  go_enter Try.func31, Try.ntmps31
  go_wp2_with fail
  refine CB.mono ?_
  clear CB
  rintro e w1 ⟨rfl, hB1⟩
  have b1 : w1.heap[w.heap.size]? = some (.cells #[.slice A0 F.length c0, .slice A1 S.length c1, .slice A2 T.length c2] 26 (0, 0)) := by
    rw [hB1.block w.heap.size (by simp)]
    exact World.alloc_heap_new w _
  have hW1 : Below w.heap.size w w1 := HB0.out.trans (hB1.mono HB0.out.size)
  have k0 := cell_of_heap b1 (j := 0) rfl
  have k1 := cell_of_heap b1 (j := 1) rfl
  have k2 := cell_of_heap b1 (j := 2) rfl
  have HW1 := Go.Lib.hid hW1
  have BX1 := Go.Lib.hid b1
  clear hB1 b1 hW1
  by_cases hq0 : q = 0
  · subst hq0
    obtain ⟨hcb, hfd, hsl⟩ := ask_parts HQ.out
    obtain ⟨hfd0, hfd1⟩ := hfd rfl
    obtain ⟨hsl0, hsl1⟩ := hsl rfl
    have hk := bok_of_check hcb
    have hfd2 : find < (T.length : Int) := by rw [hk.nt]; exact hfd1
    have hf := HH.out
    rw [if_neg (by simp)] at hf
    have HK := Go.Lib.hid hk
    have HCB := Go.Lib.hid hcb
    clear HH HQ hk hcb
    cases hok : isF F S T with
    | false =>
      have MC := matched_no A0 c0 F A1 c1 S A2 c2 T w1 HK.out (Kd.C_below HR.out.1 HW1.out) (Kd.C_below HR.out.2 HW1.out) hok
      rw [if_pos hok] at hf
      injection hf with hf
      injection hf with hf1 hf
      injection hf with hf2 hf3
      subst hf1 hf2 hf3
      clear hok
      go_wp2_with fail
      refine MC.mono ?_
      clear MC
      rintro e w2 ⟨rfl, hB2⟩
      have HB2 := Go.Lib.hid (HW1.out.trans (hB2.mono HW1.out.size))
      clear hB2
      go_wp2_with fail
      go_ret3
      exact ⟨_, rfl, R_nil _ _, HB2.out⟩
    | true =>
      have MC := matched_yes A0 c0 F A1 c1 S A2 c2 T w1 HK.out (Kd.C_below HR.out.1 HW1.out) (Kd.C_below HR.out.2 HW1.out) hok
      rw [if_neg (by rw [hok]; simp)] at hf
      have HF := Go.Lib.hid hf
      clear hok hf
      go_wp2_with fail
      refine MC.mono ?_
      clear MC
      rintro e w2 ⟨tm, rfl, _, _, _, _, hB2⟩
      have hW2 := HW1.out.trans (hB2.mono HW1.out.size)
      have b2 := (hB2.block w.heap.size (Array.getElem?_eq_some_iff.1 BX1.out).1).trans BX1.out
      have k0 := cell_of_heap b2 (j := 0) rfl
      have k1 := cell_of_heap b2 (j := 1) rfl
      have k2 := cell_of_heap b2 (j := 2) rfl
      obtain ⟨a, Ar, cr, e2, hx, hlc, hC⟩ := rows_at (Kd.C_below HR.out.2 hW2) find hfd0 hfd2
      obtain ⟨row, hrw⟩ : ∃ row, T.getD find.toNat [] = row := ⟨_, rfl⟩
      rw [hrw] at hx hlc hC
      have CC := contains_calls Ar cr row slot w2 hC hlc
      have HF2 := HF.out
      rw [hrw] at HF2
      have HF := Go.Lib.hid HF2
      have HW2 := Go.Lib.hid hW2
      have BX2 := Go.Lib.hid b2
      have e2' := e2
      clear hB2 hW2 b2 hC hrw HF2 e2
      subst e2'
      go_wp2_with fail
      refine CC.mono ?_
      clear CC
      rintro e w3 ⟨rfl, hd⟩
      have hW3 := HW2.out.trans (hd.below.mono HW2.out.size)
      have b3 := (hd.below.block w.heap.size (Array.getElem?_eq_some_iff.1 BX2.out).1).trans BX2.out
      have k0 := cell_of_heap b3 (j := 0) rfl
      have k1 := cell_of_heap b3 (j := 1) rfl
      have k2 := cell_of_heap b3 (j := 2) rfl
      have HW3 := Go.Lib.hid hW3
      clear hW3 b3 hd
      by_cases hin : slot ∈ row
      · rw [decide_eq_true hin]
        have hf := HF.out
        rw [if_neg (by simpa using hin)] at hf
        injection hf with hf
        obtain ⟨rr, hrr⟩ : ∃ rr, hallR F S T find (roomsLess S slot) = rr := ⟨_, rfl⟩
        rw [hrr] at hf
        injection hf with hf1 hf
        injection hf with hf2 hf3
        subst hf2 hf3
        have HRR := Go.Lib.hid hrr
        have HF1 := Go.Lib.hid hf1
        have TC := tried_calls3 A0 c0 F A1 c1 S (some a) c2 T w3 HK.out (Kd.C_below HR.out.1 HW3.out) (Kd.C_below HR.out.2 HW3.out)
        have hrb := room_bound HCB.out slot.toNat (by omega)
        clear hrr hf1 hin
        go_wp2_with fail
        refine TC.mono ?_
        clear TC
        rintro e w4 ⟨t, rfl, hN, en1, en2⟩
        have hlr : (rooms S).length = S.length := by simp [rooms]
        obtain ⟨Ab, eA, hc, hfz, hN2⟩ := hN.set slot hsl0 (by omega) ((rooms S).getD slot.toNat 0 - 1)
        have y3 := cell_of_heap hN.gb (j := 3) rfl
        rw [eA, hlr] at y3
        have FC := fill_calls t T _ hN2.fit find _ hN2.len _ hN2.stands hN2.row
        rw [en1, show fillF T ((rooms S).set slot.toNat ((rooms S).getD slot.toNat 0 - 1)) S.length find (List.replicate F.length (-1)) = rr from HRR.out] at FC
        obtain ⟨v, hv⟩ : ∃ v, (rooms S).getD slot.toNat 0 = v := ⟨_, rfl⟩
        rw [hv] at hrb hc FC hN2
        obtain ⟨hv1, hv2⟩ := hrb
        have HB2 := Go.Lib.hid hN2.B
        have HL2 := Go.Lib.hid hN2.hl
        clear hN hN2 en1 en2 hlr hv eA
        go_wp2_with fail
        refine FC.mono ?_
        clear FC
        rintro e w5 ⟨vh, rfl, hag, _, how⟩
        have hsz := HW3.out.size
        have hb5 := hag.below (HW3.out.trans (HB2.out.mono hsz)) (Nat.le_trans hsz HB2.out.size) (Nat.le_trans hsz HL2.out) (Nat.le_trans hsz HL2.out)
        have hR := Kd.R_of_own (enc := Value.int .i64) (h1 := fun _ => rfl) (ok := fun _ => True) (own_weaken how (Nat.le_trans hsz HB2.out.size)) (fun _ _ => trivial)
        rw [HF1.out] at hR
        have HB5 := Go.Lib.hid hb5
        have HR5 := Go.Lib.hid hR
        clear hag how hb5 hR hsz
        go_wp2_with fail
        go_ret3
        exact ⟨vh, rfl, HR5.out, HB5.out⟩
      · rw [decide_eq_false hin]
        have hf := HF.out
        rw [if_pos hin] at hf
        injection hf with hf
        injection hf with hf1 hf
        injection hf with hf2 hf3
        subst hf1 hf2 hf3
        clear hin
        go_wp2_with fail
        go_ret3
        exact ⟨_, rfl, R_nil _ _, HW3.out⟩
  · have g9 : decide (q = 0) = false := by simpa using hq0
    have hf := HH.out
    rw [if_pos hq0] at hf
    injection hf with hf
    injection hf with hf1 hf
    injection hf with hf2 hf3
    subst hf1 hf2 hf3
    go_wp2_with fail
    go_ret3
    exact ⟨_, rfl, R_nil _ _, HW1.out⟩
theorem PM.match_Refuse.calls (A0 : Option Addr) (c0 : Nat) (F : List Int) (A1 : Option Addr) (c1 : Nat) (S : List S50) (A2 : Option Addr) (c2 : Nat) (T : List (List Int)) (find slot : Int) (r1 : List Int) (r2 : Bool) (r3 : Int) (w : World)
    (hr0 : Kd.C (Kd.int .i64) w A0 F.length F) (hc0 : F.length ≤ c0) (hr1 : Kd.C k50 w A1 S.length S) (hc1 : S.length ≤ c1) (hr2 : Kd.C (Kd.slice 3 (Kd.int .i64)) w A2 T.length T) (hc2 : T.length ≤ c2) (h : match_Refuse.f F S T find slot = some (r1, r2, r3)) :
    Calls Try.prog 31 #[.agg #[.slice A0 F.length c0, .slice A1 S.length c1, .slice A2 T.length c2], .int .i64 find, .int .i64 slot] w (LBE r1 r2 r3 w) := refuse_walk A0 c0 F A1 c1 S A2 c2 T find slot r1 r2 r3 w hr0 hc0 hr1 hr2 h
end Go.Proofs.Ytkmmihadcbfkoaa
end

section
namespace Go.Proofs.Ytkmmihadcbfkoaa
open Go.RowKit Go.Proofs.YtkmmihadcbfkoaaW.PrintWords PM
set_option linter.unusedVariables false
set_option linter.unusedSimpArgs false
/-- The least number of finds that a slot must take, from l on. -/
def lowL (F : List Int) (S : List S50) (T : List (List Int)) (slot : Nat) : Nat → Nat → Nat
  | 0, l => l
  | n + 1, l => if (hallR F S T (-1) ((rooms S).set slot (l : Int))).ok then l else lowL F S T slot n (l + 1)
def fitCount (T : List (List Int)) (slot : Int) : Nat := T.countP fun l => decide (slot ∈ l)
def highN (S : List S50) (T : List (List Int)) (slot : Int) : Nat := min (fitCount T slot) ((rooms S).getD slot.toNat 0).toNat
def PM.match_Load.f (F : List Int) (S : List S50) (T : List (List Int)) (slot : Int) : Option (Int × Int × Int) :=
  if askB F S T 0 slot true false ≠ 0 then some (0, 0, askB F S T 0 slot true false)
  else if isF F S T = false then some (0, 0, 40)
  else some ((lowL F S T slot.toNat (highN S T slot) 0 : Nat), (highN S T slot : Nat), 0)
set_option maxRecDepth 100000 in
set_option maxHeartbeats 8000000 in
theorem PM.match_Load.calls (A0 : Option Addr) (c0 : Nat) (F : List Int) (A1 : Option Addr) (c1 : Nat) (S : List S50) (A2 : Option Addr) (c2 : Nat) (T : List (List Int)) (slot : Int) (r1 : Int) (r2 : Int) (r3 : Int) (w : World)
    (hr0 : Kd.C (Kd.int .i64) w A0 F.length F) (hc0 : F.length ≤ c0) (hr1 : Kd.C k50 w A1 S.length S) (hc1 : S.length ≤ c1) (hr2 : Kd.C (Kd.slice 3 (Kd.int .i64)) w A2 T.length T) (hc2 : T.length ≤ c2) (h : match_Load.f F S T slot = some (r1, r2, r3)) :
    Calls Try.prog 18 #[.agg #[.slice A0 F.length c0, .slice A1 S.length c1, .slice A2 T.length c2], .int .i64 slot] w fun e w' => e = .returned (.tuple #[.int .i64 r1, .int .i64 r2, .int .i64 r3]) ∧ Below w.heap.size w w' := by
  have CB := asked_boxed A0 c0 F A1 c1 S A2 c2 T 0 slot true false w hr0 hc0 hr1 hr2 (.cells #[.slice A0 F.length c0, .slice A1 S.length c1, .slice A2 T.length c2] 26)
  unfold match_Load.f at h
  obtain ⟨q, hq⟩ : ∃ q, askB F S T 0 slot true false = q := ⟨_, rfl⟩
  rw [hq] at h CB
  have HR := Go.Lib.hid (And.intro hr1 hr2)
  have HQ := Go.Lib.hid hq
  have HH := Go.Lib.hid h
  clear hr0 hr1 hr2 hq h
  go_enter Try.func18, Try.ntmps18
  go_wp2_with fail
  refine CB.mono ?_
  clear CB
  rintro e w1 ⟨⟨rfl, hW1⟩, b1⟩
  have k0 := cell_of_heap b1 (j := 0) rfl
  have k1 := cell_of_heap b1 (j := 1) rfl
  have k2 := cell_of_heap b1 (j := 2) rfl
  have HW1 := Go.Lib.hid hW1
  have BX1 := Go.Lib.hid b1
  clear b1 hW1
  by_cases hq0 : q = 0
  · subst hq0
    obtain ⟨hcb, _, hsl⟩ := ask_parts HQ.out
    obtain ⟨hsl0, hsl1⟩ := hsl rfl
    have hk := bok_of_check hcb
    have hf := HH.out
    rw [if_neg (by simp)] at hf
    have lT : T.length ≤ 60 := by rw [hk.nt]; exact hk.nf
    have HK := Go.Lib.hid hk
    have HCB := Go.Lib.hid hcb
    clear HH HQ hk hcb
    cases hok : isF F S T with
    | false =>
      have MC := matched_no A0 c0 F A1 c1 S A2 c2 T w1 HK.out (Kd.C_below HR.out.1 HW1.out) (Kd.C_below HR.out.2 HW1.out) hok
      rw [if_pos hok] at hf
      injection hf with hf
      injection hf with hf1 hf
      injection hf with hf2 hf3
      subst hf1 hf2 hf3
      clear hok
      go_wp2_with fail
      refine MC.mono ?_
      clear MC
      rintro e w2 ⟨rfl, hB2⟩
      have HB2 := Go.Lib.hid (HW1.out.trans (hB2.mono HW1.out.size))
      clear hB2
      go_wp2_with fail
      go_ret3
      exact ⟨rfl, HB2.out⟩
    | true =>
      have MC := matched_yes A0 c0 F A1 c1 S A2 c2 T w1 HK.out (Kd.C_below HR.out.1 HW1.out) (Kd.C_below HR.out.2 HW1.out) hok
      rw [if_neg (by rw [hok]; simp)] at hf
      injection hf with hf
      obtain ⟨hi, hhi⟩ : ∃ hi, highN S T slot = hi := ⟨_, rfl⟩
      rw [hhi] at hf
      injection hf with hf1 hf
      injection hf with hf2 hf3
      subst hf2 hf3
      have HF1 := Go.Lib.hid hf1
      have HHI := Go.Lib.hid hhi
      clear hok hf1 hhi
      go_wp2_with fail
      refine MC.mono ?_
      clear MC
      rintro e w2 ⟨t, rfl, _, _, _, _, hB2⟩
      have hW2 := HW1.out.trans (hB2.mono HW1.out.size)
      have b2 := (hB2.block w.heap.size (Array.getElem?_eq_some_iff.1 BX1.out).1).trans BX1.out
      have k2 := cell_of_heap b2 (j := 2) rfl
      have HW2 := Go.Lib.hid hW2
      have BX2 := Go.Lib.hid b2
      clear hB2 hW2 b2
      go_wp2_with fail
      go_loopw [5, 33] (fun n i wr => ∃ k : Nat, k ≤ T.length ∧ i = .int .i64 k ∧ n = .int .i64 ((fitCount (T.take k) slot : Nat) : Int) ∧ Hid (Below w2.heap.size w2 wr)) (fun _ i _ => T.length - (intOf i).toNat)
      case atStart => exact ⟨0, Nat.zero_le _, rfl, rfl, Below.refl _ _⟩
      case round =>
        obtain ⟨k, hk, rfl, rfl, HID⟩ := hrel
        by_cases hlt : k < T.length
        · have hW := HW2.out.trans (HID.out.mono HW2.out.size)
          obtain ⟨a8, Ar, cr, e8, hx8, hlc, hC⟩ := rows_at (Kd.C_below HR.out.2 hW) (k : Int) (by omega) (by omega)
          rw [Int.toNat_natCast] at hx8 hlc hC
          have hcnt : fitCount (T.take (k + 1)) slot = fitCount (T.take k) slot + if slot ∈ T.getD k [] then 1 else 0 := by
            unfold fitCount
            rw [List.take_succ_eq_append_getElem hlt, List.countP_append]
            simp [List.getD_eq_getElem?_getD, List.getElem?_eq_getElem hlt, List.countP_cons]
          have hcl : fitCount (T.take k) slot ≤ k := Nat.le_trans List.countP_le_length (by simp; omega)
          obtain ⟨row, hrw⟩ : ∃ row, T.getD k [] = row := ⟨_, rfl⟩
          rw [hrw] at hx8 hlc hC hcnt
          obtain ⟨n9, hn9⟩ : ∃ n9, fitCount (T.take k) slot = n9 := ⟨_, rfl⟩
          rw [hn9] at hcnt hcl ⊢
          have CC := contains_calls Ar cr row slot wr hC hlc
          have HCNT := Go.Lib.hid hcnt
          clear hW hC hcnt hrw hn9
          rw [e8] at *
          go_wp2_with fail
          refine CC.mono ?_
          clear CC
          rintro e w3 ⟨rfl, hd⟩
          have HB3 := Go.Lib.hid (HID.out.trans (hd.below.mono HID.out.size))
          clear hd
          by_cases hin : slot ∈ row
          · rw [decide_eq_true hin]
            have hcnt := HCNT.out
            rw [if_pos hin] at hcnt
            have HCN := Go.Lib.hid hcnt
            clear hcnt hin
            go_wp2_with fail
            go_roundw
            case rel => exact ⟨k + 1, by omega, by simp, by rw [HCN.out]; simp, HB3.out⟩
            case measure => simp [intOf]; omega
          · rw [decide_eq_false hin]
            have hcnt := HCNT.out
            rw [if_neg hin] at hcnt
            have HCN := Go.Lib.hid hcnt
            clear hcnt hin
            go_wp2_with fail
            go_roundw
            case rel => exact ⟨k + 1, by omega, by simp, by rw [HCN.out]; simp, HB3.out⟩
            case measure => simp [intOf]; omega
        · obtain rfl : k = T.length := by omega
          rw [List.take_length]
          have hW := HW2.out.trans (HID.out.mono HW2.out.size)
          have b3 := (HID.out.block w.heap.size (Array.getElem?_eq_some_iff.1 BX2.out).1).trans BX2.out
          have k1 := cell_of_heap b3 (j := 1) rfl
          obtain ⟨a7, e7, x0, x1, x2⟩ := at_T50 (Kd.C_below HR.out.1 hW) slot hsl0 hsl1
          have hpb := room_bound HCB.out slot.toNat (by omega)
          have hfc : fitCount T slot ≤ 60 := Nat.le_trans List.countP_le_length lT
          have hro : (rooms S).getD slot.toNat 0 = (rd_T50 S slot).f2 := by
            simp [rooms, rd_T50, List.getD_eq_getElem?_getD, List.getElem?_eq_getElem (show slot.toNat < S.length by omega)]
          rw [hro] at hpb
          have hh : highN S T slot = min (fitCount T slot) (rd_T50 S slot).f2.toNat := by unfold highN; rw [hro]
          rw [HHI.out] at hh
          obtain ⟨p9, hp9⟩ : ∃ p9, (rd_T50 S slot).f2 = p9 := ⟨_, rfl⟩
          obtain ⟨n9, hn9⟩ : ∃ n9, fitCount T slot = n9 := ⟨_, rfl⟩
          rw [hp9] at x2 hpb hh
          rw [hn9] at hfc hh ⊢
          obtain ⟨hp1, hp2⟩ := hpb
          have HHH := Go.Lib.hid hh
          have HW := Go.Lib.hid hW
          have BX3 := Go.Lib.hid b3
          clear hW b3 hro hh hn9 hp9 HID
          subst e7
          go_wp2_with fail
          have hmin : min (n9 : Int) p9 = (hi : Int) := by have := HHH.out; omega
          rw [hmin]
          have hhi60 : hi ≤ 60 := by omega
          have hlow := HF1.out
          obtain ⟨lo, hlo⟩ : ∃ lo, lowL F S T slot.toNat hi 0 = lo := ⟨_, rfl⟩
          rw [hlo] at hlow
          subst hlow
          have HLO := Go.Lib.hid hlo
          clear hmin hlo HF1 x0 x1 x2 k0 k1 k2
          go_loopw [4] (fun l wr => ∃ k : Nat, k ≤ hi ∧ l = .int .i64 k ∧ Hid (lowL F S T slot.toNat (hi - k) k = lo ∧ Below w.heap.size w wr ∧ wr.heap[w.heap.size]? = some (.cells #[.slice A0 F.length c0, .slice (some a7) S.length c1, .slice A2 T.length c2] 26 (0, 0)))) (fun l _ => hi - (intOf l).toNat)
          case atStart => exact ⟨0, Nat.zero_le _, rfl, HLO.out, HW.out, BX3.out⟩
          case round =>
            obtain ⟨k, hk, rfl, HID⟩ := hrel
            obtain ⟨hlk, hbl, hbx⟩ := HID.out
            by_cases hlt : k < hi
            · have k0 := cell_of_heap hbx (j := 0) rfl
              have k1 := cell_of_heap hbx (j := 1) rfl
              have k2 := cell_of_heap hbx (j := 2) rfl
              have TC := tried_calls3 A0 c0 F (some a7) c1 S A2 c2 T _ HK.out (Kd.C_below HR.out.1 hbl) (Kd.C_below HR.out.2 hbl)
              obtain ⟨n, hn⟩ : ∃ n, hi - k = n + 1 := ⟨hi - k - 1, by omega⟩
              rw [hn] at hlk
              unfold lowL at hlk
              have HLK := Go.Lib.hid hlk
              have HN := Go.Lib.hid hn
              have HBL := Go.Lib.hid hbl
              have HBX := Go.Lib.hid hbx
              clear hlk hn hbl hbx HID
              go_wp2_with fail
              refine TC.mono ?_
              clear TC
              rintro e w4 ⟨t, rfl, hN, en1, en2⟩
              have hlr : (rooms S).length = S.length := by simp [rooms]
              obtain ⟨Ab, eA, hc, hfz, hN2⟩ := hN.set slot hsl0 (by omega) (k : Int)
              have y3 := cell_of_heap hN.gb (j := 3) rfl
              rw [eA, hlr] at y3
              have FC := fill_calls t T _ hN2.fit (-1) _ hN2.len _ hN2.stands hN2.row
              obtain ⟨rr, hrr⟩ : ∃ rr, hallR F S T (-1) ((rooms S).set slot.toNat (k : Int)) = rr := ⟨_, rfl⟩
              rw [en1, show fillF T ((rooms S).set slot.toNat (k : Int)) S.length (-1) (List.replicate F.length (-1)) = rr from hrr] at FC
              have hlk := HLK.out
              rw [hrr] at hlk
              have HLK := Go.Lib.hid hlk
              unfold FillPost at FC
              obtain ⟨ok, hok⟩ : ∃ ok, rr.ok = ok := ⟨_, rfl⟩
              rw [hok] at FC
              have HOK := Go.Lib.hid hok
              have HB2 := Go.Lib.hid hN2.B
              have HL2 := Go.Lib.hid hN2.hl
              clear hN hN2 en1 en2 hlr eA hrr hlk hok
              go_wp2_with fail
              refine FC.mono ?_
              clear FC
              rintro e w5 ⟨vh, rfl, hag, _, how⟩
              have hsz := HBL.out.size
              have hb5 := hag.below HB2.out HB2.out.size HL2.out HL2.out
              have hbw := HBL.out.trans (hb5.mono hsz)
              have hbx5 := (hb5.block w.heap.size (Array.getElem?_eq_some_iff.1 HBX.out).1).trans HBX.out
              have HB5 := Go.Lib.hid (And.intro hbw hbx5)
              clear hag how hb5 hsz hbw hbx5
              cases ok with
              | true =>
                have hl : k = lo := by have := HLK.out; rw [HOK.out, if_pos rfl] at this; exact this
                subst hl
                go_wp2_with fail
                go_ret3
                exact ⟨rfl, HB5.out.1⟩
              | false =>
                have hl : lowL F S T slot.toNat n (k + 1) = lo := by have := HLK.out; rw [HOK.out, if_neg (by simp)] at this; exact this
                have HL := Go.Lib.hid hl
                clear hl
                go_wp2_with fail
                go_roundw
                case rel => exact ⟨k + 1, by omega, by simp, by rw [show hi - (k + 1) = n from by have := HN.out; omega]; exact HL.out, HB5.out.1, HB5.out.2⟩
                case measure => simp [intOf]; omega
            · obtain rfl : k = hi := by omega
              rw [Nat.sub_self] at hlk
              have hl : k = lo := hlk
              subst hl
              have HBL := Go.Lib.hid hbl
              clear hlk hbl hbx HID
              go_wp2_with fail
              go_ret3
              exact ⟨rfl, HBL.out⟩
  · have g9 : decide (q = 0) = false := by simpa using hq0
    have hf := HH.out
    rw [if_pos hq0] at hf
    injection hf with hf
    injection hf with hf1 hf
    injection hf with hf2 hf3
    subst hf1 hf2 hf3
    go_wp2_with fail
    go_ret3
    exact ⟨rfl, HW1.out⟩
end Go.Proofs.Ytkmmihadcbfkoaa
end

section
namespace Go.Proofs.Ytkmmihadcbfkoaa
open Go.RowKit Go.Proofs.YtkmmihadcbfkoaaW.PrintWords PM
set_option linter.unusedVariables false
set_option linter.unusedSimpArgs false
def chancesF (fits : List (List Int)) (room : List Int) (ns : Nat) (has : List Int) (find : Nat) : List Int := (fits.getD find []).filter fun s => (withF fits room ns has find s).ok
theorem TGood.later {t : TL} {fits : List (List Int)} {room has : List Int} {w w' : World} (h : TGood t fits room has w) (hb : Below w.heap.size w w') : TGood t fits room has w' :=
  ⟨h.fit, h.st.later (Agree.of_below hb), h.row.below hb, h.len, h.capr, h.caph, h.rooms, h.s0, h.caps⟩
def OneList (l : List Int) (w : World) (e : Ending) (w' : World) : Prop := ∃ v, e = .returned v ∧ Kd.R (Kd.int .i64) 3 w' w.heap.size (fun _ => True) v l ∧ Below w.heap.size w w'
set_option maxRecDepth 100000 in
set_option maxHeartbeats 8000000 in
theorem chances_calls (t : TL) (fits : List (List Int)) (room has : List Int) (find : Nat) (w : World) (hfd : find < t.nh) (hG : TGood t fits room has w) :
    Calls Try.prog 57 #[.pointer (some ⟨t.g, 0, none⟩), .int .i64 find] w (OneList (chancesF fits room t.n1 has find) w) := by
  have hst := hG.st.still
  have f2 := hst.f2
  have hft : find < fits.length := by rw [hG.fit.finds]; exact hfd
  obtain ⟨a2, e2, hx, hC⟩ := hst.fits find hft
  have hcap := hG.caps find hft
  have hrl := hG.fit.row find hft
  have WC : ∀ (s : Int) (W : World), Below w.heap.size w W → Calls Try.prog 67 #[.pointer (some ⟨t.g, 0, none⟩), .int .i64 find, .int .i64 s] W (WithPost (withF fits room t.n1 has find s) W) := fun s W hb => with_calls t fits room has find s W hfd (hG.later hb)
  unfold chancesF
  obtain ⟨row, hrw⟩ : ∃ row, fits.getD find [] = row := ⟨_, rfl⟩
  rw [hrw] at hx hC hcap hrl ⊢
  obtain ⟨p, hp⟩ : ∃ p : Int → WR, (fun s => withF fits room t.n1 has find s) = p := ⟨_, rfl⟩
  have WC : ∀ (s : Int) (W : World), Below w.heap.size w W → Calls Try.prog 67 #[.pointer (some ⟨t.g, 0, none⟩), .int .i64 find, .int .i64 s] W (WithPost (p s) W) := by rw [← hp]; exact WC
  rw [show (fun s => (withF fits room t.n1 has find s).ok) = fun s => (p s).ok from by rw [← hp]]
  rw [e2] at f2
  have lFi : fits.length ≤ 1000 := by rw [hG.fit.finds]; exact hG.fit.nh
  have hlf : (find : Int) < (fits.length : Int) := by omega
  have HC := Go.Lib.hid hC
  clear hG hst hrw hC hp e2
  go_enter Try.func57, Try.ntmps57
  go_wp2_with fail
  go_loopw [5, 22] (fun o i wr => ∃ k : Nat, k ≤ row.length ∧ i = .int .i64 k ∧ Hid (Kd.R (Kd.int .i64) 3 wr w.heap.size (fun _ => True) o ((row.take k).filter fun s => (p s).ok) ∧ Below w.heap.size w wr)) (fun _ i _ => row.length - (intOf i).toNat)
  case atStart => exact ⟨0, Nat.zero_le _, rfl, Kd.R_nil _ _ _ _ _, Below.refl _ _⟩
  case round =>
    obtain ⟨k, hk, rfl, HID⟩ := hrel
    obtain ⟨hR, hbl⟩ := HID.out
    by_cases hlt : k < row.length
    · obtain ⟨a9, e9, x9⟩ := Kd.at_int (Kd.C_below HC.out hbl) (k : Int) (by omega) (by omega)
      rw [Int.toNat_natCast, show rd row (k : Int) = row.getD k 0 from by simp [rd]] at x9
      have htk : row.take (k + 1) = row.take k ++ [row.getD k 0] := by
        rw [List.take_succ_eq_append_getElem hlt]
        simp [List.getD_eq_getElem?_getD, List.getElem?_eq_getElem hlt]
      obtain ⟨s9, hs9⟩ : ∃ s9, row.getD k 0 = s9 := ⟨_, rfl⟩
      rw [hs9] at x9 htk
      have WC9 := WC s9 wr hbl
      unfold WithPost at WC9
      obtain ⟨ok, hok⟩ : ∃ ok, (p s9).ok = ok := ⟨_, rfl⟩
      rw [hok] at WC9
      have hfl : ((row.take k).filter fun s => (p s).ok).length ≤ k := Nat.le_trans (List.length_filter_le _ _) (by simp; omega)
      have HTK := Go.Lib.hid htk
      have HOK := Go.Lib.hid hok
      have HR := Go.Lib.hid hR
      have HBL := Go.Lib.hid hbl
      have e9' := e9
      clear htk hok hR hbl hs9 HID
      rw [e9'] at *
      go_wp2_with fail
      refine WC9.mono ?_
      clear WC9
      rintro e w1 ⟨v1, rfl, _, hb1⟩
      have hB1 := HBL.out.trans (hb1.mono HBL.out.size)
      have hR1 : Kd.R (Kd.int .i64) 3 w1 w.heap.size (fun _ => True) u5 ((row.take k).filter fun s => (p s).ok) := Kd.R_of_own (enc := Value.int .i64) (h1 := fun _ => rfl) (ok := fun _ => True) (pw_own_below (Kd.own_of_R HR.out) hb1) (fun _ _ => trivial)
      have HR1 := Go.Lib.hid hR1
      have HB1 := Go.Lib.hid hB1
      clear hb1 hB1 hR1
      cases ok with
      | true =>
        go_wp2_with (first | (at_builtin; refine Kd.R_append (Kd.int .i64) (w0 := w) w.heap.size rfl (.tmp 34) (.tmp 36) 22 3 (.int .i64 0) 8 rfl Try.underlying22 info3 rfl (by decide) (by omega) u5 ((row.take k).filter fun s => (p s).ok) s9 [.int .i64 s9] (fun _ => True) (fun _ => False) rfl rfl rfl (fun _ hk => hk.elim) (fun _ _ => trivial) HR1.out HB1.out HB1.out.size (by omega) ?_; intro v5 w5 hR5 hB5 _ _; have HR5 := Go.Lib.hid hR5; have HB5 := Go.Lib.hid hB5; clear hR5 hB5))
        go_roundw
        case rel => exact ⟨k + 1, by omega, by simp, by rw [HTK.out, List.filter_append]; simpa [HOK.out] using HR5.out, HB5.out⟩
        case measure => simp [intOf]; omega
      | false =>
        go_wp2_with fail
        go_roundw
        case rel => exact ⟨k + 1, by omega, by simp, by rw [HTK.out, List.filter_append]; simpa [HOK.out] using HR1.out, HB1.out⟩
        case measure => simp [intOf]; omega
    · obtain rfl : k = row.length := by omega
      rw [List.take_length] at hR
      have HR := Go.Lib.hid (And.intro hR hbl)
      clear hR hbl HID
      go_wp2_with fail
      go_ret
      exact ⟨_, rfl, HR.out.1, HR.out.2⟩
end Go.Proofs.Ytkmmihadcbfkoaa
end

section
namespace Go.Proofs.Ytkmmihadcbfkoaa
open Go.RowKit Go.Proofs.YtkmmihadcbfkoaaW.PrintWords PM
set_option linter.unusedVariables false
set_option linter.unusedSimpArgs false
def allChances (F : List Int) (S : List S50) (T : List (List Int)) : List (List Int) := (List.range F.length).map fun f => chancesF T (rooms S) S.length (hasF F S T) f
def PM.match_Chances.f (F : List Int) (S : List S50) (T : List (List Int)) : Option (List (List Int) × Int) :=
  if checkB F S T ≠ 0 then some ([], checkB F S T) else if isF F S T = false then some ([], 40) else some (allChances F S T, 0)
theorem good_of_in {F : List Int} {S : List S50} {T : List (List Int)} {b0 : Nat} {t : TL} {has : List Int} {w : World} {A : Option Addr} {n c : Nat} (hcb : checkB F S T = 0) (h : TIn b0 t T (rooms S) has w) (h1 : t.n1 = S.length) (h0 : t.s0 = .slice A n c) : TGood t T (rooms S) has w :=
  ⟨h.fit, h.st, h.row, h.len, h.capr, h.caph, fun i hi => room_bound hcb i (by omega), ⟨A, n, c, h0⟩, h.caps⟩
set_option maxRecDepth 100000 in
set_option maxHeartbeats 8000000 in
theorem PM.match_Chances.calls (A0 : Option Addr) (c0 : Nat) (F : List Int) (A1 : Option Addr) (c1 : Nat) (S : List S50) (A2 : Option Addr) (c2 : Nat) (T : List (List Int)) (r1 : List (List Int)) (r2 : Int) (w : World)
    (hr0 : Kd.C (Kd.int .i64) w A0 F.length F) (hc0 : F.length ≤ c0) (hr1 : Kd.C k50 w A1 S.length S) (hc1 : S.length ≤ c1) (hr2 : Kd.C (Kd.slice 3 (Kd.int .i64)) w A2 T.length T) (hc2 : T.length ≤ c2) (h : match_Chances.f F S T = some (r1, r2)) :
    Calls Try.prog 16 #[.agg #[.slice A0 F.length c0, .slice A1 S.length c1, .slice A2 T.length c2]] w fun e w' => ∃ v0_ : Value, e = .returned (.tuple #[v0_, .int .i64 r2]) ∧ Kd.S (Kd.slice 3 (Kd.int .i64)) 22 w' w.heap.size (fun _ => True) v0_ r1 ∧ Below w.heap.size w w' := by
  have hB0 := (Below.refl w.heap.size w).alloc (Nat.le_refl _) (.cells #[.slice A0 F.length c0, .slice A1 S.length c1, .slice A2 T.length c2] 26)
  have CB := checkboard_calls A0 c0 F A1 c1 S A2 c2 T _ (Kd.C_below hr0 hB0) hc0 (Kd.C_below hr1 hB0) (Kd.C_below hr2 hB0)
  unfold match_Chances.f at h
  obtain ⟨q, hq⟩ : ∃ q, checkB F S T = q := ⟨_, rfl⟩
  rw [hq] at h CB
  have HB0 := Go.Lib.hid hB0
  have HR := Go.Lib.hid (And.intro hr1 hr2)
  have HQ := Go.Lib.hid hq
  have HH := Go.Lib.hid h
  clear hr0 hr1 hr2 hB0 hq h
  go_enter Try.func16, Try.ntmps16
  go_wp2_with fail
  refine CB.mono ?_
  clear CB
  rintro e w1 ⟨rfl, hB1⟩
  have b1 : w1.heap[w.heap.size]? = some (.cells #[.slice A0 F.length c0, .slice A1 S.length c1, .slice A2 T.length c2] 26 (0, 0)) := by
    rw [hB1.block w.heap.size (by simp)]
    exact World.alloc_heap_new w _
  have hW1 : Below w.heap.size w w1 := HB0.out.trans (hB1.mono HB0.out.size)
  have k0 := cell_of_heap b1 (j := 0) rfl
  have k1 := cell_of_heap b1 (j := 1) rfl
  have k2 := cell_of_heap b1 (j := 2) rfl
  have HW1 := Go.Lib.hid hW1
  have BX1 := Go.Lib.hid b1
  clear hB1 b1 hW1
  by_cases hq0 : q = 0
  · subst hq0
    have hcb := HQ.out
    have hk := bok_of_check hcb
    have hf := HH.out
    rw [if_neg (by simp)] at hf
    have HK := Go.Lib.hid hk
    have HCB := Go.Lib.hid hcb
    have lF : F.length ≤ 60 := hk.nf
    clear HH HQ hk hcb
    cases hok : isF F S T with
    | false =>
      have MC := matched_no A0 c0 F A1 c1 S A2 c2 T w1 HK.out (Kd.C_below HR.out.1 HW1.out) (Kd.C_below HR.out.2 HW1.out) hok
      rw [if_pos hok] at hf
      injection hf with hf
      injection hf with hf1 hf2
      subst hf1 hf2
      clear hok
      go_wp2_with fail
      refine MC.mono ?_
      clear MC
      rintro e w2 ⟨rfl, hB2⟩
      have HB2 := Go.Lib.hid (HW1.out.trans (hB2.mono HW1.out.size))
      clear hB2
      go_wp2_with fail
      go_ret2
      exact ⟨_, rfl, Kd.S_nil _ _ _ _ _, HB2.out⟩
    | true =>
      have MC := matched_yes A0 c0 F A1 c1 S A2 c2 T w1 HK.out (Kd.C_below HR.out.1 HW1.out) (Kd.C_below HR.out.2 HW1.out) hok
      rw [if_neg (by rw [hok]; simp)] at hf
      injection hf with hf
      injection hf with hf1 hf2
      subst hf2
      have HF1 := Go.Lib.hid hf1
      clear hok hf1
      go_wp2_with fail
      refine MC.mono ?_
      clear MC
      rintro e w2 ⟨t, rfl, en1, enh, es0, hT, hB2⟩
      have hW2 := HW1.out.trans (hB2.mono HW1.out.size)
      have b2 := (hB2.block w.heap.size (Array.getElem?_eq_some_iff.1 BX1.out).1).trans BX1.out
      have k0 := cell_of_heap b2 (j := 0) rfl
      have hG := good_of_in HCB.out hT en1 es0
      have CH : ∀ (f : Nat) (W : World), f < F.length → Below w2.heap.size w2 W → Calls Try.prog 57 #[.pointer (some ⟨t.g, 0, none⟩), .int .i64 f] W (OneList (chancesF T (rooms S) S.length (hasF F S T) f) W) := fun f W hf hb => by
        have := chances_calls t T (rooms S) (hasF F S T) f W (by omega) (hG.later hb)
        rwa [en1] at this
      have HW2 := Go.Lib.hid hW2
      clear hB2 hW2 b2 hG hT en1 enh es0
      go_wp2_with fail
      go_loopw [7, 25] (fun o i wr => ∃ k : Nat, k ≤ F.length ∧ i = .int .i64 k ∧ Hid (Kd.S (Kd.slice 3 (Kd.int .i64)) 22 wr w2.heap.size (fun _ => True) o ((List.range k).map fun f => chancesF T (rooms S) S.length (hasF F S T) f) ∧ Below w2.heap.size w2 wr)) (fun _ i _ => F.length - (intOf i).toNat)
      case atStart => exact ⟨0, Nat.zero_le _, rfl, Kd.S_nil _ _ _ _ _, Below.refl _ _⟩
      case round =>
        obtain ⟨k, hk, rfl, HID⟩ := hrel
        obtain ⟨hS, hbl⟩ := HID.out
        by_cases hlt : k < F.length
        · have C9 := CH k wr hlt hbl
          have HS := Go.Lib.hid hS
          have HBL := Go.Lib.hid hbl
          have hll : ((List.range k).map fun f => chancesF T (rooms S) S.length (hasF F S T) f).length = k := by simp
          have HLL := Go.Lib.hid hll
          clear hS hbl HID hll
          go_wp2_with fail
          refine C9.mono ?_
          clear C9
          rintro e w3 ⟨v3, rfl, hR3, hb3⟩
          obtain ⟨A3, c3, rfl, _, _⟩ := Kd.R_reads hR3
          have hB3 := HBL.out.trans (hb3.mono HBL.out.size)
          have hBw := hB3
          have hS3 := Kd.S_old HS.out hb3
          have hne : ∀ q, some q = (Value.slice A3 (chancesF T (rooms S) S.length (hasF F S T) k).length c3).ownBlock → wr.heap.size ≤ q := fun q hq => own_base (Kd.own_of_R hR3) q hq.symm
          have hult := Kd.S_lt HS.out
          have hM : (Kd.slice 3 (Kd.int .i64)).M w3 w2.heap.size (fun q => some q = (Value.slice A3 (chancesF T (rooms S) S.length (hasF F S T) k).length c3).ownBlock) (chancesF T (rooms S) S.length (hasF F S T) k) [.slice A3 (chancesF T (rooms S) S.length (hasF F S T) k).length c3] :=
            Kd.M_row (Kd.R_lower (Kd.R_tight rfl hR3) HBL.out.size)
          have hS4 := Kd.S_mono (ok' := fun q => True ∧ ¬ some q = (Value.slice A3 (chancesF T (rooms S) S.length (hasF F S T) k).length c3).ownBlock) hS3 (fun q hq => ⟨trivial, fun e => by have := hne q e; omega⟩)
          have hokp : ∀ q, some q = (Value.slice A3 (chancesF T (rooms S) S.length (hasF F S T) k).length c3).ownBlock → True ∧ some q ≠ u7.ownBlock := fun q hq => ⟨trivial, fun e => by have := hne q hq; have := hult q e.symm; omega⟩
          have HP := Go.Lib.hid (And.intro hM (And.intro hS4 (And.intro hokp (And.intro hB3 hBw))))
          clear hM hS4 hokp hB3 hBw hne hult hS3 hb3 hR3
          go_wp2_with (first | (at_builtin; refine Kd.S_append (Kd.slice 3 (Kd.int .i64)) (w0 := w2) w2.heap.size rfl (.tmp 28) (.tmp 32) 24 22 (.slice none 0 0) 24 rfl Try.underlying24 info22 rfl (by decide) (by omega) u7 ((List.range k).map fun f => chancesF T (rooms S) S.length (hasF F S T) f) (chancesF T (rooms S) S.length (hasF F S T) k) [.slice A3 (chancesF T (rooms S) S.length (hasF F S T) k).length c3] (fun _ => True) (fun q => some q = (Value.slice A3 (chancesF T (rooms S) S.length (hasF F S T) k).length c3).ownBlock) rfl rfl HP.out.1 HP.out.2.2.1 (fun _ _ => trivial) HP.out.2.1 HP.out.2.2.2.2 HP.out.2.2.2.2.size (by rw [HLL.out]; omega) ?_; intro v5 w5 hR5 hB5 hg5 hat5; have HR5 := Go.Lib.hid hR5; have HB5 := Go.Lib.hid hB5; have HG5 := Go.Lib.hid (And.intro hg5 hat5); clear hR5 hB5 hg5 hat5))
          go_roundw
          case rel => exact ⟨k + 1, by omega, by simp, by rw [List.range_succ, List.map_append]; exact HR5.out, HB5.out⟩
          case measure => simp [intOf]; omega
        · obtain rfl : k = F.length := by omega
          have HS := Go.Lib.hid hS
          have HBL := Go.Lib.hid hbl
          clear hS hbl HID
          go_wp2_with fail
          go_ret2
          exact ⟨_, rfl, by rw [← HF1.out]; exact Kd.S_lower HS.out HW2.out.size, HW2.out.trans (HBL.out.mono HW2.out.size)⟩
  · have g9 : decide (q = 0) = false := by simpa using hq0
    have hf := HH.out
    rw [if_pos hq0] at hf
    injection hf with hf
    injection hf with hf1 hf2
    subst hf1 hf2
    go_wp2_with fail
    go_ret2
    exact ⟨_, rfl, Kd.S_nil _ _ _ _ _, HW1.out⟩
end Go.Proofs.Ytkmmihadcbfkoaa
end

section
namespace Go.Proofs.Ytkmmihadcbfkoaa.PM
open Go.RowKit Go.Proofs.YtkmmihadcbfkoaaW.PrintWords Go.Proofs.YtkmmihadcbfkoaaW.PrintLast Go.Proofs.YtkmmihadcbfkoaaW.PrintMore
set_option linter.unusedVariables false
set_option linter.unusedSimpArgs false
def match_Must.l0 : Nat → List Int → List (List Int) → Int → Int → Option (List Int × Int)
 | 0, _, _, _, _ => none
 | k + 1, x6, x18, x19, x20 => if x20 < x19 then (if 0 ≤ x20 then (if x20 < (x18.length : Int) then (if ((rd_L1 x18 x20).length : Int) = 1 then (if 0 < ((rd_L1 x18 x20).length : Int) then (if x6.length < 17592186044416 then (match_Must.l0 k (x6 ++ [rd (rd_L1 x18 x20) 0]) x18 x19 (wrap64 (x20 + 1))) else (none)) else (none)) else (if x6.length < 17592186044416 then (match_Must.l0 k (x6 ++ [(-1)]) x18 x19 (wrap64 (x20 + 1))) else (none))) else (none)) else (none)) else (some (x6, 0))
def match_Must.f (k : Nat) (l0_0 : List Int) (l0_1 : List (S50)) (l0_2 : List (List Int)) : Option (List Int × Int) := (match_Chances.f l0_0 l0_1 l0_2).bind fun bt115 => (if bt115.2 = 0 then (match_Must.l0 k ([] : List Int) bt115.1 (bt115.1.length : Int) 0) else (some (([] : List Int), bt115.2)))
theorem match_Must.mono_l : ∀ k, (∀ y0 y1 y2 y3, LeO (match_Must.l0 k y0 y1 y2 y3) (match_Must.l0 (k + 1) y0 y1 y2 y3))
 | 0 => fun _ _ _ _ r h => by simp [match_Must.l0] at h
 | k + 1 => by
  have ih0 := match_Must.mono_l k
  ·
   intro y0 y1 y2 y3
   unfold match_Must.l0
   repeat' first
   | (with_reducible exact ih0 _ _ _ _)
   | (with_reducible exact LeO.refl _)
   | (with_reducible exact LeO.none _)
   | (with_reducible refine LeO.ite ?_ ?_)
   | (with_reducible refine LeO.bind ?_ (fun _ => ?_))
   | exact ih0 _ _ _ _
   | exact LeO.none _
   | refine LeO.ite ?_ ?_
   | refine LeO.bind ?_ (fun _ => ?_)
theorem match_Must.mono : ∀ a0 a1 a2 k, LeO (match_Must.f k a0 a1 a2) (match_Must.f (k + 1) a0 a1 a2) := by
 intro a0 a1 a2 k
 have ih0 := match_Must.mono_l k
 unfold match_Must.f
 repeat' first
   | (with_reducible exact ih0 _ _ _ _)
   | (with_reducible exact LeO.refl _)
   | (with_reducible exact LeO.none _)
   | (with_reducible refine LeO.ite ?_ ?_)
   | (with_reducible refine LeO.bind ?_ (fun _ => ?_))
   | exact ih0 _ _ _ _
   | exact LeO.none _
   | refine LeO.ite ?_ ?_
   | refine LeO.bind ?_ (fun _ => ?_)
set_option maxHeartbeats 8000000 in
set_option maxRecDepth 100000 in
theorem match_Must.calls (k : Nat) (A0_0 : Option Addr) (c0_0 : Nat) (l0_0 : List Int) (A0_1 : Option Addr) (c0_1 : Nat) (l0_1 : List (S50)) (A0_2 : Option Addr) (c0_2 : Nat) (l0_2 : List (List Int)) (r1 : List Int) (r2 : Int) (w : World) (hr0_0 : Kd.C (Kd.int .i64) w A0_0 l0_0.length l0_0) (hc0_0 : l0_0.length ≤ c0_0) (hr0_1 : Kd.C k50 w A0_1 l0_1.length l0_1) (hc0_1 : l0_1.length ≤ c0_1) (hr0_2 : Kd.C (Kd.slice 3 (Kd.int .i64)) w A0_2 l0_2.length l0_2) (hc0_2 : l0_2.length ≤ c0_2) (h : match_Must.f k l0_0 l0_1 l0_2 = some (r1, r2)) :
  Calls Try.prog 17 #[.agg #[.slice A0_0 l0_0.length c0_0, .slice A0_1 l0_1.length c0_1, .slice A0_2 l0_2.length c0_2]] w fun e w' => ∃ v0_ : Value, e = .returned (.tuple #[v0_, .int .i64 r2]) ∧ Kd.R (Kd.int .i64) 3 w' w.heap.size (fun _ => True) v0_ r1 ∧ Below w.heap.size w w' := by
 have hu26 := Try.underlying26
 have HR0_0 := Aside0.mk hr0_0
 have HC0_0 := Aside0.mk hc0_0
 clear hr0_0 hc0_0
 have HR0_1 := Aside0.mk hr0_1
 have HC0_1 := Aside0.mk hc0_1
 clear hr0_1 hc0_1
 have HR0_2 := Aside0.mk hr0_2
 have HC0_2 := Aside0.mk hc0_2
 clear hr0_2 hc0_2
 have HB := Aside0.mk (Below.refl w.heap.size w)
 have H : ((match_Chances.f l0_0 l0_1 l0_2).bind fun bt115 => (if bt115.2 = 0 then (match_Must.l0 k ([] : List Int) bt115.1 (bt115.1.length : Int) 0) else (some (([] : List Int), bt115.2)))) = some (r1, r2) := h
 clear h
 replace H := Option.bind_eq_some_iff.mp H
 obtain ⟨⟨t115, t118⟩, A20, H⟩ := H
 replace H : (if t118 = 0 then (match_Must.l0 k ([] : List Int) t115 (t115.length : Int) 0) else (some (([] : List Int), t118))) = some (r1, r2) := H
 have A2 := Aside0.mk A20
 clear A20
 by_cases c3 : t118 = 0
 ·
  rw [if_pos c3] at H
  have c3b0 : (t118 == 0) = true := beq_iff_eq.mpr c3
  have c3b1 : (t118 != 0) = false := bne_eq_false_iff_eq.mpr c3
  clear c3
  have H' := Aside0.mk H
  clear H
  go_enter Try.func17, Try.ntmps17
  go_wp2_with (first | ((with_reducible refine gate_dst (N := 1) rfl ?_); refine box_event ?hg (N := 1) ?hd (cs := #[.slice A0_0 l0_0.length c0_0, .slice A0_1 l0_1.length c0_1, .slice A0_2 l0_2.length c0_2]) (t := 26) ?hr ?_; (case hd => rfl); (case hg => rfl); (case hr => first | (go_simp; done) | (go_simp; rfl)); intro gb114 hg w4 hbox hb; have n0_ := Aside0.mk (below_step (by repeat (first | (with_reducible first | exact HB.out | apply below_alloc | apply pw_below_drewN | apply below_drew1) | exact HB.out)) hb); have n1_ := Aside0.mk (hbox); have n2_ := Aside0.mk ((by rw [hg]; exact (below_size (by repeat (first | (with_reducible first | exact HB.out | apply below_alloc | apply pw_below_drewN | apply below_drew1) | exact HB.out))) : w.heap.size ≤ gb114)); have n3_ := Aside0.mk ((by rw [hg]; exact (below_size (by repeat (first | (with_reducible first | exact HB.out | apply below_alloc | apply pw_below_drewN | apply below_drew1) | exact HB.out))) : w.heap.size ≤ gb114)); clear HB; have HB := n0_; have BK114 := n1_; have GW114 := n2_; have GE114 := n3_; clear n0_ n1_ n2_ n3_; clear hb hbox hg; have hcz5_0 : w4.cell? ⟨gb114, 0, none⟩ = some (.slice A0_0 l0_0.length c0_0) := (blk_cell BK114.out 0).trans rfl; have hcz5_1 : w4.cell? ⟨gb114, 1, none⟩ = some (.slice A0_1 l0_1.length c0_1) := (blk_cell BK114.out 1).trans rfl; have hcz5_2 : w4.cell? ⟨gb114, 2, none⟩ = some (.slice A0_2 l0_2.length c0_2) := (blk_cell BK114.out 2).trans rfl; have hfz5_0 := blk_frozen BK114.out 0; have hfz5_1 := blk_frozen BK114.out 1; have hfz5_2 := blk_frozen BK114.out 2) | ((with_reducible refine gate_callee (f := 16) rfl ?_); refine goesL_ (some 12) rfl rfl Try.func16 (by kernel_rfl) rfl #[.agg #[.slice A0_0 l0_0.length c0_0, .slice A0_1 l0_1.length c0_1, .slice A0_2 l0_2.length c0_2]] rfl (by (try simp only [List.map_toArray, List.map_cons, List.map_nil]); first | done | rfl | (simp only [List.length_drop, List.length_take]; rfl)) ?_; (with_reducible refine (match_Chances.calls _ _ l0_0 _ _ l0_1 _ _ l0_2 t115 t118 _ ?side1 ?side2 ?side3 ?side4 ?side5 ?side6 A2.out).mono ?_); (case side1 => repeat (first | exact (Kd.C_below HR0_0.out HB.out) | (with_reducible refine Kd.C_alloc ?_ _) | (with_reducible refine Kd.C_drewN ?_ _) | (with_reducible refine Kd.C_drew ?_))); (case side2 => exact HC0_0.out); (case side3 => repeat (first | exact (Kd.C_below HR0_1.out HB.out) | (with_reducible refine Kd.C_alloc ?_ _) | (with_reducible refine Kd.C_drewN ?_ _) | (with_reducible refine Kd.C_drew ?_))); (case side4 => exact HC0_1.out); (case side5 => repeat (first | exact (Kd.C_below HR0_2.out HB.out) | (with_reducible refine Kd.C_alloc ?_ _) | (with_reducible refine Kd.C_drewN ?_ _) | (with_reducible refine Kd.C_drew ?_))); (case side6 => exact HC0_2.out); rintro e w6 ⟨v116, rfl, ho0, hb⟩; refine ⟨_, rfl, ?_⟩; have n0_ := Aside0.mk (Kd.S_lower ho0 (below_size (by repeat (first | (with_reducible first | exact HB.out | apply below_alloc | apply pw_below_drewN | apply below_drew1 | refine below_set ?_ GE114.out) | exact HB.out)))); have n1_ := Aside0.mk (blk_below (g := gb114) (o := .cells #[.slice A0_0 l0_0.length c0_0, .slice A0_1 l0_1.length c0_1, .slice A0_2 l0_2.length c0_2] 26 (0, 0)) (by (with_reducible repeat (first | refine blk_drewN ?_ _ | refine blk_drew ?_ | refine blk_alloc ?_ _)); exact BK114.out) hb); have n2_ := Aside0.mk (below_step (by repeat (first | (with_reducible first | exact HB.out | apply below_alloc | apply pw_below_drewN | apply below_drew1 | refine below_set ?_ GE114.out) | exact HB.out)) hb); clear BK114; clear HB; have HO117 := n0_; have BK114 := n1_; have HB := n2_; clear n0_ n1_ n2_; (try clear hb); (try clear hb2); (try clear hk); (try clear hi); (try clear ho0); obtain ⟨Ao7, co7, eo7⟩ := Kd.S_slice HO117.out; subst eo7))
  go_loopg [6, 20] k (fun kq v6 v20 w' => ∃ (x6_1 : List Int) (x20_1 : Int), v20 = .int .i64 x20_1 ∧ Aside0 (match_Must.l0 kq x6_1 t115 (t115.length : Int) x20_1 = some (r1, r2)) ∧ Aside0 (kq ≤ k) ∧ Aside0 (Kd.R (Kd.int .i64) 3 w' w.heap.size (fun _ => True) v6 x6_1) ∧ Aside0 (Kd.S (Kd.slice 3 (Kd.int .i64)) 22 w' w.heap.size (fun k_ => some k_ ≠ (v6 : Value).ownBlock) (.slice Ao7 t115.length co7) t115) ∧ Aside0 (w'.heap[gb114]? = some (.cells #[(.slice A0_0 l0_0.length c0_0), (.slice A0_1 l0_1.length c0_1), (.slice A0_2 l0_2.length c0_2)] 26 (0, 0))) ∧ Aside0 (Below w.heap.size w w'))
  case atStart => exact ⟨(([] : List Int)), (0), (by first | rfl | (simp; done) | (simp [*]; done)), H', ⟨Nat.le_refl _⟩, ⟨by first | exact Kd.R_nil _ _ _ _ _ | exact Kd.N_nil _ _ _ _ _ | exact Kd.V_nil _ _ _ _ _ | exact Kd.Q_nil _ _ _ _ _ | exact Kd.S_nil _ _ _ _ _⟩, ⟨by (with_reducible repeat (first | apply Kd.S_alloc | apply Kd.S_drewN | apply Kd.S_drew)); exact Kd.S_mono HO117.out (fun _ hk => (by simp [Value.ownBlock]))⟩, ⟨by (with_reducible repeat (first | refine blk_drewN ?_ _ | refine blk_drew ?_ | refine blk_alloc ?_ _)); exact BK114.out⟩, ⟨by repeat (first | (with_reducible first | exact HB.out | apply below_alloc | apply pw_below_drewN | apply below_drew1 | refine below_set ?_ GE114.out) | exact HB.out)⟩⟩
  case round =>
   clear H'
   try clear c1
   try clear p2
   try clear c3
   try clear c3b0
   try clear c3b1
   try clear hcz5_0
   try clear hcz5_1
   try clear hcz5_2
   try clear hfz5_0
   try clear hfz5_1
   try clear hfz5_2
   obtain ⟨x6_1, x20_1, rfl, HA, HK1, HO_6, HO_18, BK114, HB⟩ := hrel
   cases gk with
   | zero => exact absurd HA.out (by simp [match_Must.l0])
   | succ k1 =>
    have H := HA.out
    clear HA
    simp only [match_Must.l0] at H
    by_cases c8 : x20_1 < (t115.length : Int)
    ·
     rw [if_pos c8] at H
     have c8b0 : decide (x20_1 < (t115.length : Int)) = true := decide_eq_true c8
     clear c8
     by_cases c9 : 0 ≤ x20_1
     ·
      rw [if_pos c9] at H
      have c9b0 : decide (0 ≤ x20_1) = true := decide_eq_true c9
      clear c9
      by_cases c10 : x20_1 < (t115.length : Int)
      ·
       rw [if_pos c10] at H
       have c10b0 : decide (x20_1 < (t115.length : Int)) = true := decide_eq_true c10
       clear c10
       by_cases c11 : ((rd_L1 t115 x20_1).length : Int) = 1
       ·
        rw [if_pos c11] at H
        have c11b0 : (((rd_L1 t115 x20_1).length : Int) == 1) = true := beq_iff_eq.mpr c11
        have c11b1 : (((rd_L1 t115 x20_1).length : Int) != 1) = false := bne_eq_false_iff_eq.mpr c11
        clear c11
        by_cases c12 : 0 < ((rd_L1 t115 x20_1).length : Int)
        ·
         rw [if_pos c12] at H
         have c12b0 : decide (0 < ((rd_L1 t115 x20_1).length : Int)) = true := decide_eq_true c12
         have c12b1 : decide (0 < (rd_L1 t115 x20_1).length) = true := decide_eq_true (by omega)
         clear c12
         by_cases c13 : x6_1.length < 17592186044416
         ·
          rw [if_pos c13] at H
          have LMc13 := Aside0.mk c13
          clear c13
          obtain ⟨y121, hy121⟩ : ∃ y_ : List Int, y_ = (x6_1 ++ [rd (rd_L1 t115 x20_1) 0]) := ⟨_, rfl⟩
          replace H : (match_Must.l0 k1 y121 t115 (t115.length : Int) (wrap64 (x20_1 + 1))) = some (r1, r2) := by first | (rw [hy121]; with_reducible exact H) | (have H2_ := (Option.bind_some _ _).symm.trans H; rw [hy121]; with_reducible exact H2_) | (have H2_ := (Option.bind_some _ _).symm.trans H; with_reducible exact H2_) | with_reducible exact H | (rw [hy121]; exact H) | exact H
          have Ny121 := Aside0.mk hy121
          clear hy121
          have H' := Aside0.mk H
          clear H
          have p119 : 0 ≤ (x20_1 : Int) := of_decide_eq_true (by first | (with_reducible assumption) | assumption)
          have q119 : x20_1 < (t115.length : Int) := of_decide_eq_true (by first | (with_reducible assumption) | assumption)
          obtain ⟨ad119, A119_0, c119_0, e119, hx119_0, hl119_0, hi119_0⟩ := at_L1 (Kd.S_reads' HO_18.out).2.2 x20_1 p119 q119
          cases e119
          obtain ⟨ce119, hce119, hMe119, hcc119⟩ := Kd.S_get HO_18.out [] x20_1 p119 (by first | exact q119 | exact of_decide_eq_true (by first | (with_reducible assumption) | assumption) | (have e_ := (Kd.S_reads' HO_18.out).1; omega))
          obtain ⟨ve119_0, rfl, ge119_0⟩ := hMe119
          have hv119_0 := hcc119 0 _ rfl
          rw [Nat.add_zero, show ((Kd.slice 3 (Kd.int .i64))).sz = 1 from rfl, Nat.mul_one] at hv119_0
          replace hv119_0 := Option.some.inj (hv119_0.symm.trans hx119_0)
          rw [hv119_0] at ge119_0
          have HL119_0 := Aside0.mk (show Kd.R (Kd.int .i64) 3 _ _ _ _ (rd_L1 t115 x20_1) from ge119_0)
          clear hv119_0 ge119_0
          clear hcc119 hce119
          have HR119_0 := Aside0.mk hi119_0
          have HC119_0 := Aside0.mk hl119_0
          clear hi119_0 hl119_0
          replace p119 := eq_true p119
          replace q119 := eq_true q119
          have p120 : 0 ≤ (0 : Int) := (by omega)
          have q120 : 0 < ((rd_L1 t115 x20_1).length : Int) := of_decide_eq_true (by first | (with_reducible assumption) | assumption)
          obtain ⟨ad120, e120, hx120_0⟩ := Kd.at_int (by repeat (first | (with_reducible exact HR119_0.out) | (with_reducible refine Kd.C_alloc ?_ _) | (with_reducible refine Kd.C_drewN ?_ _) | (with_reducible refine Kd.C_drew ?_) | exact HR119_0.out)) 0 p120 q120
          cases e120
          have qi120 : (0 < (rd_L1 t115 x20_1).length) = True := eq_true (by omega)
          (try rw [show ((0 : Int)).toNat = 0 from rfl] at hx120_0)
          (try rw [Addr.add_zero'] at hx120_0)
          replace p120 := eq_true p120
          replace q120 := eq_true q120
          go_wp2_with (first | ((with_reducible refine gate_builtin (b := .append) (xs := #[.tmp 30, .tmp 32]) rfl ?_); at_builtin; refine Kd.R_append (Kd.int .i64) (w0 := w) w.heap.size rfl (.tmp 30) (.tmp 32) 22 3 (.int .i64 0) 8 rfl Try.underlying22 info3 rfl (by decide) (by omega) u6 x6_1 (rd (rd_L1 t115 x20_1) 0) [.int .i64 (rd (rd_L1 t115 x20_1) 0)] (fun _ => True) (fun _ => False) rfl rfl ?aP (fun _ hk => hk.elim) ?aF ?aO ?aB ?aS ?aL ?_; (case aP => exact rfl); (case aB => exact (by repeat (first | (with_reducible first | exact HB.out | apply below_alloc | apply pw_below_drewN | apply below_drew1 | refine below_set ?_ GE114.out) | exact HB.out))); (case aF => exact (fun _ _ => trivial)); (case aO => exact (by (with_reducible repeat (first | apply Kd.R_alloc | apply Kd.R_drewN | apply Kd.R_drew)); exact HO_6.out)); (case aS => exact (below_size (by repeat (first | (with_reducible first | exact HB.out | apply below_alloc | apply pw_below_drewN | apply below_drew1 | refine below_set ?_ GE114.out) | exact HB.out)))); (case aL => have := LMc13.out; omega); intro v122 w14 ho hb hg hat; rw [← Ny121.out] at ho; have n0_ := Aside0.mk (Kd.S_after (ok := (fun _ => True)) (by (with_reducible repeat (first | apply Kd.S_alloc | apply Kd.S_drewN | apply Kd.S_drew)); exact Kd.S_mono HO_18.out (fun _ hk => ⟨trivial, hk⟩)) hg hat); have n1_ := Aside0.mk (blk_grown (g := gb114) (o := .cells #[.slice A0_0 l0_0.length c0_0, .slice A0_1 l0_1.length c0_1, .slice A0_2 l0_2.length c0_2] 26 (0, 0)) (by (with_reducible repeat (first | refine blk_drewN ?_ _ | refine blk_drew ?_ | refine blk_alloc ?_ _)); exact BK114.out) hg (Kd.R_ne HO_6.out BK114.out (by decide))); have n2_ := Aside0.mk (Kd.R_after (ok := (fun k_ => some k_ ≠ (.slice (some ad119) t115.length co7 : Value).ownBlock)) (by (with_reducible repeat (first | apply Kd.R_alloc | apply Kd.R_drewN | apply Kd.R_drew)); exact Kd.R_mono HL119_0.out (fun _ hk => ⟨hk.2, hk.1⟩)) hg hat); have n3_ := Aside0.mk (hb); have n4_ := Aside0.mk (ho); clear HO_18; clear BK114; clear HL119_0; clear HB; clear HO_6; have HO_18 := n0_; have BK114 := n1_; have HL119_0 := n2_; have HB := n3_; have HO123 := n4_; clear n0_ n1_ n2_ n3_ n4_; clear ho hb hg hat))
          go_roundg k1
          case measure => have := HK1.out; omega
          case rel => exact ⟨(y121), (wrap64 (x20_1 + 1)), (by first | rfl | (simp; done) | (simp [*]; done)), H', ⟨by have := HK1.out; omega⟩, ⟨by (with_reducible repeat (first | apply Kd.R_alloc | apply Kd.R_drewN | apply Kd.R_drew)); exact HO123.out⟩, ⟨by (with_reducible repeat (first | apply Kd.S_alloc | apply Kd.S_drewN | apply Kd.S_drew)); exact Kd.S_mono HO_18.out (fun _ hk => hk.2)⟩, ⟨by (with_reducible repeat (first | refine blk_drewN ?_ _ | refine blk_drew ?_ | refine blk_alloc ?_ _)); exact BK114.out⟩, ⟨by repeat (first | (with_reducible first | exact HB.out | apply below_alloc | apply pw_below_drewN | apply below_drew1 | refine below_set ?_ GE114.out) | exact HB.out)⟩⟩
         ·
          rw [if_neg c13] at H
          exact absurd H (by simp)
        ·
         rw [if_neg c12] at H
         exact absurd H (by simp)
       ·
        rw [if_neg c11] at H
        have c11b0 : (((rd_L1 t115 x20_1).length : Int) == 1) = false := beq_eq_false_iff_ne.mpr c11
        have c11b1 : (((rd_L1 t115 x20_1).length : Int) != 1) = true := bne_iff_ne.mpr c11
        by_cases c15 : x6_1.length < 17592186044416
        ·
         rw [if_pos c15] at H
         have LMc15 := Aside0.mk c15
         clear c15
         obtain ⟨y124, hy124⟩ : ∃ y_ : List Int, y_ = (x6_1 ++ [(-1)]) := ⟨_, rfl⟩
         replace H : (match_Must.l0 k1 y124 t115 (t115.length : Int) (wrap64 (x20_1 + 1))) = some (r1, r2) := by first | (rw [hy124]; with_reducible exact H) | (have H2_ := (Option.bind_some _ _).symm.trans H; rw [hy124]; with_reducible exact H2_) | (have H2_ := (Option.bind_some _ _).symm.trans H; with_reducible exact H2_) | with_reducible exact H | (rw [hy124]; exact H) | exact H
         have Ny124 := Aside0.mk hy124
         clear hy124
         have H' := Aside0.mk H
         clear H
         have p119 : 0 ≤ (x20_1 : Int) := of_decide_eq_true (by first | (with_reducible assumption) | assumption)
         have q119 : x20_1 < (t115.length : Int) := of_decide_eq_true (by first | (with_reducible assumption) | assumption)
         obtain ⟨ad119, A119_0, c119_0, e119, hx119_0, hl119_0, hi119_0⟩ := at_L1 (Kd.S_reads' HO_18.out).2.2 x20_1 p119 q119
         cases e119
         obtain ⟨ce119, hce119, hMe119, hcc119⟩ := Kd.S_get HO_18.out [] x20_1 p119 (by first | exact q119 | exact of_decide_eq_true (by first | (with_reducible assumption) | assumption) | (have e_ := (Kd.S_reads' HO_18.out).1; omega))
         obtain ⟨ve119_0, rfl, ge119_0⟩ := hMe119
         have hv119_0 := hcc119 0 _ rfl
         rw [Nat.add_zero, show ((Kd.slice 3 (Kd.int .i64))).sz = 1 from rfl, Nat.mul_one] at hv119_0
         replace hv119_0 := Option.some.inj (hv119_0.symm.trans hx119_0)
         rw [hv119_0] at ge119_0
         have HL119_0 := Aside0.mk (show Kd.R (Kd.int .i64) 3 _ _ _ _ (rd_L1 t115 x20_1) from ge119_0)
         clear hv119_0 ge119_0
         clear hcc119 hce119
         have HR119_0 := Aside0.mk hi119_0
         have HC119_0 := Aside0.mk hl119_0
         clear hi119_0 hl119_0
         replace p119 := eq_true p119
         replace q119 := eq_true q119
         go_wp2_with (first | ((with_reducible refine gate_builtin (b := .append) (xs := #[.tmp 30, .tmp 32]) rfl ?_); at_builtin; refine Kd.R_append (Kd.int .i64) (w0 := w) w.heap.size rfl (.tmp 30) (.tmp 32) 22 3 (.int .i64 0) 8 rfl Try.underlying22 info3 rfl (by decide) (by omega) u6 x6_1 (-1) [.int .i64 (-1)] (fun _ => True) (fun _ => False) rfl rfl ?aP (fun _ hk => hk.elim) ?aF ?aO ?aB ?aS ?aL ?_; (case aP => exact rfl); (case aB => exact (by repeat (first | (with_reducible first | exact HB.out | apply below_alloc | apply pw_below_drewN | apply below_drew1 | refine below_set ?_ GE114.out) | exact HB.out))); (case aF => exact (fun _ _ => trivial)); (case aO => exact (by (with_reducible repeat (first | apply Kd.R_alloc | apply Kd.R_drewN | apply Kd.R_drew)); exact HO_6.out)); (case aS => exact (below_size (by repeat (first | (with_reducible first | exact HB.out | apply below_alloc | apply pw_below_drewN | apply below_drew1 | refine below_set ?_ GE114.out) | exact HB.out)))); (case aL => have := LMc15.out; omega); intro v125 w16 ho hb hg hat; rw [← Ny124.out] at ho; have n0_ := Aside0.mk (Kd.S_after (ok := (fun _ => True)) (by (with_reducible repeat (first | apply Kd.S_alloc | apply Kd.S_drewN | apply Kd.S_drew)); exact Kd.S_mono HO_18.out (fun _ hk => ⟨trivial, hk⟩)) hg hat); have n1_ := Aside0.mk (blk_grown (g := gb114) (o := .cells #[.slice A0_0 l0_0.length c0_0, .slice A0_1 l0_1.length c0_1, .slice A0_2 l0_2.length c0_2] 26 (0, 0)) (by (with_reducible repeat (first | refine blk_drewN ?_ _ | refine blk_drew ?_ | refine blk_alloc ?_ _)); exact BK114.out) hg (Kd.R_ne HO_6.out BK114.out (by decide))); have n2_ := Aside0.mk (Kd.R_after (ok := (fun k_ => some k_ ≠ (.slice (some ad119) t115.length co7 : Value).ownBlock)) (by (with_reducible repeat (first | apply Kd.R_alloc | apply Kd.R_drewN | apply Kd.R_drew)); exact Kd.R_mono HL119_0.out (fun _ hk => ⟨hk.2, hk.1⟩)) hg hat); have n3_ := Aside0.mk (hb); have n4_ := Aside0.mk (ho); clear HO_18; clear BK114; clear HL119_0; clear HB; clear HO_6; have HO_18 := n0_; have BK114 := n1_; have HL119_0 := n2_; have HB := n3_; have HO126 := n4_; clear n0_ n1_ n2_ n3_ n4_; clear ho hb hg hat))
         go_roundg k1
         case measure => have := HK1.out; omega
         case rel => exact ⟨(y124), (wrap64 (x20_1 + 1)), (by first | rfl | (simp; done) | (simp [*]; done)), H', ⟨by have := HK1.out; omega⟩, ⟨by (with_reducible repeat (first | apply Kd.R_alloc | apply Kd.R_drewN | apply Kd.R_drew)); exact HO126.out⟩, ⟨by (with_reducible repeat (first | apply Kd.S_alloc | apply Kd.S_drewN | apply Kd.S_drew)); exact Kd.S_mono HO_18.out (fun _ hk => hk.2)⟩, ⟨by (with_reducible repeat (first | refine blk_drewN ?_ _ | refine blk_drew ?_ | refine blk_alloc ?_ _)); exact BK114.out⟩, ⟨by repeat (first | (with_reducible first | exact HB.out | apply below_alloc | apply pw_below_drewN | apply below_drew1 | refine below_set ?_ GE114.out) | exact HB.out)⟩⟩
        ·
         rw [if_neg c15] at H
         exact absurd H (by simp)
      ·
       rw [if_neg c10] at H
       exact absurd H (by simp)
     ·
      rw [if_neg c9] at H
      exact absurd H (by simp)
    ·
     rw [if_neg c8] at H
     have c8b0 : decide (x20_1 < (t115.length : Int)) = false := decide_eq_false c8
     clear c8
     simp only [Option.some.injEq, Prod.mk.injEq] at H
     obtain ⟨rfl, rfl⟩ := H
     go_wp2
     go_ret2
     exact ⟨_, by first | rfl | (simp [errW_none, errW_some] <;> rfl) | (simp [*, errW_none, errW_some] <;> rfl), by (with_reducible repeat (first | apply Kd.R_alloc | apply Kd.R_drewN | apply Kd.R_drew)); exact HO_6.out, by repeat (first | (with_reducible first | exact HB.out | apply below_alloc | apply pw_below_drewN | apply below_drew1 | refine below_set ?_ GE114.out) | exact HB.out)⟩
 ·
  rw [if_neg c3] at H
  have c3b0 : (t118 == 0) = false := beq_eq_false_iff_ne.mpr c3
  have c3b1 : (t118 != 0) = true := bne_iff_ne.mpr c3
  simp only [Option.some.injEq, Prod.mk.injEq] at H
  obtain ⟨rfl, rfl⟩ := H
  go_enter Try.func17, Try.ntmps17
  go_wp2_with (first | ((with_reducible refine gate_dst (N := 1) rfl ?_); refine box_event ?hg (N := 1) ?hd (cs := #[.slice A0_0 l0_0.length c0_0, .slice A0_1 l0_1.length c0_1, .slice A0_2 l0_2.length c0_2]) (t := 26) ?hr ?_; (case hd => rfl); (case hg => rfl); (case hr => first | (go_simp; done) | (go_simp; rfl)); intro gb114 hg w17 hbox hb; have n0_ := Aside0.mk (below_step (by repeat (first | (with_reducible first | exact HB.out | apply below_alloc | apply pw_below_drewN | apply below_drew1) | exact HB.out)) hb); have n1_ := Aside0.mk (hbox); have n2_ := Aside0.mk ((by rw [hg]; exact (below_size (by repeat (first | (with_reducible first | exact HB.out | apply below_alloc | apply pw_below_drewN | apply below_drew1) | exact HB.out))) : w.heap.size ≤ gb114)); have n3_ := Aside0.mk ((by rw [hg]; exact (below_size (by repeat (first | (with_reducible first | exact HB.out | apply below_alloc | apply pw_below_drewN | apply below_drew1) | exact HB.out))) : w.heap.size ≤ gb114)); clear HB; have HB := n0_; have BK114 := n1_; have GW114 := n2_; have GE114 := n3_; clear n0_ n1_ n2_ n3_; clear hb hbox hg; have hcz18_0 : w17.cell? ⟨gb114, 0, none⟩ = some (.slice A0_0 l0_0.length c0_0) := (blk_cell BK114.out 0).trans rfl; have hcz18_1 : w17.cell? ⟨gb114, 1, none⟩ = some (.slice A0_1 l0_1.length c0_1) := (blk_cell BK114.out 1).trans rfl; have hcz18_2 : w17.cell? ⟨gb114, 2, none⟩ = some (.slice A0_2 l0_2.length c0_2) := (blk_cell BK114.out 2).trans rfl; have hfz18_0 := blk_frozen BK114.out 0; have hfz18_1 := blk_frozen BK114.out 1; have hfz18_2 := blk_frozen BK114.out 2) | ((with_reducible refine gate_callee (f := 16) rfl ?_); refine goesL_ (some 12) rfl rfl Try.func16 (by kernel_rfl) rfl #[.agg #[.slice A0_0 l0_0.length c0_0, .slice A0_1 l0_1.length c0_1, .slice A0_2 l0_2.length c0_2]] rfl (by (try simp only [List.map_toArray, List.map_cons, List.map_nil]); first | done | rfl | (simp only [List.length_drop, List.length_take]; rfl)) ?_; (with_reducible refine (match_Chances.calls _ _ l0_0 _ _ l0_1 _ _ l0_2 t115 t118 _ ?side1 ?side2 ?side3 ?side4 ?side5 ?side6 A2.out).mono ?_); (case side1 => repeat (first | exact (Kd.C_below HR0_0.out HB.out) | (with_reducible refine Kd.C_alloc ?_ _) | (with_reducible refine Kd.C_drewN ?_ _) | (with_reducible refine Kd.C_drew ?_))); (case side2 => exact HC0_0.out); (case side3 => repeat (first | exact (Kd.C_below HR0_1.out HB.out) | (with_reducible refine Kd.C_alloc ?_ _) | (with_reducible refine Kd.C_drewN ?_ _) | (with_reducible refine Kd.C_drew ?_))); (case side4 => exact HC0_1.out); (case side5 => repeat (first | exact (Kd.C_below HR0_2.out HB.out) | (with_reducible refine Kd.C_alloc ?_ _) | (with_reducible refine Kd.C_drewN ?_ _) | (with_reducible refine Kd.C_drew ?_))); (case side6 => exact HC0_2.out); rintro e w19 ⟨v116, rfl, ho0, hb⟩; refine ⟨_, rfl, ?_⟩; have n0_ := Aside0.mk (Kd.S_lower ho0 (below_size (by repeat (first | (with_reducible first | exact HB.out | apply below_alloc | apply pw_below_drewN | apply below_drew1 | refine below_set ?_ GE114.out) | exact HB.out)))); have n1_ := Aside0.mk (blk_below (g := gb114) (o := .cells #[.slice A0_0 l0_0.length c0_0, .slice A0_1 l0_1.length c0_1, .slice A0_2 l0_2.length c0_2] 26 (0, 0)) (by (with_reducible repeat (first | refine blk_drewN ?_ _ | refine blk_drew ?_ | refine blk_alloc ?_ _)); exact BK114.out) hb); have n2_ := Aside0.mk (below_step (by repeat (first | (with_reducible first | exact HB.out | apply below_alloc | apply pw_below_drewN | apply below_drew1 | refine below_set ?_ GE114.out) | exact HB.out)) hb); clear BK114; clear HB; have HO117 := n0_; have BK114 := n1_; have HB := n2_; clear n0_ n1_ n2_; (try clear hb); (try clear hb2); (try clear hk); (try clear hi); (try clear ho0)))
  go_ret2
  exact ⟨_, by first | rfl | (simp [errW_none, errW_some] <;> rfl) | (simp [*, errW_none, errW_some] <;> rfl), by first | exact Kd.R_nil _ _ _ _ _ | exact Kd.N_nil _ _ _ _ _ | exact Kd.V_nil _ _ _ _ _ | exact Kd.Q_nil _ _ _ _ _ | exact Kd.S_nil _ _ _ _ _, by repeat (first | (with_reducible first | exact HB.out | apply below_alloc | apply pw_below_drewN | apply below_drew1 | refine below_set ?_ GE114.out) | exact HB.out)⟩
end Go.Proofs.Ytkmmihadcbfkoaa.PM
end

section
namespace Go.Proofs.Ytkmmihadcbfkoaa
open PM
def bdT2 : List (List Int) := [[0], [0], [0, 1]]
theorem bd_check3 : checkB bdF (bdS 1) bdT2 = 0 := by kernel_rfl
theorem bd_is1 : isF bdF (bdS 1) bdT = true := by kernel_rfl
theorem bd_assign : match_Assign.f bdF (bdS 1) bdT = some ([0, 1, 2], true, 0) := by kernel_rfl
theorem bd_must1 : match_Must.f 5 bdF (bdS 1) bdT = some ([0, 1, 2], 0) := by kernel_rfl
theorem bd_must2 : match_Must.f 5 bdF (bdS 2) bdT = some ([0, -1, -1], 0) := by kernel_rfl
theorem bd_load : match_Load.f bdF (bdS 2) bdT 0 = some (1, 2, 0) := by kernel_rfl
theorem srt10 : Lib.compact (([1, 0] : List Int).mergeSort fun x y => decide (x ≤ y)) = [0, 1] := by
  rw [show (([1, 0] : List Int).mergeSort fun x y => decide (x ≤ y)) = [0, 1] from by simp [List.mergeSort, List.MergeSort.Internal.splitInTwo]]
  kernel_rfl
theorem bd_hall1 : giveH bdT (roomsLess (bdS 1) 1) 3 1 [0, -1, -1] = [0, 1] := by
  unfold giveH
  rw [show (giveR bdT (roomsLess (bdS 1) 1) 3 1 [0, -1, -1]).ok = false from by kernel_rfl, if_neg (by simp), show hallTo 1 (giveR bdT (roomsLess (bdS 1) 1) 3 1 [0, -1, -1]).seen (giveR bdT (roomsLess (bdS 1) 1) 3 1 [0, -1, -1]).has 3 = [1, 0] from by kernel_rfl]
  exact srt10
theorem bd_hall2 : giveH bdT2 (rooms (bdS 1)) 3 1 [0, -1, -1] = [0, 1] := by
  unfold giveH
  rw [show (giveR bdT2 (rooms (bdS 1)) 3 1 [0, -1, -1]).ok = false from by kernel_rfl, if_neg (by simp), show hallTo 1 (giveR bdT2 (rooms (bdS 1)) 3 1 [0, -1, -1]).seen (giveR bdT2 (rooms (bdS 1)) 3 1 [0, -1, -1]).has 3 = [1, 0] from by kernel_rfl]
  exact srt10
theorem bd_fill1 : hallR bdF (bdS 1) bdT 2 (roomsLess (bdS 1) 1) = ⟨false, giveH bdT (roomsLess (bdS 1) 1) 3 1 [0, -1, -1], (giveR bdT (roomsLess (bdS 1) 1) 3 1 [0, -1, -1]).has⟩ := by kernel_rfl
theorem bd_fill2 : hallR bdF (bdS 1) bdT2 (-1) (rooms (bdS 1)) = ⟨false, giveH bdT2 (rooms (bdS 1)) 3 1 [0, -1, -1], (giveR bdT2 (rooms (bdS 1)) 3 1 [0, -1, -1]).has⟩ := by kernel_rfl
theorem bd_refuse : match_Refuse.f bdF (bdS 1) bdT 2 1 = some ([0, 1], true, 0) := by
  unfold match_Refuse.f
  rw [if_neg (by rw [show askB bdF (bdS 1) bdT 2 1 false false = 0 from by kernel_rfl]; simp), if_neg (by rw [bd_is1]; simp), if_neg (by decide), bd_fill1, bd_hall1]
  rfl
theorem bd_hall : match_Hall.f bdF (bdS 1) bdT2 = some ([0, 1], true, 0) := by
  unfold match_Hall.f
  rw [if_neg (by rw [bd_check3]; simp), bd_fill2, bd_hall2]
  rfl
end Go.Proofs.Ytkmmihadcbfkoaa
end

section
namespace Go.Proofs.Ytkmmihadcbfkoaa
open Go.RowKit Go.Proofs.YtkmmihadcbfkoaaW.PrintWords PM
set_option linter.unusedVariables false
set_option linter.unusedSimpArgs false
def PM.laganlaw04_matched.f : Option Bool := some true
theorem fits2_world (w : World) (o : Obj) :
    ∃ W, (((((w.alloc o).alloc (.cells #[.int .i64 0] 3)).alloc (.cells #[.int .i64 0] 3)).alloc (.cells #[.int .i64 0, .int .i64 1] 3)).alloc
      (.cells #[.slice (some ⟨w.heap.size + 1, 0, none⟩) 1 1, .slice (some ⟨w.heap.size + 1 + 1, 0, none⟩) 1 1, .slice (some ⟨w.heap.size + 1 + 1 + 1, 0, none⟩) 2 2] 22)) = W ∧
      Below w.heap.size w W ∧ Kd.C (Kd.slice 3 (Kd.int .i64)) W (some ⟨w.heap.size + 1 + 1 + 1 + 1, 0, none⟩) bdT2.length bdT2 := by
  have hB : Below w.heap.size w (((((w.alloc o).alloc (.cells #[.int .i64 0] 3)).alloc (.cells #[.int .i64 0] 3)).alloc (.cells #[.int .i64 0, .int .i64 1] 3)).alloc
      (.cells #[.slice (some ⟨w.heap.size + 1, 0, none⟩) 1 1, .slice (some ⟨w.heap.size + 1 + 1, 0, none⟩) 1 1, .slice (some ⟨w.heap.size + 1 + 1 + 1, 0, none⟩) 2 2] 22)) := by
    repeat (first | exact Below.refl _ _ | refine below_alloc ?_ _)
  refine ⟨_, rfl, hB, ?_⟩
  obtain ⟨W, hW⟩ : ∃ W, (((((w.alloc o).alloc (.cells #[.int .i64 0] 3)).alloc (.cells #[.int .i64 0] 3)).alloc (.cells #[.int .i64 0, .int .i64 1] 3)).alloc
      (.cells #[.slice (some ⟨w.heap.size + 1, 0, none⟩) 1 1, .slice (some ⟨w.heap.size + 1 + 1, 0, none⟩) 1 1, .slice (some ⟨w.heap.size + 1 + 1 + 1, 0, none⟩) 2 2] 22)) = W := ⟨_, rfl⟩
  have e1 : W.heap[w.heap.size + 1]? = some (.cells #[.int .i64 0] 3 (0, 0)) := by
    rw [← hW]
    repeat (first | exact blk_new _ _ | (refine (congrArg _ ?_).trans (blk_new _ _); simp only [World.size_alloc]; done) | refine blk_alloc ?_ _)
  have e2 : W.heap[w.heap.size + 1 + 1]? = some (.cells #[.int .i64 0] 3 (0, 0)) := by
    rw [← hW]
    repeat (first | exact blk_new _ _ | (refine (congrArg _ ?_).trans (blk_new _ _); simp only [World.size_alloc]; done) | refine blk_alloc ?_ _)
  have e3 : W.heap[w.heap.size + 1 + 1 + 1]? = some (.cells #[.int .i64 0, .int .i64 1] 3 (0, 0)) := by
    rw [← hW]
    repeat (first | exact blk_new _ _ | (refine (congrArg _ ?_).trans (blk_new _ _); simp only [World.size_alloc]; done) | refine blk_alloc ?_ _)
  have e4 : W.heap[w.heap.size + 1 + 1 + 1 + 1]? = some (.cells #[.slice (some ⟨w.heap.size + 1, 0, none⟩) 1 1, .slice (some ⟨w.heap.size + 1 + 1, 0, none⟩) 1 1, .slice (some ⟨w.heap.size + 1 + 1 + 1, 0, none⟩) 2 2] 22 (0, 0)) := by
    rw [← hW]
    repeat (first | exact blk_new _ _ | (refine (congrArg _ ?_).trans (blk_new _ _); simp only [World.size_alloc]; done) | refine blk_alloc ?_ _)
  rw [hW]
  have r0 := rowC (l := [0]) e1 (by decide) (fun j v hv => by
    match j, hv with
    | 0, hv => have : (0 : Int) = v := by simpa using hv
               subst this; rfl)
  have r1 := rowC (l := [0]) e2 (by decide) (fun j v hv => by
    match j, hv with
    | 0, hv => have : (0 : Int) = v := by simpa using hv
               subst this; rfl)
  have r2 := rowC (l := [0, 1]) e3 (by decide) (fun j v hv => by
    match j, hv with
    | 0, hv => have : (0 : Int) = v := by simpa using hv
               subst this; rfl
    | 1, hv => have : (1 : Int) = v := by simpa using hv
               subst this; rfl)
  refine rowsC e4 (by decide) (fun j v hv => ?_)
  match j, hv with
  | 0, hv => have : ([0] : List Int) = v := by simpa [bdT2] using hv
             subst this; exact ⟨_, _, rfl, by decide, r0⟩
  | 1, hv => have : ([0] : List Int) = v := by simpa [bdT2] using hv
             subst this; exact ⟨_, _, rfl, by decide, r1⟩
  | 2, hv => have : ([0, 1] : List Int) = v := by simpa [bdT2] using hv
             subst this; exact ⟨_, _, rfl, by decide, r2⟩
  | n + 3, hv => simp [bdT2] at hv
/-- A list as said, beside a new one of the same numbers. -/
theorem same_calls {A : Option Addr} {c : Nat} {l : List Int} {w : World} (hr : Kd.C (Kd.int .i64) w A l.length l) (hc : l.length ≤ c) (hf : laganref04_SameInts.f 5 l l = some true) (hl : l.length ≤ 100) :
    Calls Try.prog 22 #[.slice A l.length c, .slice (some ⟨w.heap.size, 0, none⟩) l.length l.length] (w.alloc (.cells (l.map (Value.int .i64)).toArray 3)) fun e w' => e = .returned (.bool true) ∧ Below w.heap.size w w' := by
  have hb := (Below.refl w.heap.size w).alloc (Nat.le_refl _) (.cells (l.map (Value.int .i64)).toArray 3)
  refine (laganref04_SameInts.calls 5 A c l (some ⟨w.heap.size, 0, none⟩) l.length l true _ (Kd.C_below hr hb) hc (rowC (World.alloc_heap_new w _) (by omega) (fun j v hv => by simp [hv])) (Nat.le_refl _) hf).mono ?_
  rintro e w' ⟨rfl, hd⟩
  exact ⟨rfl, hb.trans (hd.below.mono hb.size)⟩
set_option maxRecDepth 100000 in
set_option maxHeartbeats 8000000 in
theorem matched_walk (w : World) : Calls Try.prog 14 #[] w fun e w' => e = .returned (.bool true) ∧ Below w.heap.size w w' := by
  go_enter Try.func14, Try.ntmps14
  go_wp2_with fail
  refine (board_calls 1 _).mono ?_
  rintro e w1 ⟨A0, c0, A1, c1, A2, c2, rfl, hc0, hc1, hc2, h0, h1, h2, hb1⟩
  have AC := PM.match_Assign.calls A0 c0 bdF A1 c1 (bdS 1) A2 c2 bdT _ _ _ w1 h0 hc0 h1 hc1 h2 hc2 bd_assign
  have HB1 := Go.Lib.hid hb1
  clear hc0 hc1 hc2 h0 h1 h2 hb1
  go_wp2_with fail
  refine AC.mono ?_
  clear AC
  rintro e w2 ⟨va, rfl, hRa, hb2⟩
  obtain ⟨Aa, ca, rfl, hla, hCa⟩ := Kd.R_reads hRa
  have HB2 := Go.Lib.hid (HB1.out.trans (hb2.mono HB1.out.size))
  have HCa := Go.Lib.hid hCa
  clear hRa hb2 hCa HB1
  go_wp2_with fail
  refine (board_calls 1 _).mono ?_
  rintro e w3 ⟨A0, c0, A1, c1, A2, c2, rfl, hc0, hc1, hc2, h0, h1, h2, hb3⟩
  have MC := PM.match_Must.calls 5 A0 c0 bdF A1 c1 (bdS 1) A2 c2 bdT _ _ w3 h0 hc0 h1 hc1 h2 hc2 bd_must1
  have HB3 := Go.Lib.hid (HB2.out.trans (hb3.mono HB2.out.size))
  have HCa3 := Go.Lib.hid (Kd.C_below HCa.out hb3)
  clear hc0 hc1 hc2 h0 h1 h2 hb3 HB2 HCa
  go_wp2_with fail
  refine MC.mono ?_
  clear MC
  rintro e w4 ⟨vb, rfl, hRb, hb4⟩
  obtain ⟨Ab, cb, rfl, hlb, hCb⟩ := Kd.R_reads hRb
  have HB4 := Go.Lib.hid (HB3.out.trans (hb4.mono HB3.out.size))
  have HCa4 := Go.Lib.hid (Kd.C_below HCa3.out hb4)
  have HCb4 := Go.Lib.hid hCb
  clear hRb hb4 hCb HB3 HCa3
  go_wp2_with fail
  refine (board_calls 2 _).mono ?_
  rintro e w5 ⟨A0, c0, A1, c1, A2, c2, rfl, hc0, hc1, hc2, h0, h1, h2, hb5⟩
  have MC := PM.match_Must.calls 5 A0 c0 bdF A1 c1 (bdS 2) A2 c2 bdT _ _ w5 h0 hc0 h1 hc1 h2 hc2 bd_must2
  have HB5 := Go.Lib.hid (HB4.out.trans (hb5.mono HB4.out.size))
  have HCa5 := Go.Lib.hid (Kd.C_below HCa4.out hb5)
  have HCb5 := Go.Lib.hid (Kd.C_below HCb4.out hb5)
  clear hc0 hc1 hc2 h0 h1 h2 hb5 HB4 HCa4 HCb4
  go_wp2_with fail
  refine MC.mono ?_
  clear MC
  rintro e w6 ⟨vc, rfl, hRc, hb6⟩
  obtain ⟨Ac, cc, rfl, hlc, hCc⟩ := Kd.R_reads hRc
  have HB6 := Go.Lib.hid (HB5.out.trans (hb6.mono HB5.out.size))
  have HCa6 := Go.Lib.hid (Kd.C_below HCa5.out hb6)
  have HCb6 := Go.Lib.hid (Kd.C_below HCb5.out hb6)
  have HCc6 := Go.Lib.hid hCc
  clear hRc hb6 hCc HB5 HCa5 HCb5
  go_wp2_with fail
  refine (board_calls 1 _).mono ?_
  rintro e w7 ⟨A0, c0, A1, c1, A2, c2, rfl, hc0, hc1, hc2, h0, h1, h2, hb7⟩
  have RC := PM.match_Refuse.calls A0 c0 bdF A1 c1 (bdS 1) A2 c2 bdT 2 1 _ _ _ w7 h0 hc0 h1 hc1 h2 hc2 bd_refuse
  have HB7 := Go.Lib.hid (HB6.out.trans (hb7.mono HB6.out.size))
  have HCa7 := Go.Lib.hid (Kd.C_below HCa6.out hb7)
  have HCb7 := Go.Lib.hid (Kd.C_below HCb6.out hb7)
  have HCc7 := Go.Lib.hid (Kd.C_below HCc6.out hb7)
  clear hc0 hc1 hc2 h0 h1 h2 hb7 HB6 HCa6 HCb6 HCc6
  go_wp2_with fail
  refine RC.mono ?_
  clear RC
  rintro e w8 ⟨vd, rfl, hRd, hb8⟩
  obtain ⟨Ad, cd, rfl, hld, hCd⟩ := Kd.R_reads hRd
  have HB8 := Go.Lib.hid (HB7.out.trans (hb8.mono HB7.out.size))
  have HC8 := Go.Lib.hid (And.intro (Kd.C_below HCa7.out hb8) (And.intro (Kd.C_below HCb7.out hb8) (And.intro (Kd.C_below HCc7.out hb8) hCd)))
  clear hRd hb8 hCd HB7 HCa7 HCb7 HCc7
  go_wp2_with fail
  refine (board_calls 2 _).mono ?_
  rintro e w9 ⟨A0, c0, A1, c1, A2, c2, rfl, hc0, hc1, hc2, h0, h1, h2, hb9⟩
  have LC := PM.match_Load.calls A0 c0 bdF A1 c1 (bdS 2) A2 c2 bdT 0 _ _ _ w9 h0 hc0 h1 hc1 h2 hc2 bd_load
  have HB9 := Go.Lib.hid (HB8.out.trans (hb9.mono HB8.out.size))
  have HC9 := Go.Lib.hid (And.intro (Kd.C_below HC8.out.1 hb9) (And.intro (Kd.C_below HC8.out.2.1 hb9) (And.intro (Kd.C_below HC8.out.2.2.1 hb9) (Kd.C_below HC8.out.2.2.2 hb9))))
  clear hc0 hc1 hc2 h0 h1 h2 hb9 HB8 HC8
  go_wp2_with fail
  refine LC.mono ?_
  clear LC
  rintro e w10 ⟨rfl, hb10⟩
  have HB10 := Go.Lib.hid (HB9.out.trans (hb10.mono HB9.out.size))
  have HC10 := Go.Lib.hid (And.intro (Kd.C_below HC9.out.1 hb10) (And.intro (Kd.C_below HC9.out.2.1 hb10) (And.intro (Kd.C_below HC9.out.2.2.1 hb10) (Kd.C_below HC9.out.2.2.2 hb10))))
  clear hb10 HB9 HC9
  go_wp2_with fail
  refine (board_calls 1 _).mono ?_
  rintro e w11 ⟨A0, c0, A1, c1, A2, c2, rfl, hc0, hc1, hc2, h0, h1, h2, hb11⟩
  have HB11 := Go.Lib.hid (HB10.out.trans (hb11.mono HB10.out.size))
  have HC11 := Go.Lib.hid (And.intro (Kd.C_below HC10.out.1 hb11) (And.intro (Kd.C_below HC10.out.2.1 hb11) (And.intro (Kd.C_below HC10.out.2.2.1 hb11) (Kd.C_below HC10.out.2.2.2 hb11))))
  have HD := Go.Lib.hid (And.intro h0 h1)
  clear hc2 h0 h1 h2 hb11 HB10 HC10
  go_wp2_with fail
  obtain ⟨W12, hW12, hb12, hT2⟩ := fits2_world w11 (.cells #[.slice A0 bdF.length c0, .slice A1 (bdS 1).length c1, .slice (some ⟨w11.heap.size + 1 + 1 + 1 + 1, 0, none⟩) 3 3] 26)
  rw [hW12]
  have HC := PM.match_Hall.calls A0 c0 bdF A1 c1 (bdS 1) _ 3 bdT2 _ _ _ W12 (Kd.C_below HD.out.1 hb12) hc0 (Kd.C_below HD.out.2 hb12) hc1 hT2 (by decide) bd_hall
  have HB12 := Go.Lib.hid (HB11.out.trans (hb12.mono HB11.out.size))
  have HC12 := Go.Lib.hid (And.intro (Kd.C_below HC11.out.1 hb12) (And.intro (Kd.C_below HC11.out.2.1 hb12) (And.intro (Kd.C_below HC11.out.2.2.1 hb12) (Kd.C_below HC11.out.2.2.2 hb12))))
  clear hW12 hb12 hT2 HD HB11 HC11 hc0 hc1
  refine HC.mono ?_
  clear HC
  rintro e w13 ⟨vk, rfl, hRk, hb13⟩
  obtain ⟨Ak, ck, rfl, hlk, _⟩ := Kd.R_reads hRk
  have HB13 := Go.Lib.hid (HB12.out.trans (hb13.mono HB12.out.size))
  have HC13 := Go.Lib.hid (And.intro (Kd.C_below HC12.out.1 hb13) (And.intro (Kd.C_below HC12.out.2.1 hb13) (And.intro (Kd.C_below HC12.out.2.2.1 hb13) (Kd.C_below HC12.out.2.2.2 hb13))))
  clear hRk hb13 HB12 HC12
  have SA := same_calls HC13.out.1 hla (by kernel_rfl) (by decide)
  go_wp2_with fail
  refine SA.mono ?_
  clear SA
  rintro e w14 ⟨rfl, hb14⟩
  have HB14 := Go.Lib.hid (HB13.out.trans (hb14.mono HB13.out.size))
  have SB := same_calls (Kd.C_below HC13.out.2.1 hb14) hlb (by kernel_rfl) (by decide)
  have HC14 := Go.Lib.hid (And.intro (Kd.C_below HC13.out.2.2.1 hb14) (Kd.C_below HC13.out.2.2.2 hb14))
  clear hb14 HB13 HC13
  go_wp2_with fail
  refine SB.mono ?_
  clear SB
  rintro e w15 ⟨rfl, hb15⟩
  have HB15 := Go.Lib.hid (HB14.out.trans (hb15.mono HB14.out.size))
  have SC := same_calls (Kd.C_below HC14.out.1 hb15) hlc (by kernel_rfl) (by decide)
  have HC15 := Go.Lib.hid (Kd.C_below HC14.out.2 hb15)
  clear hb15 HB14 HC14
  go_wp2_with fail
  refine SC.mono ?_
  clear SC
  rintro e w16 ⟨rfl, hb16⟩
  have HB16 := Go.Lib.hid (HB15.out.trans (hb16.mono HB15.out.size))
  have SD := same_calls (Kd.C_below HC15.out hb16) hld (by kernel_rfl) (by decide)
  clear hb16 HB15 HC15
  go_wp2_with fail
  refine SD.mono ?_
  clear SD
  rintro e w17 ⟨rfl, hb17⟩
  have HB17 := Go.Lib.hid (HB16.out.trans (hb17.mono HB16.out.size))
  clear hb17 HB16
  go_wp2_with fail
  go_ret
  exact ⟨rfl, HB17.out⟩
theorem PM.laganlaw04_matched.calls (r : Bool) (w : World) (h : laganlaw04_matched.f = some r) :
    Calls Try.prog 14 #[] w fun e w' => e = .returned (.bool r) ∧ Below w.heap.size w w' := by
  injection h with h
  subst h
  exact matched_walk w
end Go.Proofs.Ytkmmihadcbfkoaa
end

section
namespace Go.Proofs.Ytkmmihadcbfkoaa
set_option linter.unusedVariables false
set_option linter.unusedSimpArgs false
/-- The sum over the slots of a set. -/
def zsum (ns : Nat) (Z : Nat → Bool) (g : Nat → Int) : Int := ((List.range ns).map fun s => if Z s = true then g s else 0).sum
/-- A list is an assignment, one find being left out. -/
structure Asg (fits : List (List Int)) (room : List Int) (ns : Nat) (out : Int) (l : List Int) : Prop where
  len : l.length = fits.length
  none : ∀ f : Nat, f < fits.length → fits.getD f [] = [] ∨ (f : Int) = out → l.getD f 0 = -1
  some : ∀ f : Nat, f < fits.length → fits.getD f [] ≠ [] → (f : Int) ≠ out → l.getD f 0 ∈ fits.getD f []
  load : ∀ s : Nat, s < ns → ld l s ≤ room.getD s 0
/-- A list is a Hall set, one find being left out. -/
structure HallV (fits : List (List Int)) (room : List Int) (ns : Nat) (out : Int) (fs : List Int) : Prop where
  asc : fs.Pairwise (· < ·)
  rng : ∀ f, f ∈ fs → 0 ≤ f ∧ f < fits.length
  ne : ∀ f, f ∈ fs → fits.getD f.toNat [] ≠ []
  out : out ∉ fs
  z : ∃ Z : Nat → Bool, (∀ f, f ∈ fs → ∀ s, s ∈ fits.getD f.toNat [] → Z s.toNat = true) ∧ zsum ns Z (fun s => room.getD s 0) < fs.length
end Go.Proofs.Ytkmmihadcbfkoaa
end

section
namespace Go.Proofs.Ytkmmihadcbfkoaa
set_option linter.unusedVariables false
set_option linter.unusedSimpArgs false
/-- A partial assignment. -/
structure PV (fits : List (List Int)) (room : List Int) (ns : Nat) (has : List Int) : Prop where
  len : has.length = fits.length
  fit : ∀ f : Nat, f < fits.length → has.getD f 0 = -1 ∨ has.getD f 0 ∈ fits.getD f []
  load : ∀ s : Nat, s < ns → ld has s ≤ room.getD s 0
/-- What a search that succeeded has moved. -/
structure Moved (n : Nat) (seen : List Bool) (has : List Int) (f : Nat) (new : List Int) : Prop where
  oth : ∀ x : Nat, x < n → x ≠ f → new.getD x 0 = has.getD x 0 ∨ (0 ≤ has.getD x 0 ∧ 0 ≤ new.getD x 0 ∧ seen.getD (new.getD x 0).toNat false = false)
  self : 0 ≤ new.getD f 0 ∧ seen.getD (new.getD f 0).toNat false = false
def Sub (a b : List Bool) : Prop := ∀ t : Nat, a.getD t false = true → b.getD t false = true
theorem Sub.refl (a : List Bool) : Sub a a := fun _ h => h
theorem Sub.trans {a b c : List Bool} (h : Sub a b) (k : Sub b c) : Sub a c := fun t ht => k t (h t ht)
theorem Sub.no {a b : List Bool} (h : Sub a b) {t : Nat} (k : b.getD t false = false) : a.getD t false = false := by
  cases e : a.getD t false with
  | false => rfl
  | true => rw [h t e] at k; cases k
/-- The slots newly seen are full, and the finds there fit seen slots alone, but for one find. -/
def NewFull (fits : List (List Int)) (room : List Int) (ns : Nat) (seen new : List Bool) (has : List Int) (ex : Int) (res : List Bool) : Prop :=
  ∀ t : Nat, new.getD t false = true → seen.getD t false = true ∨ (t < ns ∧ room.getD t 0 ≤ ld has t ∧ ∀ g, g ∈ atOf has t → g ≠ ex → ∀ s, s ∈ fits.getD g.toNat [] → res.getD s.toNat false = true)
theorem NewFull.refl {fits : List (List Int)} {room : List Int} {ns : Nat} {seen : List Bool} {has : List Int} {ex : Int} {res : List Bool} : NewFull fits room ns seen seen has ex res := fun _ h => Or.inl h
theorem NewFull.res {fits : List (List Int)} {room : List Int} {ns : Nat} {seen new : List Bool} {has : List Int} {ex : Int} {res res' : List Bool} (h : NewFull fits room ns seen new has ex res) (k : Sub res res') : NewFull fits room ns seen new has ex res' := fun t ht => (h t ht).imp id fun ⟨a, b, c⟩ => ⟨a, b, fun g hg he s hs => k _ (c g hg he s hs)⟩
theorem NewFull.trans {fits : List (List Int)} {room : List Int} {ns : Nat} {seen mid new : List Bool} {has : List Int} {ex : Int} {res : List Bool} (h : NewFull fits room ns seen mid has ex res) (k : NewFull fits room ns mid new has ex res) : NewFull fits room ns seen new has ex res := fun t ht => (k t ht).elim (fun e => h t e) Or.inr
theorem at_nonneg {has : List Int} {t g : Int} (h : g ∈ atOf has t) : 0 ≤ g := (mem_atOf.1 h).1
theorem NewFull.ex {fits : List (List Int)} {room : List Int} {ns : Nat} {seen new : List Bool} {has : List Int} {ex : Int} {res : List Bool} (h : NewFull fits room ns seen new has (-1) res) : NewFull fits room ns seen new has ex res := fun t ht => (h t ht).imp id fun ⟨a, b, c⟩ => ⟨a, b, fun g hg _ => c g hg (by have := at_nonneg hg; omega)⟩
structure Good (fits : List (List Int)) (room : List Int) (ns m : Nat) (f : Int) (seen : List Bool) (has : List Int) (r : SR) : Prop where
  fail : r.ok = false → r.has = has
  sub : Sub seen r.seen
  win : r.ok = true → PV fits room ns has → PV fits room ns r.has ∧ Moved fits.length seen has f.toNat r.has
  shut : r.ok = false → cnt seen < m → (∀ s, s ∈ fits.getD f.toNat [] → r.seen.getD s.toNat false = true) ∧ NewFull fits room ns seen r.seen has (-1) r.seen
structure GoodG (fits : List (List Int)) (room : List Int) (ns m : Nat) (f : Int) (gs : List Int) (seen : List Bool) (has : List Int) (r : SR) : Prop where
  fail : r.ok = false → r.has = has
  sub : Sub seen r.seen
  win : r.ok = true → PV fits room ns has → ∃ g, g ∈ gs ∧ g ≠ f ∧ ∃ seen1, Sub seen seen1 ∧ PV fits room ns r.has ∧ Moved fits.length seen1 has g.toNat r.has
  shut : r.ok = false → cnt seen < m → (∀ g, g ∈ gs → g ≠ f → ∀ s, s ∈ fits.getD g.toNat [] → r.seen.getD s.toNat false = true) ∧ NewFull fits room ns seen r.seen has (-1) r.seen
structure GoodS (fits : List (List Int)) (room : List Int) (ns m : Nat) (f : Int) (ss : List Int) (seen : List Bool) (has : List Int) (r : SR) : Prop where
  fail : r.ok = false → r.has = has
  sub : Sub seen r.seen
  win : r.ok = true → PV fits room ns has → PV fits room ns r.has ∧ Moved fits.length seen has f.toNat r.has
  shut : r.ok = false → cnt seen < m → (∀ s, s ∈ ss → r.seen.getD s.toNat false = true) ∧ NewFull fits room ns seen r.seen has f r.seen
end Go.Proofs.Ytkmmihadcbfkoaa
end

section
namespace Go.Proofs.Ytkmmihadcbfkoaa
set_option linter.unusedVariables false
set_option linter.unusedSimpArgs false
structure FillOk (fits : List (List Int)) (room : List Int) (ns : Nat) (out : Int) (fs : List Nat) (has : List Int) (r : FR) : Prop where
  pv : PV fits room ns r.has
  left : ∀ o : Nat, (o : Int) = out → o < fits.length → r.has.getD o 0 = -1
  keep : ∀ x : Nat, x < fits.length → 0 ≤ has.getD x 0 → 0 ≤ r.has.getD x 0
  done : ∀ f, f ∈ fs → fits.getD f [] ≠ [] → (f : Int) ≠ out → 0 ≤ r.has.getD f 0
  hall : r.hall = []
end Go.Proofs.Ytkmmihadcbfkoaa
end

section
namespace Go.Proofs.Ytkmmihadcbfkoaa
open Go.RowKit Go.Proofs.YtkmmihadcbfkoaaW.PrintWords PM
set_option linter.unusedVariables false
set_option linter.unusedSimpArgs false
theorem Ev.same {α : Type} {x : Option α} {r : α} (h : x = some r) : Ev (fun _ => x) r := ⟨0, fun _ _ => h⟩
def meetsP (F : List Int) (S : List S50) (T : List (List Int)) (l : List Int) : Bool × Int := if checkB F S T ≠ 0 then (false, checkB F S T) else (meetsB F S T l, 0)
def hallP (F : List Int) (S : List S50) (T : List (List Int)) (fs : List Int) : Bool × Int := if checkB F S T ≠ 0 then (false, checkB F S T) else (crowdedB F S T fs (-1) (-1), 0)
theorem meets_is (F : List Int) (S : List S50) (T : List (List Int)) (l : List Int) : Ev (fun k => match_Meets.f k F S T l) (meetsP F S T l) := by
  refine (Ev.const (meetsP F S T l)).congr fun k => ?_
  unfold match_Meets.f meetsP
  split <;> rfl
theorem hall_is (F : List Int) (S : List S50) (T : List (List Int)) (fs : List Int) : Ev (fun k => match_CheckHall.f k F S T fs) (hallP F S T fs) := by
  refine (Ev.const (hallP F S T fs)).congr fun k => ?_
  unfold match_CheckHall.f hallP
  split <;> rfl
theorem matched_is : Ev (fun _ => laganlaw04_matched.f) true := Ev.const true
end Go.Proofs.Ytkmmihadcbfkoaa
end
