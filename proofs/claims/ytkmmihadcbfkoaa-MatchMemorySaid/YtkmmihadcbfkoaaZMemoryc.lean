/-
  MatchMemory holds: for every board, find and slot, the law returns true and what it is given reads as it did. (part 3 of 5 of the texts that it stands on)
-/
import Derived.Deep.RegionHeld3
import Derived.Laws.EntriesVeiled
import Derived.Test.YtkmmihadcbfkoaaZMemoryb
section
namespace Go.Proofs.Ytkmmihadcbfkoaa
open Go.RowKit Go.Proofs.YtkmmihadcbfkoaaW.PrintWords PM
set_option linter.unusedVariables false
set_option linter.unusedSimpArgs false
/-- A row of ints of the call's own, as cells of a block, and back. -/
theorem row_of_own {w : World} {b n c g : Nat} {xs : List Int} (h : w.ownsRow b 3 1 (.slice (some ⟨g, 0, none⟩) n c) n (xs.map (Value.int .i64))) :
  RowAt w g 3 (Value.int .i64) xs ∧ szOf (w.heap[g]?) = c ∧ xs.length = n ∧ n ≤ c ∧ c ≤ maxLen ∧ b ≤ g := by
 have hl : xs.length = n := by have := h.1; simpa using this
 rcases h.2 with ⟨e, _⟩ | ⟨g', cap, cur, e, hb, hh, hle, hmx, hsz, htk⟩
 ·
  cases e
 injection e with e1 e2 e3
 injection e1 with e1
 injection e1 with e1
 subst e1; subst e3
 refine ⟨⟨cur, hh, fun j hj => ?_⟩, by rw [hh]; simpa [szOf] using hsz, hl, hle, hmx, hb⟩
 have h2 : (cur.toList.take (n * 1))[j]? = (xs.map (Value.int .i64))[j]? := by rw [htk]
 rw [List.getElem?_take_of_lt (by omega), List.getElem?_map, List.getElem?_eq_getElem hj] at h2
 rw [← Array.getElem?_toList, h2]
 rfl
theorem own_of_row {w : World} {b n c g : Nat} {xs : List Int} (h : RowAt w g 3 (Value.int .i64) xs) (hsz : szOf (w.heap[g]?) = c) (hl : xs.length = n) (hle : n ≤ c) (hmx : c ≤ maxLen) (hb : b ≤ g) :
  w.ownsRow b 3 1 (.slice (some ⟨g, 0, none⟩) n c) n (xs.map (Value.int .i64)) := by
 obtain ⟨cs, hh, hc⟩ := h
 rw [hh] at hsz
 have hsz : cs.size = c := hsz
 refine ⟨by simpa using hl, Or.inr ⟨g, c, cs, rfl, hb, hh, hle, hmx, by omega, ?_⟩⟩
 apply List.ext_getElem?
 intro j
 by_cases hj : j < n
 rotate_left
 ·
  rw [List.getElem?_eq_none (by simp; omega), List.getElem?_eq_none (by simp; omega)]
 rw [List.getElem?_take_of_lt (by omega), List.getElem?_map, List.getElem?_eq_getElem (show j < xs.length by omega), Array.getElem?_toList]
 exact hc j (by omega)
theorem C_of_row {w : World} {b n : Nat} {xs : List Int} (h : RowAt w b 3 (Value.int .i64) xs) (hl : xs.length = n) (hn : n ≤ 9223372036854775807) : Kd.C (Kd.int .i64) w (some ⟨b, 0, none⟩) n xs :=
 Kd.C_of_reads (enc := Value.int .i64) (d := (0 : Int)) (h1 := fun _ => rfl) ⟨hl, hn, fun _ => ⟨⟨b, 0, none⟩, rfl, fun j hj => by
  rw [add_plain, h.cell j (by omega)]
  simp [List.getD_eq_getElem?_getD, List.getElem?_eq_getElem (show j < xs.length by omega)]⟩⟩
structure WR where
 ok : Bool
 has : List Int
/-- What 'with' comes to: is there an assignment that gives the find the slot, and which. -/
def withF (fits : List (List Int)) (room : List Int) (ns : Nat) (has : List Int) (find : Nat) (slot : Int) : WR :=
 if slot ∉ fits.getD find [] then ⟨false, []⟩
 else if has.getD find 0 = slot then ⟨true, has⟩
 else if (room.set slot.toNat (room.getD slot.toNat 0 - 1)).getD slot.toNat 0 < ld (has.set find (-1)) slot then
  if (giveR fits (room.set slot.toNat (room.getD slot.toNat 0 - 1)) ns ((atOf (has.set find (-1)) slot).getD 0 0) ((has.set find (-1)).set ((atOf (has.set find (-1)) slot).getD 0 0).toNat (-1))).ok then
   ⟨true, (giveR fits (room.set slot.toNat (room.getD slot.toNat 0 - 1)) ns ((atOf (has.set find (-1)) slot).getD 0 0) ((has.set find (-1)).set ((atOf (has.set find (-1)) slot).getD 0 0).toNat (-1))).has.set find slot⟩
  else ⟨false, []⟩
 else ⟨true, (has.set find (-1)).set find slot⟩
def WithPost (r : WR) (w : World) (e : Ending) (w' : World) : Prop :=
 ∃ v, e = .returned (.tuple #[v, .bool r.ok]) ∧ Kd.R (Kd.int .i64) 3 w' w.heap.size (fun _ => True) v r.has ∧ Below w.heap.size w w'
theorem copied_calls (A : Option Addr) (c : Nat) (l : List Int) (w : World) (hr : Kd.C (Kd.int .i64) w A l.length l) (hc : l.length ≤ c) (hl : l.length ≤ 1000) :
  Calls Try.prog 88 #[.slice A l.length c] w fun e w' => ∃ v, e = .returned v ∧ Kd.R (Kd.int .i64) 3 w' w.heap.size (fun _ => True) v l ∧ Below w.heap.size w w' :=
 match_copied_int_88.calls A c l l w hr hc (by
  unfold match_copied_int_88.f
  rw [Option.bind_some, if_pos (by simp; omega)]
  rfl)
/-- What the walk of 'with' is told of the trial: its row of slots is whole, its rooms have their lengths. -/
structure TGood (t : TL) (fits : List (List Int)) (room has : List Int) (w : World) : Prop where
 fit : TFit t fits room
 st : TStands t fits room w
 row : RowAt w t.bh 3 (Value.int .i64) has
 len : has.length = t.nh
 capr : room.length ≤ t.cr
 caph : t.nh ≤ t.ch
 rooms : ∀ i : Nat, i < t.n1 → 1 ≤ room.getD i 0 ∧ room.getD i 0 ≤ 20
 s0 : ∃ A n c, t.s0 = .slice A n c
 caps : ∀ i : Nat, i < fits.length → (fits.getD i []).length ≤ t.rc i
theorem copied_new {t : TL} {fits : List (List Int)} {room has : List Int} {w w2 w3 : World} {a2 : Addr} {As : Option Addr} {ns cs find b2 cv ch : Nat} {Av Ah : Option Addr} (fit : TFit t fits room) (rows : RowsAt w (some a2) t.ra t.rc fits) (len : has.length = t.nh) (hfd : find < t.nh)
  (hb2 : Below w.heap.size w w2) (hb2s : w.heap.size ≤ b2) (hRr : Kd.R (Kd.int .i64) 3 w2 b2 (fun _ => True) (.slice Av room.length cv) room) (hbh : Below w2.heap.size w2 w3) (hRh : Kd.R (Kd.int .i64) 3 w3 w2.heap.size (fun _ => True) (.slice Ah has.length ch) has) :
  ∃ Bh, Ah = some ⟨Bh, 0, none⟩ ∧ has.length ≤ ch ∧ ch ≤ maxLen ∧ szOf ((w3.alloc (.cells #[.slice As ns cs, .slice t.A1 t.n1 t.c1, .slice (some a2) fits.length t.c2, .slice Av room.length cv, .slice (some ⟨Bh, 0, none⟩) t.nh ch] 80)).heap[Bh]?) = ch ∧
   TNew w { g := w3.heap.size, bh := Bh, s0 := .slice As ns cs, A1 := t.A1, n1 := t.n1, c1 := t.c1, A2 := some a2, c2 := t.c2, ra := t.ra, rc := t.rc, Ar := Av, cr := cv, nh := t.nh, ch := ch } fits room has
    (w3.alloc (.cells #[.slice As ns cs, .slice t.A1 t.n1 t.c1, .slice (some a2) fits.length t.c2, .slice Av room.length cv, .slice (some ⟨Bh, 0, none⟩) t.nh ch] 80)) := by
 have hoh := Kd.own_of_R hRh
 have hor := Kd.own_of_R hRr
 obtain ⟨Bh, rfl⟩ : ∃ Bh, Ah = some ⟨Bh, 0, none⟩ := by
  rcases hoh.2 with ⟨_, hz⟩ | ⟨g, _, _, e, _⟩
  ·
   omega
  ·
   injection e with e1
   exact ⟨g, e1⟩
 obtain ⟨hrow, hsz, _, hle, hmx, hbl⟩ := row_of_own hoh
 have hal := (Below.refl w3.heap.size w3).alloc (Nat.le_refl _) (.cells #[.slice As ns cs, .slice t.A1 t.n1 t.c1, .slice (some a2) fits.length t.c2, .slice Av room.length cv, .slice (some ⟨Bh, 0, none⟩) t.nh ch] 80)
 refine ⟨Bh, rfl, hle, hmx, ?_, World.alloc_heap_new _ _, hrow.below hal, ?_, ?_, ?_, rows, ?_, ?_, ⟨fit.slot, fit.room, fit.row, fit.finds, fit.ns, fit.nh⟩, len⟩
 ·
  rw [hal.block Bh hrow.lt]; exact hsz
 ·
  exact pw_own_below (pw_own_below (own_weaken hor hb2s) hbh) hal
 ·
  intro e
  have := own_lt hor Bh e
  omega
 ·
  exact (hb2.trans (hbh.mono hb2.size)).trans (hal.mono (Nat.le_trans hb2.size hbh.size))
 ·
  exact Nat.le_trans hb2.size hbh.size
 exact Nat.le_trans hb2.size hbl
theorem TNew.later {w0 w w' : World} {t : TL} {T : List (List Int)} {room has : List Int} (h : TNew w0 t T room has w) (hb : Below w.heap.size w w') : TNew w0 t T room has w' :=
 ⟨(hb.block t.g (Array.getElem?_eq_some_iff.1 h.gb).1).trans h.gb, h.row.below hb, pw_own_below h.own hb, h.ne, h.B.trans (hb.mono h.B.size), h.rows, h.gl, h.hl, h.fit, h.len⟩
/-- A find's slot is written. -/
theorem TNew.put {w0 w : World} {t : TL} {T : List (List Int)} {room has : List Int} (h : TNew w0 t T room has w) (i : Nat) (x : Int) :
  TNew w0 t T room (has.set i x) (w.setCell ⟨t.bh, i, none⟩ (.int .i64 x)) ∧ szOf ((w.setCell ⟨t.bh, i, none⟩ (.int .i64 x)).heap[t.bh]?) = szOf (w.heap[t.bh]?) := by
 have hgb : t.g ≠ t.bh := by
  intro e
  obtain ⟨cs, hc, _⟩ := h.row
  rw [← e, h.gb] at hc
  injection hc with hc
  injection hc with _ hc
  exact absurd hc (by decide)
 refine ⟨⟨(Below.heap_setCell _ _ _ _ hgb).trans h.gb, h.row.set i x, own_move h.own (fun k hk => Below.heap_setCell _ _ _ _ (fun e => h.ne (by rw [hk, e]))), h.ne, setCell_below h.B h.hl _, h.rows, h.gl, h.hl, h.fit, by rw [List.length_set]; exact h.len⟩, szOf_setCell _ _ _ _⟩
/-- The row of the finds' slots, as what is returned. -/
theorem row_result {w0 w : World} {bh nh ch : Nat} {has : List Int} (hrow : RowAt w bh 3 (Value.int .i64) has) (hsz : szOf (w.heap[bh]?) = ch) (hl : has.length = nh) (hle : nh ≤ ch) (hmx : ch ≤ maxLen) (hb : w0.heap.size ≤ bh) :
  Kd.R (Kd.int .i64) 3 w w0.heap.size (fun _ => True) (.slice (some ⟨bh, 0, none⟩) nh ch) has := by
 have := own_of_row hrow hsz hl hle hmx hb
 subst hl
 exact Kd.R_of_own (enc := Value.int .i64) (h1 := fun _ => rfl) (ok := fun _ => True) this (fun _ _ => trivial)
set_option maxRecDepth 100000 in
set_option maxHeartbeats 8000000 in
theorem with_calls (t : TL) (fits : List (List Int)) (room has : List Int) (find : Nat) (slot : Int) (w : World) (hfd : find < t.nh) (hG : TGood t fits room has w) :
  Calls Try.prog 67 #[.pointer (some ⟨t.g, 0, none⟩), .int .i64 find, .int .i64 slot] w (WithPost (withF fits room t.n1 has find slot) w) := by
 have hst := hG.st.still
 have f0 := hst.f0
 have f1 := hst.f1
 have f2 := hst.f2
 have f3 := hst.f3
 have f4 := hst.f4
 have hft : find < fits.length := by rw [hG.fit.finds]; exact hfd
 obtain ⟨a2, e2, hx, hC⟩ := hst.fits find hft
 have hcap := hG.caps find hft
 obtain ⟨rr, hrr⟩ : ∃ rr, withF fits room t.n1 has find slot = rr := ⟨_, rfl⟩
 rw [hrr]
 unfold withF at hrr
 obtain ⟨row, hrw⟩ : ∃ row, fits.getD find [] = row := ⟨_, rfl⟩
 have hslot := hG.fit.slot find hft
 rw [hrw] at hx hC hcap hrr hslot
 have CC := contains_calls (t.ra find) (t.rc find) row slot w hC hcap
 have HRR := Go.Lib.hid hrr
 have HG := Go.Lib.hid hG
 have HSL := Go.Lib.hid hslot
 rw [e2] at f2
 have HE2 := Go.Lib.hid e2
 have HF := Go.Lib.hid (And.intro f0 (And.intro f1 (And.intro f2 (And.intro f3 f4))))
 have hlf : (find : Int) < (fits.length : Int) := by omega
 have lFi : fits.length ≤ 1000 := by rw [hG.fit.finds]; exact hG.fit.nh
 clear hrr hG hC hst hrw hslot e2
 go_enter Try.func67, Try.ntmps67
 go_wp2_with fail
 refine CC.mono ?_
 clear CC
 rintro e w1 ⟨rfl, hd1⟩
 by_cases hin : slot ∈ row
 rotate_left
 ·
  rw [decide_eq_false hin]
  have hrr := HRR.out
  rw [if_pos hin] at hrr
  subst hrr
  have HB := Go.Lib.hid hd1.below
  clear hin hd1 HRR
  go_wp2_with fail
  go_ret2
  exact ⟨_, rfl, Kd.R_nil _ _ _ _ _, HB.out⟩
 rw [decide_eq_true hin]
 have hrr := HRR.out
 rw [if_neg (by simpa using hin)] at hrr
 have hb1 := hd1.below
 have g0 := pw_cell_below hb1 HF.out.1
 have g1 := pw_cell_below hb1 HF.out.2.1
 have g2 := pw_cell_below hb1 HF.out.2.2.1
 have g3 := pw_cell_below hb1 HF.out.2.2.2.1
 have g4 := pw_cell_below hb1 HF.out.2.2.2.2
 have hG := HG.out
 have hlr : room.length ≤ 1000 := by rw [hG.fit.room]; exact hG.fit.ns
 have hlh : t.nh ≤ 1000 := hG.fit.nh
 obtain ⟨As, ns, cs, es0⟩ := hG.s0
 rw [es0] at g0
 have HF0 := HF.out.1
 rw [es0] at HF0
 have HF0 := Go.Lib.hid HF0
 have HS0 := Go.Lib.hid es0
 clear es0
 have CR : ∀ W, Below w.heap.size w W → Calls Try.prog 88 #[.slice t.Ar room.length t.cr] W fun e w' => ∃ v, e = .returned v ∧ Kd.R (Kd.int .i64) 3 w' W.heap.size (fun _ => True) v room ∧ Below W.heap.size W w' := fun W hb =>
  copied_calls t.Ar t.cr room W (Kd.C_below hG.st.still.room hb) hG.capr hlr
 have CH : ∀ W, Below w.heap.size w W → Calls Try.prog 88 #[.slice (some ⟨t.bh, 0, none⟩) t.nh t.ch] W fun e w' => ∃ v, e = .returned v ∧ Kd.R (Kd.int .i64) 3 w' W.heap.size (fun _ => True) v has ∧ Below W.heap.size W w' := fun W hb => by
  have hC := C_of_row (hG.row.below hb) rfl (by rw [hG.len]; omega)
  have := copied_calls (some ⟨t.bh, 0, none⟩) t.ch has W hC (by rw [hG.len]; exact hG.caph) (by rw [hG.len]; exact hlh)
  rw [hG.len] at this
  exact this
 have hb0 : Below w.heap.size w w1.drew := hb1.drew
 have HRR := Go.Lib.hid hrr
 have HIN := Go.Lib.hid hin
 clear hrr hin hd1 hb1 hG f0 f1 f2 f3 f4 hx
 go_wp2_with fail
 go_region_held3 (fun w' => w'.cell? ⟨t.g, 0, none⟩ = some (.slice As ns cs) ∧ w'.cell? ⟨t.g, 1, none⟩ = some (.slice t.A1 t.n1 t.c1) ∧ w'.cell? ⟨t.g, 2, none⟩ = some (.slice (some a2) fits.length t.c2) ∧ w'.cell? ⟨t.g, 3, none⟩ = some (.slice t.Ar room.length t.cr) ∧ w'.cell? ⟨t.g, 4, none⟩ = some (.slice (some ⟨t.bh, 0, none⟩) t.nh t.ch) ∧ Below w.heap.size w w')
  (go_keep)
  (first
   | (go_at_call 88; refine (CR _ (by assumption)).mono ?_; rintro e w' ⟨vr, rfl, hRr, hbr⟩; obtain ⟨Av, cv, rfl, lv, _⟩ := Kd.R_reads hRr; have hb := Below.trans (‹Below w.heap.size w _›) (hbr.mono (Below.size ‹Below w.heap.size w _›)); have q0 := pw_cell_below hb HF0.out; have q1 := pw_cell_below hb HF.out.2.1; have q2 := pw_cell_below hb HF.out.2.2.1; have q3 := pw_cell_below hb HF.out.2.2.2.1; have q4 := pw_cell_below hb HF.out.2.2.2.2)
   | (go_at_call 88; refine (CH _ (by assumption)).mono ?_; rintro e w' ⟨vh, rfl, hRh, hbh⟩; obtain ⟨Ah, ch, rfl, lh, _⟩ := Kd.R_reads hRh; have hb := Below.trans (‹Below w.heap.size w _›) (hbh.mono (Below.size ‹Below w.heap.size w _›)); have hba : ∀ o, Below w.heap.size w (w'.alloc o) := fun o => hb.alloc hb.size o; have q0 := pw_cell_below hb HF0.out; have q1 := pw_cell_below hb HF.out.2.1; have q2 := pw_cell_below hb HF.out.2.2.1; have q3 := pw_cell_below hb HF.out.2.2.2.1; have q4 := pw_cell_below hb HF.out.2.2.2.2))
 obtain ⟨Bh, rfl, hle, hmx, hsz5, hN⟩ := copied_new (As := As) (ns := ns) (cs := cs) HG.out.fit (by rw [← HE2.out]; exact HG.out.st.still.fits) HG.out.len hfd (Below.trans (Below.drew (Below.refl _ _)) hbr |> fun h => hb0.trans (hbr.mono hb0.size)) hb0.size hRr hbh hRh
 have hlen := HG.out.len
 rw [hlen]
 have hlf1 : (find : Int) < (t.nh : Int) := by omega
 obtain ⟨W5, hW5⟩ : ∃ W5, w'.alloc (.cells #[.slice As ns cs, .slice t.A1 t.n1 t.c1, .slice (some a2) fits.length t.c2, .slice Av room.length cv, .slice (some ⟨Bh, 0, none⟩) t.nh ch] 80) = W5 := ⟨_, rfl⟩
 rw [hW5] at hN hsz5 ⊢
 obtain ⟨u, hug, hubh, hun1, hunh, huch, huAr, hucr, hNu⟩ : ∃ u : TL, u.g = w'.heap.size ∧ u.bh = Bh ∧ u.n1 = t.n1 ∧ u.nh = t.nh ∧ u.ch = ch ∧ u.Ar = Av ∧ u.cr = cv ∧ TNew w u fits room has W5 :=
  ⟨{ g := w'.heap.size, bh := Bh, s0 := .slice As ns cs, A1 := t.A1, n1 := t.n1, c1 := t.c1, A2 := some a2, c2 := t.c2, ra := t.ra, rc := t.rc, Ar := Av, cr := cv, nh := t.nh, ch := ch }, rfl, rfl, rfl, rfl, rfl, rfl, rfl, hN⟩
 obtain ⟨wg, hwg⟩ : ∃ wg, w'.heap.size = wg := ⟨_, rfl⟩
 rw [hwg] at hug ⊢
 clear hN
 have hN := hNu
 clear hNu
 subst hug hubh huch huAr hucr
 have c4 := cell_of_heap hN.gb (j := 4) rfl
 rw [hunh] at c4
 have cf := hN.row.cellD 0 (find : Int) (by omega) (by omega)
 rw [Int.toNat_natCast] at cf
 rw [hlen] at hle
 have hrm := HG.out.rooms slot.toNat
 have hrr := HRR.out
 obtain ⟨z, hz⟩ : ∃ z, has.getD find 0 = z := ⟨_, rfl⟩
 rw [hz] at hrr cf
 obtain ⟨jj, hjj, hje⟩ := List.getElem_of_mem HIN.out
 have hsb := HSL.out jj hjj
 rw [show row.getD jj 0 = slot from by rw [List.getD_eq_getElem?_getD, List.getElem?_eq_getElem hjj]; exact hje] at hsb
 obtain ⟨hs0, hs1⟩ := hsb
 have hrm := hrm (by omega)
 have hlr2 : (room.length : Int) = (t.n1 : Int) := by rw [HG.out.fit.room]
 have HN := Go.Lib.hid hN
 have HRR2 := Go.Lib.hid hrr
 have HSZ := Go.Lib.hid (And.intro hsz5 (And.intro hle (And.intro hmx (And.intro hun1 (And.intro hunh hlen)))))
 clear HRR hrr hN hsz5 hle hmx hun1 hunh hlen hz hwg hW5 hbr hbh hRr hRh lv lh hba hje hjj hb CR CH hb0
 clear q0 q1 q2 q3 q4 g0 g1 g2 g3 g4
 by_cases heq : z = slot
 ·
  have hrr := HRR2.out
  rw [if_pos heq] at hrr
  have HR0 := Go.Lib.hid hrr
  subst heq
  clear hrr hrm
  go_wp2_with fail
  go_ret2
  rw [← HR0.out]
  exact ⟨_, rfl, row_result HN.out.row HSZ.out.1 HSZ.out.2.2.2.2.2 HSZ.out.2.1 HSZ.out.2.2.1 HN.out.hl, HN.out.B⟩
 have g5 : (z == slot) = false := by simpa using heq
 have hrr := HRR2.out
 rw [if_neg heq] at hrr
 have fz := HN.out.row.frozen find
 obtain ⟨hN6, hsz6⟩ := HN.out.put find (-1)
 obtain ⟨Ab, eA, hc, hfz, hN7⟩ := hN6.set slot hs0 (by rw [hlr2]; exact hs1) (room.getD slot.toNat 0 - 1)
 have c3 := cell_of_heap hN6.gb (j := 3) rfl
 rw [eA] at c3
 have c46 := cell_of_heap hN6.gb (j := 4) rfl
 obtain ⟨v, hv⟩ : ∃ v, room.getD slot.toNat 0 = v := ⟨_, rfl⟩
 rw [hv] at hrm hc hN7 hrr
 obtain ⟨hv1, hv2⟩ := hrm
 have HRR3 := Go.Lib.hid hrr
 have HEA := Go.Lib.hid eA
 have hs2 : slot < (room.length : Int) := by rw [hlr2]; exact hs1
 have HN7 := Go.Lib.hid hN7
 have HSZ6 := Go.Lib.hid (hsz6.trans HSZ.out.1)
 clear heq hrr hN6 hN7 hsz6 eA hv hlr2
 go_wp2_with fail
 obtain ⟨W7, hW7⟩ : ∃ W7, (W5.setCell ⟨u.bh, find, none⟩ (.int .i64 (-1))).setCell ⟨Ab, slot.toNat, none⟩ (.int .i64 (v - 1)) = W7 := ⟨_, rfl⟩
 have hsz7 : szOf (W7.heap[u.bh]?) = u.ch := by rw [← hW7, szOf_setCell]; exact HSZ6.out
 have hN7 := HN7.out
 rw [hW7] at hN7 ⊢
 obtain ⟨h1, hh1⟩ : ∃ h1, has.set find (-1) = h1 := ⟨_, rfl⟩
 obtain ⟨room1, hro1⟩ : ∃ room1, room.set slot.toNat (v - 1) = room1 := ⟨_, rfl⟩
 have hlr1 : room1.length = room.length := by rw [← hro1]; simp
 have hrv : room1.getD slot.toNat 0 = v - 1 := by rw [← hro1]; simp [List.getD_eq_getElem?_getD, show slot.toNat < room.length by omega]
 have hrr := HRR3.out
 rw [hh1, hro1] at hN7
 rw [hh1, hro1, hrv] at hrr
 have hh1l : h1.length = t.nh := by rw [← hh1, List.length_set]; exact HSZ.out.2.2.2.2.2
 obtain ⟨Ab2, eA2, hc2, _, _⟩ := hN7.set slot hs0 (by rw [hlr1]; exact hs2) 0
 rw [HEA.out] at eA2
 injection eA2 with eA2
 injection eA2 with eA2
 subst eA2
 rw [hrv] at hc2
 have c3 := cell_of_heap hN7.gb (j := 3) rfl
 rw [HEA.out, hlr1] at c3
 have c4 := cell_of_heap hN7.gb (j := 4) rfl
 rw [HSZ.out.2.2.2.2.1] at c4
 have hz := hN7.row.ints
 have LC : ∀ W, Below W7.heap.size W7 W → Calls Try.prog 74 #[.pointer (some ⟨u.g, 0, none⟩), .int .i64 slot] W fun e w' => e = .returned (.int .i64 ((atOf h1 slot).length : Int)) ∧ Below W7.heap.size W7 w' := fun W hb => by
  refine (load_calls u.g (some ⟨u.bh, 0, none⟩) u.ch slot h1 (by rw [hh1l]; have := HG.out.fit.nh; omega) W (by rw [hh1l]; exact pw_cell_below hb c4) (hz.below hb)).mono ?_
  rintro e w' ⟨rfl, hb2⟩
  exact ⟨rfl, hb.trans (hb2.mono hb.size)⟩
 have hb0 : Below W7.heap.size W7 W7.drew := (Below.refl _ _).drew
 have HC7 := Go.Lib.hid (And.intro c3 hc2)
 have HN7' := Go.Lib.hid hN7
 have HSZ7 := Go.Lib.hid hsz7
 have HRO1 := Go.Lib.hid (And.intro hro1 (And.intro hh1l hlr1))
 have HZ := Go.Lib.hid hz
 rw [show ld h1 slot = ((atOf h1 slot).length : Int) from rfl] at hrr
 have HRR4 := Go.Lib.hid hrr
 clear hrr hh1 hro1 hlr1 hrv hh1l hN7 hsz7 hW7 c4 hz HN7 HSZ6 HRR3 HRR2 hc fz hfz c46
 by_cases hgt : v - 1 < ((atOf h1 slot).length : Int)
 rotate_left
 ·
  have g8 : decide (v - 1 < ((atOf h1 slot).length : Int)) = false := by simpa using hgt
  have hrr := HRR4.out
  rw [if_neg hgt] at hrr
  have HRR5 := Go.Lib.hid hrr
  clear hrr hgt HRR4
  go_region_held3 (fun w' => w'.cell? ⟨u.g, 3, none⟩ = some (.slice (some ⟨Ab, 0, none⟩) room.length u.cr) ∧ w'.cell? ⟨Ab, slot.toNat, none⟩ = some (.int .i64 (v - 1)) ∧ Below W7.heap.size W7 w')
   (go_keep)
   (first
    | (go_at_call 74; refine (LC _ (by assumption)).mono ?_; rintro e w8 ⟨rfl, hb8⟩; have f3 := pw_cell_below hb8 HC7.out.1; have f4 := pw_cell_below hb8 HC7.out.2))
  have hN8 := HN7'.out.later hb8
  have c4 := cell_of_heap hN8.gb (j := 4) rfl
  rw [HSZ.out.2.2.2.2.1] at c4
  have fz := hN8.row.frozen find
  have hlh1 : (find : Int) < (h1.length : Int) := by rw [HRO1.out.2.1]; exact hlf1
  obtain ⟨hN9, hsz9⟩ := hN8.put find slot
  have c49 := cell_of_heap hN9.gb (j := 4) rfl
  rw [HSZ.out.2.2.2.2.1] at c49
  have cf8 := hN8.row.cellD 0 (find : Int) (by omega) hlh1
  rw [Int.toNat_natCast] at cf8
  have hsz10 := hsz9.trans ((by rw [hb8.block u.bh HN7'.out.row.lt]; exact HSZ7.out : szOf (w8.heap[u.bh]?) = u.ch))
  have HN9 := Go.Lib.hid hN9
  have HSZ10 := Go.Lib.hid hsz10
  clear hN8 hN9 hsz9 hsz10 hb8 f3 f4
  go_wp2_with fail
  go_ret2
  rw [← HRR5.out]
  exact ⟨_, rfl, row_result HN9.out.row HSZ10.out (by rw [List.length_set]; exact HRO1.out.2.1) HSZ.out.2.1 HSZ.out.2.2.1 HN9.out.hl, HN9.out.B⟩
 have g8 : decide (v - 1 < ((atOf h1 slot).length : Int)) = true := by simpa using hgt
 have hrr := HRR4.out
 rw [if_pos hgt] at hrr
 have HRR5 := Go.Lib.hid hrr
 have HGT := Go.Lib.hid hgt
 clear hrr hgt HRR4
 go_region_held3 (fun w' => w'.cell? ⟨u.g, 3, none⟩ = some (.slice (some ⟨Ab, 0, none⟩) room.length u.cr) ∧ w'.cell? ⟨Ab, slot.toNat, none⟩ = some (.int .i64 (v - 1)) ∧ Below W7.heap.size W7 w')
  (go_keep)
  (first
   | (go_at_call 74; refine (LC _ (by assumption)).mono ?_; rintro e w8 ⟨rfl, hb8⟩; have f3 := pw_cell_below hb8 HC7.out.1; have f4 := pw_cell_below hb8 HC7.out.2))
 have hN8 := HN7'.out.later hb8
 have c4 := cell_of_heap hN8.gb (j := 4) rfl
 rw [HSZ.out.2.2.2.2.1] at c4
 have hsz8 : szOf (w8.heap[u.bh]?) = u.ch := by rw [hb8.block u.bh HN7'.out.row.lt]; exact HSZ7.out
 have AC := at_calls (some ⟨u.g, 0, none⟩) slot w8
 have hB9 : Below w8.heap.size w8 ((w8.alloc (.cells #[.pointer (some ⟨u.g, 0, none⟩)] 68)).alloc (.cells #[.int .i64 slot] 3)) := ((Below.refl _ w8).alloc (Nat.le_refl _) _).alloc (by simp) _
 have bT := ((Boxed.new w8 68 (.pointer (some ⟨u.g, 0, none⟩))).alloc (.cells #[.int .i64 slot] 3)).cell
 have bS := (Boxed.new (w8.alloc (.cells #[.pointer (some ⟨u.g, 0, none⟩)] 68)) 3 (.int .i64 slot)).cell
 simp only [World.size_alloc] at bS
 have CO := collect_in w8.heap.size (w8.heap.size + 1) u.g (some ⟨u.bh, 0, none⟩) u.ch slot h1 (by rw [HRO1.out.2.1]; have := HG.out.fit.nh; omega) _ bT bS (by rw [HRO1.out.2.1]; exact pw_cell_below hB9 c4) (hN8.row.below hB9).ints
 have HN8 := Go.Lib.hid hN8
 have HB9 := Go.Lib.hid hB9
 have HSZ8 := Go.Lib.hid hsz8
 clear hN8 c4 hsz8 hB9 bT bS hb8 f3 f4 LC hb0
 go_wp2_with fail
 refine AC.mono ?_
 clear AC
 rintro e w9 ⟨rfl, rfl⟩
 go_wp2_with fail
 refine CO.mono ?_
 clear CO
 rintro e w10 ⟨vl, rfl, ho, hb10⟩
 generalize (w8.alloc (.cells #[.pointer (some ⟨u.g, 0, none⟩)] 68)).alloc (.cells #[.int .i64 slot] 3) = w9 at *
 have hN10 := (HN8.out.later HB9.out).later hb10
 have hsz10 : szOf (w10.heap[u.bh]?) = u.ch := by
  rw [hb10.block u.bh (HN8.out.later HB9.out).row.lt, HB9.out.block u.bh HN8.out.row.lt]
  exact HSZ8.out
 obtain ⟨gs, hgs⟩ : ∃ gs, atOf h1 slot = gs := ⟨_, rfl⟩
 rw [hgs] at ho
 have hgt := HGT.out
 rw [hgs] at hgt
 have hrr := HRR5.out
 rw [hgs] at hrr
 obtain ⟨gn, rest, hgr, hgl⟩ : ∃ (gn : Nat) (rest : List Int), gs = (gn : Int) :: rest ∧ gn < h1.length := by
  cases hgc : gs with
  | nil => rw [hgc] at hgt; simp at hgt; omega
  | cons a rest =>
   have hm : a ∈ atOf h1 slot := by rw [hgs, hgc]; simp
   have := mem_atOf.1 hm
   exact ⟨a.toNat, rest, by rw [show ((a.toNat : Nat) : Int) = a by omega], by omega⟩
 rw [hgr] at ho hrr
 have hrr : (if (giveR fits room1 t.n1 (gn : Int) (h1.set gn (-1))).ok = true then (⟨true, (giveR fits room1 t.n1 (gn : Int) (h1.set gn (-1))).has.set find slot⟩ : WR) else ⟨false, []⟩) = rr := by
  simpa using hrr
 obtain ⟨Al, cl, rfl, _, hCl⟩ := Kd.R_reads (Kd.R_of_own (enc := Value.int .i64) (h1 := fun _ => rfl) (ok := fun _ => True) ho (fun _ _ => trivial))
 obtain ⟨al, eal, xl⟩ := Kd.at_int hCl (0 : Int) (by omega) (by simp)
 have xl : w10.cell? al = some (.int .i64 (gn : Int)) := by
  have : w10.cell? (al.add (0 : Int).toNat) = some (.int .i64 (gn : Int)) := xl
  simpa [Addr.add] using this
 have hlen0 : (0 : Int) < (((gn : Int) :: rest).length : Int) := by simp
 have c4 := cell_of_heap hN10.gb (j := 4) rfl
 rw [HSZ.out.2.2.2.2.1] at c4
 have fzg := hN10.row.frozen gn
 have cfg := hN10.row.cellD 0 (gn : Int) (by omega) (by omega)
 rw [Int.toNat_natCast] at cfg
 have hgl2 : (gn : Int) < (t.nh : Int) := by rw [HRO1.out.2.1] at hgl; omega
 obtain ⟨hN11, hsz11⟩ := hN10.put gn (-1)
 have GC := give_calls u fits room1 hN11.fit gn (by rw [HSZ.out.2.2.2.2.1]; omega) (h1.set gn (-1)) hN11.len _ hN11.stands hN11.row
 rw [HSZ.out.2.2.2.1] at GC
 obtain ⟨r, hr⟩ : ∃ r, giveR fits room1 t.n1 (gn : Int) (h1.set gn (-1)) = r := ⟨_, rfl⟩
 rw [hr] at GC hrr
 have hrl : r.has.length = t.nh := by rw [← hr, giveR_len, List.length_set]; exact HRO1.out.2.1
 have HRL := Go.Lib.hid hrl
 have HRR6 := Go.Lib.hid hrr
 have HN11 := Go.Lib.hid hN11
 have HSZ11 := Go.Lib.hid (hsz11.trans hsz10)
 subst eal
 clear hrr HRR5 hgt HGT hgs hgr ho hCl hN10 hsz10 hN11 hsz11 hr hrl hb10 HB9 HN8 HSZ8
 go_wp2_with fail
 unfold GivePost at GC
 obtain ⟨ok, hok⟩ : ∃ ok, r.ok = ok := ⟨_, rfl⟩
 rw [hok] at GC
 have hrr := HRR6.out
 rw [hok] at hrr
 clear hok
 cases ok with
 | false =>
  rw [if_neg (by simp)] at hrr
  subst hrr
  refine GC.mono ?_
  clear GC
  rintro e w12 ⟨vh, rfl, hag, _, _⟩
  have hB12 := hag.below HN11.out.B HN11.out.B.size HN11.out.hl HN11.out.hl
  have HB12 := Go.Lib.hid hB12
  clear hag hB12
  go_wp2_with fail
  go_ret2
  exact ⟨_, rfl, Kd.R_nil _ _ _ _ _, HB12.out⟩
 | true =>
  rw [if_pos rfl] at hrr
  have HRR7 := Go.Lib.hid hrr
  clear hrr
  refine GC.mono ?_
  clear GC
  rintro e w12 ⟨vh, rfl, hag, hrow12, _⟩
  have hB12 := hag.below HN11.out.B HN11.out.B.size HN11.out.hl HN11.out.hl
  have hst12 := (HN11.out.stands.later hag).still
  have c4 := hst12.f4
  rw [HSZ.out.2.2.2.2.1] at c4
  have fz := hrow12.frozen find
  have cf12 := hrow12.cellD 0 (find : Int) (by omega) (by rw [HRL.out]; exact hlf1)
  rw [Int.toNat_natCast] at cf12
  have hag13 : Agree u.bh u.bh w12 (w12.setCell ⟨u.bh, find, none⟩ (.int .i64 slot)) := Agree.set1 _ _ _
  have c413 := ((HN11.out.stands.later hag).later hag13).still.f4
  rw [HSZ.out.2.2.2.2.1] at c413
  have hrow13 := hrow12.set find slot
  have hsz13 : szOf ((w12.setCell ⟨u.bh, find, none⟩ (.int .i64 slot)).heap[u.bh]?) = u.ch := by
   rw [szOf_setCell, hag.cells u.bh HN11.out.row.lt]
   exact HSZ11.out
  have hB13 := setCell_below hB12 HN11.out.hl (p := ⟨u.bh, find, none⟩) (.int .i64 slot)
  have HROW13 := Go.Lib.hid hrow13
  have HSZ13 := Go.Lib.hid hsz13
  have HB13 := Go.Lib.hid hB13
  clear hag hB12 hst12 hag13 hrow13 hsz13 hB13 hrow12
  go_wp2_with fail
  go_ret2
  rw [← HRR7.out]
  exact ⟨_, rfl, row_result HROW13.out HSZ13.out (by rw [List.length_set]; exact HRL.out) HSZ.out.2.1 HSZ.out.2.2.1 HN11.out.hl, HB13.out⟩
end Go.Proofs.Ytkmmihadcbfkoaa
end

section
namespace Go.Proofs.Ytkmmihadcbfkoaa
open Go.RowKit Go.Proofs.YtkmmihadcbfkoaaW.PrintWords PM
set_option linter.unusedVariables false
set_option linter.unusedSimpArgs false
/-- What filling from nothing comes to, the board being as said. -/
def hallR (F : List Int) (S : List S50) (T : List (List Int)) (out : Int) (room : List Int) : FR := fillF T room S.length out (List.replicate F.length (-1))
def PM.match_Hall.f (F : List Int) (S : List S50) (T : List (List Int)) : Option (List Int × Bool × Int) :=
 if checkB F S T ≠ 0 then some ([], false, checkB F S T) else some ((hallR F S T (-1) (rooms S)).hall, !(hallR F S T (-1) (rooms S)).ok, 0)
theorem R_nil (w : World) (b : Nat) : Kd.R (Kd.int .i64) 3 w b (fun _ => True) (.slice none 0 0) [] :=
 Kd.R_of_own (enc := Value.int .i64) (h1 := fun _ => rfl) (ok := fun _ => True) (World.ownsRow_nil w b 3 1) (fun _ _ => trivial)
/-- What is new memory of list, bool and error, of world w. -/
def LBE (l : List Int) (b : Bool) (e : Int) (w : World) (en : Ending) (w' : World) : Prop :=
 ∃ v0_ : Value, en = .returned (.tuple #[v0_, .bool b, .int .i64 e]) ∧ Kd.R (Kd.int .i64) 3 w' w.heap.size (fun _ => True) v0_ l ∧ Below w.heap.size w w'
set_option maxRecDepth 100000 in
set_option maxHeartbeats 8000000 in
theorem hall_walk (A0 : Option Addr) (c0 : Nat) (F : List Int) (A1 : Option Addr) (c1 : Nat) (S : List S50) (A2 : Option Addr) (c2 : Nat) (T : List (List Int)) (r1 : List Int) (r2 : Bool) (r3 : Int) (w : World)
  (hr0 : Kd.C (Kd.int .i64) w A0 F.length F) (hc0 : F.length ≤ c0) (hr1 : Kd.C k50 w A1 S.length S) (hr2 : Kd.C (Kd.slice 3 (Kd.int .i64)) w A2 T.length T) (h : match_Hall.f F S T = some (r1, r2, r3)) :
  Calls Try.prog 38 #[.agg #[.slice A0 F.length c0, .slice A1 S.length c1, .slice A2 T.length c2]] w (LBE r1 r2 r3 w) := by
 have hB0 := (Below.refl w.heap.size w).alloc (Nat.le_refl _) (.cells #[.slice A0 F.length c0, .slice A1 S.length c1, .slice A2 T.length c2] 26)
 have CB := checkboard_calls A0 c0 F A1 c1 S A2 c2 T _ (Kd.C_below hr0 hB0) hc0 (Kd.C_below hr1 hB0) (Kd.C_below hr2 hB0)
 unfold match_Hall.f at h
 obtain ⟨q, hq⟩ : ∃ q, checkB F S T = q := ⟨_, rfl⟩
 rw [hq] at h CB
 have HB0 := Go.Lib.hid hB0
 have HR := Go.Lib.hid (And.intro hr1 hr2)
 have HQ := Go.Lib.hid hq
 have HH := Go.Lib.hid h
 clear hr0 hr1 hr2 hB0 hq h
 go_enter Try.func38, Try.ntmps38
 go_wp2_with fail
 refine CB.mono ?_
 clear CB
 rintro e w1 ⟨rfl, hB1⟩
 have b1 : w1.heap[w.heap.size]? = some (.cells #[.slice A0 F.length c0, .slice A1 S.length c1, .slice A2 T.length c2] 26 (0, 0)) := by
  rw [hB1.block w.heap.size (by simp)]
  exact World.alloc_heap_new w _
 have hW1 : Below w.heap.size w w1 := HB0.out.trans (hB1.mono HB0.out.size)
 have k0 := cell_of_heap b1 (j := 0) rfl
 have k1 := cell_of_heap b1 (j := 1) rfl
 have k2 := cell_of_heap b1 (j := 2) rfl
 have HW1 := Go.Lib.hid hW1
 clear hB1 b1 hW1
 by_cases hq0 : q = 0
 rotate_left
 ·
  have g9 : decide (q = 0) = false := by simpa using hq0
  have hf := HH.out
  rw [if_pos hq0] at hf
  injection hf with hf
  injection hf with hf1 hf
  injection hf with hf2 hf3
  subst hf1 hf2 hf3
  go_wp2_with fail
  go_ret3
  exact ⟨_, rfl, R_nil _ _, HW1.out⟩
 subst hq0
 have hk := bok_of_check HQ.out
 have TC := tried_calls2 A0 c0 F A1 c1 S A2 c2 T w1 hk (Kd.C_below HR.out.1 HW1.out) (Kd.C_below HR.out.2 HW1.out)
 have hf := HH.out
 rw [if_neg (by simp)] at hf
 injection hf with hf
 obtain ⟨rr, hrr⟩ : ∃ rr, hallR F S T (-1) (rooms S) = rr := ⟨_, rfl⟩
 rw [hrr] at hf
 injection hf with hf1 hf
 injection hf with hf2 hf3
 subst hf2 hf3
 have HRR := Go.Lib.hid hrr
 have HF1 := Go.Lib.hid hf1
 clear hk hrr hf1 HH HQ
 go_wp2_with fail
 refine TC.mono ?_
 clear TC
 rintro e w2 ⟨t, rfl, e1, e2, e3, hT, hB, _⟩
 have FC := fill_calls t T (rooms S) hT.fit (-1) _ hT.len w2 hT.st hT.row
 rw [e1, show fillF T (rooms S) S.length (-1) (List.replicate F.length (-1)) = rr from HRR.out] at FC
 have HT := Go.Lib.hid hT
 have HB := Go.Lib.hid hB
 clear hT hB e1 e2 e3
 go_wp2_with fail
 refine FC.mono ?_
 clear FC
 rintro e w3 ⟨v, rfl, hag, _, how⟩
 have HAG := Go.Lib.hid hag
 have HOW := Go.Lib.hid how
 clear hag how
 go_wp2_with fail
 go_ret3
 have hb2 : Below w.heap.size w w2 := HW1.out.trans (HB.out.mono HW1.out.size)
 have hbl : w.heap.size ≤ t.bh := Nat.le_trans HW1.out.size HT.out.bl
 refine ⟨v, rfl, ?_, HAG.out.below hb2 hb2.size hbl hbl⟩
 rw [← HF1.out]
 exact Kd.R_of_own (enc := Value.int .i64) (h1 := fun _ => rfl) (ok := fun _ => True) (own_weaken HOW.out hb2.size) (fun _ _ => trivial)
theorem PM.match_Hall.calls (A0 : Option Addr) (c0 : Nat) (F : List Int) (A1 : Option Addr) (c1 : Nat) (S : List S50) (A2 : Option Addr) (c2 : Nat) (T : List (List Int)) (r1 : List Int) (r2 : Bool) (r3 : Int) (w : World)
  (hr0 : Kd.C (Kd.int .i64) w A0 F.length F) (hc0 : F.length ≤ c0) (hr1 : Kd.C k50 w A1 S.length S) (hc1 : S.length ≤ c1) (hr2 : Kd.C (Kd.slice 3 (Kd.int .i64)) w A2 T.length T) (hc2 : T.length ≤ c2) (h : match_Hall.f F S T = some (r1, r2, r3)) :
  Calls Try.prog 38 #[.agg #[.slice A0 F.length c0, .slice A1 S.length c1, .slice A2 T.length c2]] w (LBE r1 r2 r3 w) := hall_walk A0 c0 F A1 c1 S A2 c2 T r1 r2 r3 w hr0 hc0 hr1 hr2 h
end Go.Proofs.Ytkmmihadcbfkoaa
end

section
namespace Go.Proofs.Ytkmmihadcbfkoaa
open Go.RowKit Go.Proofs.YtkmmihadcbfkoaaW.PrintWords PM
set_option linter.unusedVariables false
set_option linter.unusedSimpArgs false
theorem tryRow_len (F : List Int) (S : List S50) (f : Nat) : ∀ (row : List Int) (T : List (List Int)) (out : List Int), (tryRow F S f row T out).2.length = out.length
 | [], _, _ => rfl
 | s :: ss, T, out => by
  unfold tryRow
  split
  ·
   simp
  ·
   exact tryRow_len F S f ss _ out
theorem nextF_len (F : List Int) (S : List S50) (T0 : List (List Int)) : ∀ (n f : Nat) (T : List (List Int)) (out : List Int), (nextF F S T0 n f T out).length = out.length
 | 0, _, _, _ => rfl
 | n + 1, f, T, out => by
  unfold nextF
  rw [nextF_len F S T0 n, tryRow_len]
def firstF (F : List Int) (S : List S50) (T : List (List Int)) : List Int := nextF F S T T.length 0 T (List.replicate F.length (-1))
def PM.match_Assign.f (F : List Int) (S : List S50) (T : List (List Int)) : Option (List Int × Bool × Int) :=
 if checkB F S T ≠ 0 then some ([], false, checkB F S T) else if isF F S T = false then some ([], false, 0) else some (firstF F S T, true, 0)
theorem AG.below {Cf Bo B : Nat} {w0 w w' : World} (h0 : Below B w0 w) (hB : B ≤ w.heap.size) (h : AG Cf Bo w w') (h1 : B ≤ Cf) (h2 : B ≤ Bo) : Below B w0 w' :=
 h0.trans ⟨h.os, h.tape, h.output, h.size, fun k hk => h.block k (by omega) (by omega) (by omega)⟩
set_option maxRecDepth 100000 in
theorem next_zero (Bc Bb Bq Bn c : Nat) (A : Option Addr) (w : World) (h : w.cell? ⟨Bc, 2, none⟩ = some (.slice A 0 c)) :
  Calls Try.prog 55 #[.int .i64 0, .pointer (some ⟨Bc, 0, none⟩), .pointer (some ⟨Bb, 0, none⟩), .pointer (some ⟨Bq, 0, none⟩), .pointer (some ⟨Bn, 0, none⟩)] w fun e w' => e = .returned (.tuple #[]) ∧ w' = w := by
 go_enter Try.func55, Try.ntmps55
 go_wp2_with fail
 go_step3
 go_wp2_with fail
 rw [Exit.noGoto_ret]
 refine bodyPost_ret (results_none rfl _ _ _) rfl ?_
 exact ⟨rfl, rfl⟩
theorem copiedT_calls (B : Nat) (A : Option Addr) (c : Nat) (T : List (List Int)) (w : World) (hr : Kd.F (Kd.slice 3 (Kd.int .i64)) w (fun k => k < B) A T.length T) (hc : T.length ≤ c) (hl : T.length ≤ 1000) :
  Calls Try.prog 53 #[.slice A T.length c] w fun e w' => ∃ v, e = .returned v ∧ Kd.N (Kd.slice 3 (Kd.int .i64)) 22 w' w.heap.size (fun k => k < B ∨ w.heap.size ≤ k) v T ∧ Below w.heap.size w w' :=
 match_copied_int_53.calls (fun k => k < B) A c T T w (Kd.V_mk hc hr) (by
  unfold match_copied_int_53.f
  rw [Option.bind_some, if_pos (by simp; omega)]
  rfl)
theorem box3_set {w : World} {b t : Nat} {a0 a1 a2 : Value} (h : w.heap[b]? = some (.cells #[a0, a1, a2] t (0, 0))) (u0 u1 u2 : Value) :
  (((w.setCell ⟨b, 0, none⟩ u0).setCell ⟨b, 1, none⟩ u1).setCell ⟨b, 2, none⟩ u2).heap[b]? = some (.cells #[u0, u1, u2] t (0, 0)) := by
 simp [World.setCell, Array.getElem?_modify, h]
def StartPost (F : List Int) (S : List S50) (T : List (List Int)) (Bo Bq : Nat) (w : World) (e : Ending) (w' : World) : Prop :=
 e = .returned (.tuple #[]) ∧ w'.cell? ⟨Bq, 0, none⟩ = some (.slice (some ⟨Bo, 0, none⟩) F.length F.length) ∧ Kd.R (Kd.int .i64) 3 w' w.heap.size (fun _ => True) (.slice (some ⟨Bo, 0, none⟩) F.length F.length) (firstF F S T) ∧ Below w.heap.size w w'
/-- The first call of 'next', in the world in which Assign calls it. -/
theorem start_next {A0 : Option Addr} {c0 : Nat} {F : List Int} {A1 : Option Addr} {c1 : Nat} {S : List S50} {A2 : Option Addr} {c2 : Nat} {T : List (List Int)} {w w2 W4 w6 : World} {Ac : Option Addr} {cf Bc Bo : Nat}
  (hk : BOK F S T) (hr1 : Kd.C k50 w A1 S.length S) (hr2 : Kd.C (Kd.slice 3 (Kd.int .i64)) w A2 T.length T) (hW2 : Below w.heap.size w w2)
  (b2 : w2.heap[w.heap.size]? = some (.cells #[.slice A0 F.length c0, .slice A1 S.length c1, .slice A2 T.length c2] 26 (0, 0)))
  (hBc : W4.heap[Bc]? = some (.cells #[.slice A0 F.length c0, .slice A1 S.length c1, .slice Ac T.length cf] 26 (0, 0)))
  (hN : Kd.N (Kd.slice 3 (Kd.int .i64)) 22 W4 w2.heap.size (fun _ => True) (.slice Ac T.length cf) T) (hb4 : Below w2.heap.size w2 W4)
  (hbo : (W4.alloc (.cells #[.int .i64 (-1)] 3)).heap.size ≤ Bo) (hrow6 : w6.heap[Bo]? = some (.cells (List.replicate F.length (Value.int .i64 (-1))).toArray 3 (0, 0))) (hb6 : Below (W4.alloc (.cells #[.int .i64 (-1)] 3)).heap.size (W4.alloc (.cells #[.int .i64 (-1)] 3)) w6) :
  Calls Try.prog 55 #[.int .i64 0, .pointer (some ⟨Bc, 0, none⟩), .pointer (some ⟨w.heap.size, 0, none⟩), .pointer (some ⟨w6.heap.size, 0, none⟩), .pointer (some ⟨w6.heap.size + 1, 0, none⟩)]
   ((w6.alloc (.cells #[.slice (some ⟨Bo, 0, none⟩) F.length F.length] 22)).alloc (.cells #[.func (.func 55) #[] #[.pointer (some ⟨Bc, 0, none⟩), .pointer (some ⟨w.heap.size, 0, none⟩), .pointer (some ⟨w6.heap.size, 0, none⟩), .pointer (some ⟨w6.heap.size + 1, 0, none⟩)]] 73))
   (StartPost F S T Bo w6.heap.size w) := by
 have hal := (Below.refl W4.heap.size W4).alloc (Nat.le_refl _) (.cells #[.int .i64 (-1)] 3)
 have hb46 : Below W4.heap.size W4 w6 := hal.trans (hb6.mono hal.size)
 have ha1 := (Below.refl w6.heap.size w6).alloc (Nat.le_refl _) (.cells #[.slice (some ⟨Bo, 0, none⟩) F.length F.length] 22)
 have n1 := World.alloc_heap_new w6 (.cells #[.slice (some ⟨Bo, 0, none⟩) F.length F.length] 22)
 have n2 := World.alloc_heap_new (w6.alloc (.cells #[.slice (some ⟨Bo, 0, none⟩) F.length F.length] 22)) (.cells #[.func (.func 55) #[] #[.pointer (some ⟨Bc, 0, none⟩), .pointer (some ⟨w.heap.size, 0, none⟩), .pointer (some ⟨w6.heap.size, 0, none⟩), .pointer (some ⟨w6.heap.size + 1, 0, none⟩)]] 73)
 have ha2 := (Below.refl (w6.alloc (.cells #[.slice (some ⟨Bo, 0, none⟩) F.length F.length] 22)).heap.size (w6.alloc (.cells #[.slice (some ⟨Bo, 0, none⟩) F.length F.length] 22))).alloc (Nat.le_refl _) (.cells #[.func (.func 55) #[] #[.pointer (some ⟨Bc, 0, none⟩), .pointer (some ⟨w.heap.size, 0, none⟩), .pointer (some ⟨w6.heap.size, 0, none⟩), .pointer (some ⟨w6.heap.size + 1, 0, none⟩)]] 73)
 generalize hW8 : ((w6.alloc (.cells #[.slice (some ⟨Bo, 0, none⟩) F.length F.length] 22)).alloc (.cells #[.func (.func 55) #[] #[.pointer (some ⟨Bc, 0, none⟩), .pointer (some ⟨w.heap.size, 0, none⟩), .pointer (some ⟨w6.heap.size, 0, none⟩), .pointer (some ⟨w6.heap.size + 1, 0, none⟩)]] 73)) = W8 at *
 have s1 : (w6.alloc (.cells #[.slice (some ⟨Bo, 0, none⟩) F.length F.length] 22)).heap.size = w6.heap.size + 1 := by simp
 rw [s1] at n2 ha2
 have n1 := (ha2.block w6.heap.size (by omega)).trans n1
 have hb68 : Below w6.heap.size w6 W8 := ha1.trans (ha2.mono (by omega))
 have hb48 : Below W4.heap.size W4 W8 := hb46.trans (hb68.mono hb46.size)
 have hb28 : Below w2.heap.size w2 W8 := hb4.trans (hb48.mono hb4.size)
 have hb8 : Below w.heap.size w W8 := hW2.trans (hb28.mono hW2.size)
 have hBol : Bo < w6.heap.size := (Array.getElem?_eq_some_iff.1 hrow6).1
 have hbo' : W4.heap.size < Bo := by
  have : (W4.alloc (.cells #[.int .i64 (-1)] 3)).heap.size = W4.heap.size + 1 := by simp
  omega
 have row8 := (hb68.block Bo hBol).trans hrow6
 have hR8 : RowAt W8 Bo 3 (Value.int .i64) (List.replicate F.length (-1)) := ⟨_, row8, fun j hj => by
  simp at hj
  simp [hj]⟩
 have hS8 : szOf (W8.heap[Bo]?) = F.length := by rw [row8]; simp [szOf]
 have hwBo : w.heap.size ≤ Bo := Nat.le_trans hW2.size (Nat.le_trans hb4.size (Nat.le_of_lt hbo'))
 have lF := hk.nf
 by_cases hT0 : T.length = 0
 ·
  have hF0 : F.length = 0 := by rw [← hk.nt]; exact hT0
  have hc := pw_cell_below hb48 (cell_of_heap hBc (j := 2) rfl)
  have hc : W8.cell? ⟨Bc, 2, none⟩ = some (.slice Ac 0 cf) := by
   rw [← hT0]; exact hc
  refine (next_zero Bc w.heap.size w6.heap.size (w6.heap.size + 1) cf Ac W8 hc).mono ?_
  rintro e w' ⟨rfl, rfl⟩
  refine ⟨rfl, cell_of_heap n1 rfl, ?_, hb8⟩
  have : firstF F S T = List.replicate F.length (-1) := by unfold firstF; rw [hT0]; rfl
  rw [this]
  exact row_result hR8 hS8 (by simp) (Nat.le_refl _) (by rw [hF0]; exact Nat.zero_le _) hwBo
 obtain ⟨Cf, cap, e, hCb, hCl, cells, hCh⟩ := Kd.N_form hN (by omega)
 injection e with e1 e2 e3
 subst e1
 have hne : Bo ≠ Cf := by omega
 have hBcf : Bc ≠ Cf := by
  rintro rfl
  rw [hBc] at hCh
  injection hCh with hCh
  injection hCh with _ hCh
  exact absurd hCh (by decide)
 obtain ⟨ra, rc, hra⟩ := RowsAt.of_C hr2
 have hBcl := (Array.getElem?_eq_some_iff.1 hBc).1
 have hwl := (Array.getElem?_eq_some_iff.1 b2).1
 have h48 := hb48.size
 have h68 := hb68.size
 have h24 := hb4.size
 have h46 := hb46.size
 have hlast : w6.heap.size + 1 < W8.heap.size := (Array.getElem?_eq_some_iff.1 n2).1
 have NC := next_calls { A0 := A0, c0 := c0, A1 := A1, c1 := c1, A2 := A2, c2 := c2, Bc := Bc, Bb := w.heap.size, Bq := w6.heap.size, Bn := w6.heap.size + 1, Cf := Cf, cf := cf, Bo := Bo, base := w2.heap.size, ra := ra, rc := rc } F S T hne hk T.length 0 T (List.replicate F.length (-1)) W8 (by omega)
  (fun w' a => by
   have hb' : Below w.heap.size w w' := AG.below hb8 hb8.size a (Nat.le_trans hW2.size hCb) hwBo
   exact ⟨((a.block w.heap.size (by omega) (by show w.heap.size ≠ Cf; omega) (by show w.heap.size ≠ Bo; omega)).trans (hb28.block _ hwl)).trans b2,
    ((a.block Bc (by omega) hBcf (by show Bc ≠ Bo; omega)).trans (hb48.block _ hBcl)).trans hBc,
    (a.block w6.heap.size (by omega) (by show w6.heap.size ≠ Cf; omega) (by show w6.heap.size ≠ Bo; omega)).trans n1,
    (a.block (w6.heap.size + 1) (by omega) (by show w6.heap.size + 1 ≠ Cf; omega) (by show w6.heap.size + 1 ≠ Bo; omega)).trans n2,
    Kd.C_below hr1 hb', hra.below hb'⟩)
  ⟨Kd.N_mono (Kd.N_old hN hb48) (fun q hq => by show q ≠ Bo; have := hq.2; omega), hR8, rfl, by simp, hk⟩
 refine Calls.mono NC ?_
 rintro e w' ⟨rfl, a, hrow⟩
 refine ⟨rfl, cell_of_heap ((a.block w6.heap.size (by omega) (by show w6.heap.size ≠ Cf; omega) (by show w6.heap.size ≠ Bo; omega)).trans n1) rfl, ?_, AG.below hb8 hb8.size a (Nat.le_trans hW2.size hCb) hwBo⟩
 exact row_result hrow (a.cells.trans hS8) (by unfold firstF; rw [nextF_len]; simp) (Nat.le_refl _) (by show F.length ≤ maxLen; unfold maxLen; omega) hwBo
set_option maxRecDepth 100000 in
set_option maxHeartbeats 8000000 in
theorem PM.match_Assign.calls (A0 : Option Addr) (c0 : Nat) (F : List Int) (A1 : Option Addr) (c1 : Nat) (S : List S50) (A2 : Option Addr) (c2 : Nat) (T : List (List Int)) (r1 : List Int) (r2 : Bool) (r3 : Int) (w : World)
    (hr0 : Kd.C (Kd.int .i64) w A0 F.length F) (hc0 : F.length ≤ c0) (hr1 : Kd.C k50 w A1 S.length S) (hc1 : S.length ≤ c1) (hr2 : Kd.C (Kd.slice 3 (Kd.int .i64)) w A2 T.length T) (hc2 : T.length ≤ c2) (h : match_Assign.f F S T = some (r1, r2, r3)) :
    Calls Try.prog 15 #[.agg #[.slice A0 F.length c0, .slice A1 S.length c1, .slice A2 T.length c2]] w (LBE r1 r2 r3 w) := by
  have hB0 := (Below.refl w.heap.size w).alloc (Nat.le_refl _) (.cells #[.slice A0 F.length c0, .slice A1 S.length c1, .slice A2 T.length c2] 26)
  have CB := checkboard_calls A0 c0 F A1 c1 S A2 c2 T _ (Kd.C_below hr0 hB0) hc0 (Kd.C_below hr1 hB0) (Kd.C_below hr2 hB0)
  unfold match_Assign.f at h
  obtain ⟨q, hq⟩ : ∃ q, checkB F S T = q := ⟨_, rfl⟩
  rw [hq] at h CB
  have HB0 := Go.Lib.hid hB0
  have HR := Go.Lib.hid (And.intro hr1 hr2)
  have HQ := Go.Lib.hid hq
  have HH := Go.Lib.hid h
  clear hr0 hr1 hr2 hB0 hq h
  go_enter Try.func15, Try.ntmps15
  go_wp2_with fail
  refine CB.mono ?_
  clear CB
  rintro e w1 ⟨rfl, hB1⟩
  have b1 : w1.heap[w.heap.size]? = some (.cells #[.slice A0 F.length c0, .slice A1 S.length c1, .slice A2 T.length c2] 26 (0, 0)) := by
    rw [hB1.block w.heap.size (by simp)]
    exact World.alloc_heap_new w _
  have hW1 : Below w.heap.size w w1 := HB0.out.trans (hB1.mono HB0.out.size)
  have k0 := cell_of_heap b1 (j := 0) rfl
  have k1 := cell_of_heap b1 (j := 1) rfl
  have k2 := cell_of_heap b1 (j := 2) rfl
  have HW1 := Go.Lib.hid hW1
  have BX1 := Go.Lib.hid b1
  clear hB1 b1 hW1
  by_cases hq0 : q = 0
  · subst hq0
    have hk := bok_of_check HQ.out
    have SC := some_calls A0 c0 F A1 c1 S A2 c2 T w1 hk (Kd.C_below HR.out.1 HW1.out) (Kd.C_below HR.out.2 HW1.out)
    have hf := HH.out
    rw [if_neg (by simp)] at hf
    have lT : T.length ≤ 60 := by rw [hk.nt]; exact hk.nf
    have lF : F.length ≤ 60 := hk.nf
    have HK := Go.Lib.hid hk
    unfold SomePost at SC
    obtain ⟨ok, hok⟩ : ∃ ok, (fillF T (rooms S) S.length (-1) (List.replicate F.length (-1))).ok = ok := ⟨_, rfl⟩
    rw [hok] at SC
    rw [show isF F S T = ok from hok] at hf
    clear hk hok HH HQ
    cases ok with
    | false =>
      rw [if_pos rfl] at hf
      injection hf with hf
      injection hf with hf1 hf
      injection hf with hf2 hf3
      subst hf1 hf2 hf3
      go_wp2_with fail
      refine SC.mono ?_
      clear SC
      rintro e w2 ⟨t, rfl, _, _, _, _, hB2⟩
      have HB2 := Go.Lib.hid (HW1.out.trans (hB2.mono HW1.out.size))
      clear hB2
      go_wp2_with fail
      go_ret3
      exact ⟨_, rfl, R_nil _ _, HB2.out⟩
    | true =>
      rw [if_neg (by simp)] at hf
      injection hf with hf
      injection hf with hf1 hf
      injection hf with hf2 hf3
      subst hf2 hf3
      have HF1 := Go.Lib.hid hf1
      clear hf1
      go_wp2_with fail
      refine SC.mono ?_
      clear SC
      rintro e w2 ⟨t, rfl, _, _, _, _, hB2⟩
      have hW2 := HW1.out.trans (hB2.mono HW1.out.size)
      have b2 := (hB2.block w.heap.size (Array.getElem?_eq_some_iff.1 BX1.out).1).trans BX1.out
      have hFT := Kd.C_F (Kd.heap_slice 3 (Kd.heap_int .i64)) (Kd.C_below HR.out.2 hW2)
      have CT : ∀ W, Below w2.heap.size w2 W → Calls Try.prog 53 #[.slice A2 T.length c2] W fun e w' => ∃ v, e = .returned v ∧ Kd.N (Kd.slice 3 (Kd.int .i64)) 22 w' W.heap.size (fun k => k < w2.heap.size ∨ W.heap.size ≤ k) v T ∧ Below W.heap.size W w' ∧ Below w2.heap.size w2 w' := fun W hb => by
        refine (copiedT_calls w2.heap.size A2 c2 T W (Kd.F_below hFT hb) hc2 (by omega)).mono ?_
        rintro e w' ⟨v, rfl, hN, h1⟩
        exact ⟨v, rfl, hN, h1, hb.trans (h1.mono hb.size)⟩
      have hb0 : Below w2.heap.size w2 w2.drew := (Below.refl _ _).drew
      have hb1 : ∀ o, Below w2.heap.size w2 (w2.alloc o).drew := fun o => ((Below.refl _ _).alloc (Nat.le_refl _) o).drew
      have k0 : w2.cell? ⟨w.heap.size, 0, none⟩ = some (.slice A0 F.length c0) := cell_of_heap b2 (j := 0) rfl
      have k1 : w2.cell? ⟨w.heap.size, 1, none⟩ = some (.slice A1 S.length c1) := cell_of_heap b2 (j := 1) rfl
      have k2 : w2.cell? ⟨w.heap.size, 2, none⟩ = some (.slice A2 T.length c2) := cell_of_heap b2 (j := 2) rfl
      have E := World.alloc_heap_new w2 (.cells #[.slice none 0 0, .slice none 0 0, .slice none 0 0] 26)
      have E0 : (w2.alloc (.cells #[.slice none 0 0, .slice none 0 0, .slice none 0 0] 26)).drew.cell? ⟨w2.heap.size, 0, none⟩ = some (.slice none 0 0) := cell_of_heap E (j := 0) rfl
      have E1 : (w2.alloc (.cells #[.slice none 0 0, .slice none 0 0, .slice none 0 0] 26)).drew.cell? ⟨w2.heap.size, 1, none⟩ = some (.slice none 0 0) := cell_of_heap E (j := 1) rfl
      have E2 : (w2.alloc (.cells #[.slice none 0 0, .slice none 0 0, .slice none 0 0] 26)).drew.cell? ⟨w2.heap.size, 2, none⟩ = some (.slice none 0 0) := cell_of_heap E (j := 2) rfl
      have Z0 : (w2.alloc (.cells #[.slice none 0 0, .slice none 0 0, .slice none 0 0] 26)).drew.frozen? ⟨w2.heap.size, 0, none⟩ = false := frozen_of_heap E
      have Z1 : (w2.alloc (.cells #[.slice none 0 0, .slice none 0 0, .slice none 0 0] 26)).drew.frozen? ⟨w2.heap.size, 1, none⟩ = false := frozen_of_heap E
      have Z2 : (w2.alloc (.cells #[.slice none 0 0, .slice none 0 0, .slice none 0 0] 26)).drew.frozen? ⟨w2.heap.size, 2, none⟩ = false := frozen_of_heap E
      have hne1 : w2.heap.size ≠ w.heap.size := by have := World.block_lt_of_cell? w2 _ k0; exact Nat.ne_of_gt this
      have hne2 : w.heap.size ≠ w2.heap.size := Ne.symm hne1
      have HK2 := Go.Lib.hid (And.intro k0 (And.intro k1 k2))
      have HW2 := Go.Lib.hid hW2
      have BX2 := Go.Lib.hid b2
      have HE := Go.Lib.hid E
      clear hB2 hW2 b2 E hFT
      go_wp2_with fail
      go_region_held3 (fun w' => w'.cell? ⟨w.heap.size, 0, none⟩ = some (.slice A0 F.length c0) ∧ w'.cell? ⟨w.heap.size, 1, none⟩ = some (.slice A1 S.length c1) ∧ w'.cell? ⟨w.heap.size, 2, none⟩ = some (.slice A2 T.length c2) ∧ Below w2.heap.size w2 w')
        (go_keep)
        (first
          | (go_at_call 53; refine (CT _ (by first | assumption | exact hb1 _)).mono ?_; rintro e w3 ⟨vc, rfl, hN, hbc, hb⟩; obtain ⟨Ac, cf, rfl⟩ := Kd.N_slice hN; have hba : ∀ o, Below w2.heap.size w2 (w3.alloc o) := fun o => hb.alloc hb.size o; have hbs : ∀ j u, Below w2.heap.size w2 (w3.setCell ⟨w2.heap.size, j, none⟩ u) := fun j u => setCell_below hb (Nat.le_refl _) u; have hbs3 : ∀ u1 u2 u3, Below w2.heap.size w2 (((w3.setCell ⟨w2.heap.size, 0, none⟩ u1).setCell ⟨w2.heap.size, 1, none⟩ u2).setCell ⟨w2.heap.size, 2, none⟩ u3) := fun u1 u2 u3 => setCell_below (setCell_below (setCell_below hb (Nat.le_refl _) u1) (Nat.le_refl _) u2) (Nat.le_refl _) u3; have f0 := pw_cell_below hb HK2.out.1; have f1 := pw_cell_below hb HK2.out.2.1; have f2 := pw_cell_below hb HK2.out.2.2; (try (have e0 := pw_cell_below hbc E0; have e1 := pw_cell_below hbc E1; have e2 := pw_cell_below hbc E2; have z0 := (hbc.frozen (p := ⟨w2.heap.size, 0, none⟩) (by simp)).trans Z0; have z1 := (hbc.frozen (p := ⟨w2.heap.size, 1, none⟩) (by simp)).trans Z1; have z2 := (hbc.frozen (p := ⟨w2.heap.size, 2, none⟩) (by simp)).trans Z2))))
      all_goals (first
        | (have hX4 : ∃ Bc W4, w2.heap.size = Bc ∧ (((w3.setCell ⟨w2.heap.size, 0, none⟩ (.slice A0 F.length c0)).setCell ⟨w2.heap.size, 1, none⟩ (.slice A1 S.length c1)).setCell ⟨w2.heap.size, 2, none⟩ (.slice Ac T.length cf)) = W4 ∧ W4.heap[Bc]? = some (.cells #[.slice A0 F.length c0, .slice A1 S.length c1, .slice Ac T.length cf] 26 (0, 0)) ∧ Kd.N (Kd.slice 3 (Kd.int .i64)) 22 W4 w2.heap.size (fun _ => True) (.slice Ac T.length cf) T ∧ Below w2.heap.size w2 W4 :=
            ⟨_, _, rfl, rfl, box3_set ((hbc.block w2.heap.size (by simp)).trans HE.out) _ _ _, Kd.N_mono (Kd.N_lower (Kd.N_far (p := ⟨w2.heap.size, 2, none⟩) (Kd.N_far (p := ⟨w2.heap.size, 1, none⟩) (Kd.N_far (p := ⟨w2.heap.size, 0, none⟩) hN (fun k hk => by simp at hk; show k ≠ w2.heap.size; omega) _) (fun k hk => by simp at hk; show k ≠ w2.heap.size; omega) _) (fun k hk => by simp at hk; show k ≠ w2.heap.size; omega) _) (by simp)) (fun _ _ => trivial), hbs3 _ _ _⟩
           obtain ⟨Bc, W4, hBc, hW4, hX4⟩ := hX4
           rw [hW4, hBc]
           clear hbs3 hbs hba hW4 hBc E0 E1 E2 Z0 Z1 Z2)
        | (have hX4 : ∃ Bc W4, w3.heap.size = Bc ∧ w3.alloc (.cells #[.slice A0 F.length c0, .slice A1 S.length c1, .slice Ac T.length cf] 26) = W4 ∧ W4.heap[Bc]? = some (.cells #[.slice A0 F.length c0, .slice A1 S.length c1, .slice Ac T.length cf] 26 (0, 0)) ∧ Kd.N (Kd.slice 3 (Kd.int .i64)) 22 W4 w2.heap.size (fun _ => True) (.slice Ac T.length cf) T ∧ Below w2.heap.size w2 W4 :=
            ⟨_, _, rfl, rfl, World.alloc_heap_new _ _, Kd.N_alloc (Kd.N_mono (Kd.N_lower hN (by simp)) (fun _ _ => trivial)) _, hba _⟩
           obtain ⟨Bc, W4, hBc, hW4, hX4⟩ := hX4
           rw [hW4, hBc]
           clear hbs3 hbs hba hW4 hBc E0 E1 E2 Z0 Z1 Z2))
      all_goals (
        have hb4 := hX4.2.2
        have j0 := pw_cell_below hb4 HK2.out.1
        have hal := (Below.refl W4.heap.size W4).alloc (Nat.le_refl _) (.cells #[.int .i64 (-1)] 3)
        have j1 := pw_cell_below hal j0
        have RP := repeat_calls W4.heap.size (-1) F.length (by omega) _ (cell_of_heap (World.alloc_heap_new W4 (.cells #[.int .i64 (-1)] 3)) (j := 0) rfl)
        have HX4 := Go.Lib.hid hX4
        have HAL := Go.Lib.hid hal
        clear hX4 hb4 hal k0 k1 k2 hN hbc hb f0 f1 f2 CT
        go_wp2_with fail
        refine RP.mono ?_
        clear RP
        rintro e w6 ⟨Bo, rfl, hbo, hrow6, hb6⟩
        have HR6 := Go.Lib.hid (And.intro hbo (And.intro hrow6 hb6))
        clear hbo hrow6 hb6
        go_wp2_with fail)
      all_goals (
        have SN := start_next HK.out HR.out.1 HR.out.2 HW2.out BX2.out HX4.out.1 HX4.out.2.1 HX4.out.2.2 HR6.out.1 HR6.out.2.1 HR6.out.2.2
        refine SN.mono ?_
        clear SN
        rintro e w9 ⟨rfl, hq9, hR9, hB9⟩
        have HX9 := Go.Lib.hid (And.intro hR9 hB9)
        clear hR9 hB9
        go_wp2_with fail
        go_ret3
        exact ⟨_, rfl, by rw [← HF1.out]; exact HX9.out.1, HX9.out.2⟩)
  · have g9 : decide (q = 0) = false := by simpa using hq0
    have hf := HH.out
    rw [if_pos hq0] at hf
    injection hf with hf
    injection hf with hf1 hf
    injection hf with hf2 hf3
    subst hf1 hf2 hf3
    go_wp2_with fail
    go_ret3
    exact ⟨_, rfl, R_nil _ _, HW1.out⟩
end Go.Proofs.Ytkmmihadcbfkoaa
end

section
namespace Go.Proofs.Ytkmmihadcbfkoaa
open Go.RowKit Go.Proofs.YtkmmihadcbfkoaaW.PrintWords PM
set_option linter.unusedVariables false
set_option linter.unusedSimpArgs false
/-- The rooms, one slot having one less. -/
def roomsLess (S : List S50) (slot : Int) : List Int := (rooms S).set slot.toNat ((rooms S).getD slot.toNat 0 - 1)
def PM.match_Refuse.f (F : List Int) (S : List S50) (T : List (List Int)) (find slot : Int) : Option (List Int × Bool × Int) :=
 if askB F S T find slot false false ≠ 0 then some ([], false, askB F S T find slot false false)
 else if isF F S T = false then some ([], false, 40)
 else if slot ∉ T.getD find.toNat [] then some ([], true, 0)
 else some ((hallR F S T find (roomsLess S slot)).hall, !(hallR F S T find (roomsLess S slot)).ok, 0)
set_option maxRecDepth 100000 in
set_option maxHeartbeats 8000000 in
theorem refuse_walk (A0 : Option Addr) (c0 : Nat) (F : List Int) (A1 : Option Addr) (c1 : Nat) (S : List S50) (A2 : Option Addr) (c2 : Nat) (T : List (List Int)) (find slot : Int) (r1 : List Int) (r2 : Bool) (r3 : Int) (w : World)
  (hr0 : Kd.C (Kd.int .i64) w A0 F.length F) (hc0 : F.length ≤ c0) (hr1 : Kd.C k50 w A1 S.length S) (hr2 : Kd.C (Kd.slice 3 (Kd.int .i64)) w A2 T.length T) (h : match_Refuse.f F S T find slot = some (r1, r2, r3)) :
  Calls Try.prog 31 #[.agg #[.slice A0 F.length c0, .slice A1 S.length c1, .slice A2 T.length c2], .int .i64 find, .int .i64 slot] w (LBE r1 r2 r3 w) := by
 have hB0 := (Below.refl w.heap.size w).alloc (Nat.le_refl _) (.cells #[.slice A0 F.length c0, .slice A1 S.length c1, .slice A2 T.length c2] 26)
 have CB := both_calls A0 c0 F A1 c1 S A2 c2 T find slot _ (Kd.C_below hr0 hB0) hc0 (Kd.C_below hr1 hB0) (Kd.C_below hr2 hB0)
 unfold match_Refuse.f at h
 obtain ⟨q, hq⟩ : ∃ q, askB F S T find slot false false = q := ⟨_, rfl⟩
 rw [hq] at h CB
 have HB0 := Go.Lib.hid hB0
 have HR := Go.Lib.hid (And.intro hr1 hr2)
 have HQ := Go.Lib.hid hq
 have HH := Go.Lib.hid h
 clear hr0 hr1 hr2 hB0 hq h
 go_enter Try.func31, Try.ntmps31
 go_wp2_with fail
 refine CB.mono ?_
 clear CB
 rintro e w1 ⟨rfl, hB1⟩
 have b1 : w1.heap[w.heap.size]? = some (.cells #[.slice A0 F.length c0, .slice A1 S.length c1, .slice A2 T.length c2] 26 (0, 0)) := by
  rw [hB1.block w.heap.size (by simp)]
  exact World.alloc_heap_new w _
 have hW1 : Below w.heap.size w w1 := HB0.out.trans (hB1.mono HB0.out.size)
 have k0 := cell_of_heap b1 (j := 0) rfl
 have k1 := cell_of_heap b1 (j := 1) rfl
 have k2 := cell_of_heap b1 (j := 2) rfl
 have HW1 := Go.Lib.hid hW1
 have BX1 := Go.Lib.hid b1
 clear hB1 b1 hW1
 by_cases hq0 : q = 0
 rotate_left
 ·
  have g9 : decide (q = 0) = false := by simpa using hq0
  have hf := HH.out
  rw [if_pos hq0] at hf
  injection hf with hf
  injection hf with hf1 hf
  injection hf with hf2 hf3
  subst hf1 hf2 hf3
  go_wp2_with fail
  go_ret3
  exact ⟨_, rfl, R_nil _ _, HW1.out⟩
 subst hq0
 obtain ⟨hcb, hfd, hsl⟩ := ask_parts HQ.out
 obtain ⟨hfd0, hfd1⟩ := hfd rfl
 obtain ⟨hsl0, hsl1⟩ := hsl rfl
 have hk := bok_of_check hcb
 have hfd2 : find < (T.length : Int) := by rw [hk.nt]; exact hfd1
 have hf := HH.out
 rw [if_neg (by simp)] at hf
 have HK := Go.Lib.hid hk
 have HCB := Go.Lib.hid hcb
 clear HH HQ hk hcb
 cases hok : isF F S T with
 | false =>
  have MC := matched_no A0 c0 F A1 c1 S A2 c2 T w1 HK.out (Kd.C_below HR.out.1 HW1.out) (Kd.C_below HR.out.2 HW1.out) hok
  rw [if_pos hok] at hf
  injection hf with hf
  injection hf with hf1 hf
  injection hf with hf2 hf3
  subst hf1 hf2 hf3
  clear hok
  go_wp2_with fail
  refine MC.mono ?_
  clear MC
  rintro e w2 ⟨rfl, hB2⟩
  have HB2 := Go.Lib.hid (HW1.out.trans (hB2.mono HW1.out.size))
  clear hB2
  go_wp2_with fail
  go_ret3
  exact ⟨_, rfl, R_nil _ _, HB2.out⟩
 | true =>
  have MC := matched_yes A0 c0 F A1 c1 S A2 c2 T w1 HK.out (Kd.C_below HR.out.1 HW1.out) (Kd.C_below HR.out.2 HW1.out) hok
  rw [if_neg (by rw [hok]; simp)] at hf
  have HF := Go.Lib.hid hf
  clear hok hf
  go_wp2_with fail
  refine MC.mono ?_
  clear MC
  rintro e w2 ⟨tm, rfl, _, _, _, _, hB2⟩
  have hW2 := HW1.out.trans (hB2.mono HW1.out.size)
  have b2 := (hB2.block w.heap.size (Array.getElem?_eq_some_iff.1 BX1.out).1).trans BX1.out
  have k0 := cell_of_heap b2 (j := 0) rfl
  have k1 := cell_of_heap b2 (j := 1) rfl
  have k2 := cell_of_heap b2 (j := 2) rfl
  obtain ⟨a, Ar, cr, e2, hx, hlc, hC⟩ := rows_at (Kd.C_below HR.out.2 hW2) find hfd0 hfd2
  obtain ⟨row, hrw⟩ : ∃ row, T.getD find.toNat [] = row := ⟨_, rfl⟩
  rw [hrw] at hx hlc hC
  have CC := contains_calls Ar cr row slot w2 hC hlc
  have HF2 := HF.out
  rw [hrw] at HF2
  have HF := Go.Lib.hid HF2
  have HW2 := Go.Lib.hid hW2
  have BX2 := Go.Lib.hid b2
  have e2' := e2
  clear hB2 hW2 b2 hC hrw HF2 e2
  subst e2'
  go_wp2_with fail
  refine CC.mono ?_
  clear CC
  rintro e w3 ⟨rfl, hd⟩
  have hW3 := HW2.out.trans (hd.below.mono HW2.out.size)
  have b3 := (hd.below.block w.heap.size (Array.getElem?_eq_some_iff.1 BX2.out).1).trans BX2.out
  have k0 := cell_of_heap b3 (j := 0) rfl
  have k1 := cell_of_heap b3 (j := 1) rfl
  have k2 := cell_of_heap b3 (j := 2) rfl
  have HW3 := Go.Lib.hid hW3
  clear hW3 b3 hd
  by_cases hin : slot ∈ row
  rotate_left
  ·
   rw [decide_eq_false hin]
   have hf := HF.out
   rw [if_pos hin] at hf
   injection hf with hf
   injection hf with hf1 hf
   injection hf with hf2 hf3
   subst hf1 hf2 hf3
   clear hin
   go_wp2_with fail
   go_ret3
   exact ⟨_, rfl, R_nil _ _, HW3.out⟩
  rw [decide_eq_true hin]
  have hf := HF.out
  rw [if_neg (by simpa using hin)] at hf
  injection hf with hf
  obtain ⟨rr, hrr⟩ : ∃ rr, hallR F S T find (roomsLess S slot) = rr := ⟨_, rfl⟩
  rw [hrr] at hf
  injection hf with hf1 hf
  injection hf with hf2 hf3
  subst hf2 hf3
  have HRR := Go.Lib.hid hrr
  have HF1 := Go.Lib.hid hf1
  have TC := tried_calls3 A0 c0 F A1 c1 S (some a) c2 T w3 HK.out (Kd.C_below HR.out.1 HW3.out) (Kd.C_below HR.out.2 HW3.out)
  have hrb := room_bound HCB.out slot.toNat (by omega)
  clear hrr hf1 hin
  go_wp2_with fail
  refine TC.mono ?_
  clear TC
  rintro e w4 ⟨t, rfl, hN, en1, en2⟩
  have hlr : (rooms S).length = S.length := by simp [rooms]
  obtain ⟨Ab, eA, hc, hfz, hN2⟩ := hN.set slot hsl0 (by omega) ((rooms S).getD slot.toNat 0 - 1)
  have y3 := cell_of_heap hN.gb (j := 3) rfl
  rw [eA, hlr] at y3
  have FC := fill_calls t T _ hN2.fit find _ hN2.len _ hN2.stands hN2.row
  rw [en1, show fillF T ((rooms S).set slot.toNat ((rooms S).getD slot.toNat 0 - 1)) S.length find (List.replicate F.length (-1)) = rr from HRR.out] at FC
  obtain ⟨v, hv⟩ : ∃ v, (rooms S).getD slot.toNat 0 = v := ⟨_, rfl⟩
  rw [hv] at hrb hc FC hN2
  obtain ⟨hv1, hv2⟩ := hrb
  have HB2 := Go.Lib.hid hN2.B
  have HL2 := Go.Lib.hid hN2.hl
  clear hN hN2 en1 en2 hlr hv eA
  go_wp2_with fail
  refine FC.mono ?_
  clear FC
  rintro e w5 ⟨vh, rfl, hag, _, how⟩
  have hsz := HW3.out.size
  have hb5 := hag.below (HW3.out.trans (HB2.out.mono hsz)) (Nat.le_trans hsz HB2.out.size) (Nat.le_trans hsz HL2.out) (Nat.le_trans hsz HL2.out)
  have hR := Kd.R_of_own (enc := Value.int .i64) (h1 := fun _ => rfl) (ok := fun _ => True) (own_weaken how (Nat.le_trans hsz HB2.out.size)) (fun _ _ => trivial)
  rw [HF1.out] at hR
  have HB5 := Go.Lib.hid hb5
  have HR5 := Go.Lib.hid hR
  clear hag how hb5 hR hsz
  go_wp2_with fail
  go_ret3
  exact ⟨vh, rfl, HR5.out, HB5.out⟩
theorem PM.match_Refuse.calls (A0 : Option Addr) (c0 : Nat) (F : List Int) (A1 : Option Addr) (c1 : Nat) (S : List S50) (A2 : Option Addr) (c2 : Nat) (T : List (List Int)) (find slot : Int) (r1 : List Int) (r2 : Bool) (r3 : Int) (w : World)
  (hr0 : Kd.C (Kd.int .i64) w A0 F.length F) (hc0 : F.length ≤ c0) (hr1 : Kd.C k50 w A1 S.length S) (hc1 : S.length ≤ c1) (hr2 : Kd.C (Kd.slice 3 (Kd.int .i64)) w A2 T.length T) (hc2 : T.length ≤ c2) (h : match_Refuse.f F S T find slot = some (r1, r2, r3)) :
  Calls Try.prog 31 #[.agg #[.slice A0 F.length c0, .slice A1 S.length c1, .slice A2 T.length c2], .int .i64 find, .int .i64 slot] w (LBE r1 r2 r3 w) := refuse_walk A0 c0 F A1 c1 S A2 c2 T find slot r1 r2 r3 w hr0 hc0 hr1 hr2 h
end Go.Proofs.Ytkmmihadcbfkoaa
end

section
namespace Go.Proofs.Ytkmmihadcbfkoaa
open Go.RowKit Go.Proofs.YtkmmihadcbfkoaaW.PrintWords PM
set_option linter.unusedVariables false
set_option linter.unusedSimpArgs false
/-- The least number of finds that a slot must take, from l on. -/
def lowL (F : List Int) (S : List S50) (T : List (List Int)) (slot : Nat) : Nat → Nat → Nat
 | 0, l => l
 | n + 1, l => if (hallR F S T (-1) ((rooms S).set slot (l : Int))).ok then l else lowL F S T slot n (l + 1)
def fitCount (T : List (List Int)) (slot : Int) : Nat := T.countP fun l => decide (slot ∈ l)
def highN (S : List S50) (T : List (List Int)) (slot : Int) : Nat := min (fitCount T slot) ((rooms S).getD slot.toNat 0).toNat
def PM.match_Load.f (F : List Int) (S : List S50) (T : List (List Int)) (slot : Int) : Option (Int × Int × Int) :=
 if askB F S T 0 slot true false ≠ 0 then some (0, 0, askB F S T 0 slot true false)
 else if isF F S T = false then some (0, 0, 40)
 else some ((lowL F S T slot.toNat (highN S T slot) 0 : Nat), (highN S T slot : Nat), 0)
set_option maxRecDepth 100000 in
set_option maxHeartbeats 8000000 in
theorem PM.match_Load.calls (A0 : Option Addr) (c0 : Nat) (F : List Int) (A1 : Option Addr) (c1 : Nat) (S : List S50) (A2 : Option Addr) (c2 : Nat) (T : List (List Int)) (slot : Int) (r1 : Int) (r2 : Int) (r3 : Int) (w : World)
  (hr0 : Kd.C (Kd.int .i64) w A0 F.length F) (hc0 : F.length ≤ c0) (hr1 : Kd.C k50 w A1 S.length S) (hc1 : S.length ≤ c1) (hr2 : Kd.C (Kd.slice 3 (Kd.int .i64)) w A2 T.length T) (hc2 : T.length ≤ c2) (h : match_Load.f F S T slot = some (r1, r2, r3)) :
  Calls Try.prog 18 #[.agg #[.slice A0 F.length c0, .slice A1 S.length c1, .slice A2 T.length c2], .int .i64 slot] w fun e w' => e = .returned (.tuple #[.int .i64 r1, .int .i64 r2, .int .i64 r3]) ∧ Below w.heap.size w w' := by
 have CB := asked_boxed A0 c0 F A1 c1 S A2 c2 T 0 slot true false w hr0 hc0 hr1 hr2 (.cells #[.slice A0 F.length c0, .slice A1 S.length c1, .slice A2 T.length c2] 26)
 unfold match_Load.f at h
 obtain ⟨q, hq⟩ : ∃ q, askB F S T 0 slot true false = q := ⟨_, rfl⟩
 rw [hq] at h CB
 have HR := Go.Lib.hid (And.intro hr1 hr2)
 have HQ := Go.Lib.hid hq
 have HH := Go.Lib.hid h
 clear hr0 hr1 hr2 hq h
 go_enter Try.func18, Try.ntmps18
 go_wp2_with fail
 refine CB.mono ?_
 clear CB
 rintro e w1 ⟨⟨rfl, hW1⟩, b1⟩
 have k0 := cell_of_heap b1 (j := 0) rfl
 have k1 := cell_of_heap b1 (j := 1) rfl
 have k2 := cell_of_heap b1 (j := 2) rfl
 have HW1 := Go.Lib.hid hW1
 have BX1 := Go.Lib.hid b1
 clear b1 hW1
 by_cases hq0 : q = 0
 rotate_left
 ·
  have g9 : decide (q = 0) = false := by simpa using hq0
  have hf := HH.out
  rw [if_pos hq0] at hf
  injection hf with hf
  injection hf with hf1 hf
  injection hf with hf2 hf3
  subst hf1 hf2 hf3
  go_wp2_with fail
  go_ret3
  exact ⟨rfl, HW1.out⟩
 subst hq0
 obtain ⟨hcb, _, hsl⟩ := ask_parts HQ.out
 obtain ⟨hsl0, hsl1⟩ := hsl rfl
 have hk := bok_of_check hcb
 have hf := HH.out
 rw [if_neg (by simp)] at hf
 have lT : T.length ≤ 60 := by rw [hk.nt]; exact hk.nf
 have HK := Go.Lib.hid hk
 have HCB := Go.Lib.hid hcb
 clear HH HQ hk hcb
 cases hok : isF F S T with
 | false =>
  have MC := matched_no A0 c0 F A1 c1 S A2 c2 T w1 HK.out (Kd.C_below HR.out.1 HW1.out) (Kd.C_below HR.out.2 HW1.out) hok
  rw [if_pos hok] at hf
  injection hf with hf
  injection hf with hf1 hf
  injection hf with hf2 hf3
  subst hf1 hf2 hf3
  clear hok
  go_wp2_with fail
  refine MC.mono ?_
  clear MC
  rintro e w2 ⟨rfl, hB2⟩
  have HB2 := Go.Lib.hid (HW1.out.trans (hB2.mono HW1.out.size))
  clear hB2
  go_wp2_with fail
  go_ret3
  exact ⟨rfl, HB2.out⟩
 | true =>
  have MC := matched_yes A0 c0 F A1 c1 S A2 c2 T w1 HK.out (Kd.C_below HR.out.1 HW1.out) (Kd.C_below HR.out.2 HW1.out) hok
  rw [if_neg (by rw [hok]; simp)] at hf
  injection hf with hf
  obtain ⟨hi, hhi⟩ : ∃ hi, highN S T slot = hi := ⟨_, rfl⟩
  rw [hhi] at hf
  injection hf with hf1 hf
  injection hf with hf2 hf3
  subst hf2 hf3
  have HF1 := Go.Lib.hid hf1
  have HHI := Go.Lib.hid hhi
  clear hok hf1 hhi
  go_wp2_with fail
  refine MC.mono ?_
  clear MC
  rintro e w2 ⟨t, rfl, _, _, _, _, hB2⟩
  have hW2 := HW1.out.trans (hB2.mono HW1.out.size)
  have b2 := (hB2.block w.heap.size (Array.getElem?_eq_some_iff.1 BX1.out).1).trans BX1.out
  have k2 := cell_of_heap b2 (j := 2) rfl
  have HW2 := Go.Lib.hid hW2
  have BX2 := Go.Lib.hid b2
  clear hB2 hW2 b2
  go_wp2_with fail
  go_loopw [5, 33] (fun n i wr => ∃ k : Nat, k ≤ T.length ∧ i = .int .i64 k ∧ n = .int .i64 ((fitCount (T.take k) slot : Nat) : Int) ∧ Hid (Below w2.heap.size w2 wr)) (fun _ i _ => T.length - (intOf i).toNat)
  case atStart => exact ⟨0, Nat.zero_le _, rfl, rfl, Below.refl _ _⟩
  obtain ⟨k, hk, rfl, rfl, HID⟩ := hrel
  by_cases hlt : k < T.length
  ·
   have hW := HW2.out.trans (HID.out.mono HW2.out.size)
   obtain ⟨a8, Ar, cr, e8, hx8, hlc, hC⟩ := rows_at (Kd.C_below HR.out.2 hW) (k : Int) (by omega) (by omega)
   rw [Int.toNat_natCast] at hx8 hlc hC
   have hcnt : fitCount (T.take (k + 1)) slot = fitCount (T.take k) slot + if slot ∈ T.getD k [] then 1 else 0 := by
    unfold fitCount
    rw [List.take_succ_eq_append_getElem hlt, List.countP_append]
    simp [List.getD_eq_getElem?_getD, List.getElem?_eq_getElem hlt, List.countP_cons]
   have hcl : fitCount (T.take k) slot ≤ k := Nat.le_trans List.countP_le_length (by simp; omega)
   obtain ⟨row, hrw⟩ : ∃ row, T.getD k [] = row := ⟨_, rfl⟩
   rw [hrw] at hx8 hlc hC hcnt
   obtain ⟨n9, hn9⟩ : ∃ n9, fitCount (T.take k) slot = n9 := ⟨_, rfl⟩
   rw [hn9] at hcnt hcl ⊢
   have CC := contains_calls Ar cr row slot wr hC hlc
   have HCNT := Go.Lib.hid hcnt
   clear hW hC hcnt hrw hn9
   rw [e8] at *
   go_wp2_with fail
   refine CC.mono ?_
   clear CC
   rintro e w3 ⟨rfl, hd⟩
   have HB3 := Go.Lib.hid (HID.out.trans (hd.below.mono HID.out.size))
   clear hd
   by_cases hin : slot ∈ row
   ·
    rw [decide_eq_true hin]
    have hcnt := HCNT.out
    rw [if_pos hin] at hcnt
    have HCN := Go.Lib.hid hcnt
    clear hcnt hin
    go_wp2_with fail
    go_roundw
    case rel => exact ⟨k + 1, by omega, by simp, by rw [HCN.out]; simp, HB3.out⟩
    case measure => simp [intOf]; omega
   rw [decide_eq_false hin]
   have hcnt := HCNT.out
   rw [if_neg hin] at hcnt
   have HCN := Go.Lib.hid hcnt
   clear hcnt hin
   go_wp2_with fail
   go_roundw
   case rel => exact ⟨k + 1, by omega, by simp, by rw [HCN.out]; simp, HB3.out⟩
   case measure => simp [intOf]; omega
  obtain rfl : k = T.length := by omega
  rw [List.take_length]
  have hW := HW2.out.trans (HID.out.mono HW2.out.size)
  have b3 := (HID.out.block w.heap.size (Array.getElem?_eq_some_iff.1 BX2.out).1).trans BX2.out
  have k1 := cell_of_heap b3 (j := 1) rfl
  obtain ⟨a7, e7, x0, x1, x2⟩ := at_T50 (Kd.C_below HR.out.1 hW) slot hsl0 hsl1
  have hpb := room_bound HCB.out slot.toNat (by omega)
  have hfc : fitCount T slot ≤ 60 := Nat.le_trans List.countP_le_length lT
  have hro : (rooms S).getD slot.toNat 0 = (rd_T50 S slot).f2 := by
   simp [rooms, rd_T50, List.getD_eq_getElem?_getD, List.getElem?_eq_getElem (show slot.toNat < S.length by omega)]
  rw [hro] at hpb
  have hh : highN S T slot = min (fitCount T slot) (rd_T50 S slot).f2.toNat := by unfold highN; rw [hro]
  rw [HHI.out] at hh
  obtain ⟨p9, hp9⟩ : ∃ p9, (rd_T50 S slot).f2 = p9 := ⟨_, rfl⟩
  obtain ⟨n9, hn9⟩ : ∃ n9, fitCount T slot = n9 := ⟨_, rfl⟩
  rw [hp9] at x2 hpb hh
  rw [hn9] at hfc hh ⊢
  obtain ⟨hp1, hp2⟩ := hpb
  have HHH := Go.Lib.hid hh
  have HW := Go.Lib.hid hW
  have BX3 := Go.Lib.hid b3
  clear hW b3 hro hh hn9 hp9 HID
  subst e7
  go_wp2_with fail
  have hmin : min (n9 : Int) p9 = (hi : Int) := by have := HHH.out; omega
  rw [hmin]
  have hhi60 : hi ≤ 60 := by omega
  have hlow := HF1.out
  obtain ⟨lo, hlo⟩ : ∃ lo, lowL F S T slot.toNat hi 0 = lo := ⟨_, rfl⟩
  rw [hlo] at hlow
  subst hlow
  have HLO := Go.Lib.hid hlo
  clear hmin hlo HF1 x0 x1 x2 k0 k1 k2
  go_loopw [4] (fun l wr => ∃ k : Nat, k ≤ hi ∧ l = .int .i64 k ∧ Hid (lowL F S T slot.toNat (hi - k) k = lo ∧ Below w.heap.size w wr ∧ wr.heap[w.heap.size]? = some (.cells #[.slice A0 F.length c0, .slice (some a7) S.length c1, .slice A2 T.length c2] 26 (0, 0)))) (fun l _ => hi - (intOf l).toNat)
  case atStart => exact ⟨0, Nat.zero_le _, rfl, HLO.out, HW.out, BX3.out⟩
  obtain ⟨k, hk, rfl, HID⟩ := hrel
  obtain ⟨hlk, hbl, hbx⟩ := HID.out
  by_cases hlt : k < hi
  rotate_left
  ·
   obtain rfl : k = hi := by omega
   rw [Nat.sub_self] at hlk
   have hl : k = lo := hlk
   subst hl
   have HBL := Go.Lib.hid hbl
   clear hlk hbl hbx HID
   go_wp2_with fail
   go_ret3
   exact ⟨rfl, HBL.out⟩
  have k0 := cell_of_heap hbx (j := 0) rfl
  have k1 := cell_of_heap hbx (j := 1) rfl
  have k2 := cell_of_heap hbx (j := 2) rfl
  have TC := tried_calls3 A0 c0 F (some a7) c1 S A2 c2 T _ HK.out (Kd.C_below HR.out.1 hbl) (Kd.C_below HR.out.2 hbl)
  obtain ⟨n, hn⟩ : ∃ n, hi - k = n + 1 := ⟨hi - k - 1, by omega⟩
  rw [hn] at hlk
  unfold lowL at hlk
  have HLK := Go.Lib.hid hlk
  have HN := Go.Lib.hid hn
  have HBL := Go.Lib.hid hbl
  have HBX := Go.Lib.hid hbx
  clear hlk hn hbl hbx HID
  go_wp2_with fail
  refine TC.mono ?_
  clear TC
  rintro e w4 ⟨t, rfl, hN, en1, en2⟩
  have hlr : (rooms S).length = S.length := by simp [rooms]
  obtain ⟨Ab, eA, hc, hfz, hN2⟩ := hN.set slot hsl0 (by omega) (k : Int)
  have y3 := cell_of_heap hN.gb (j := 3) rfl
  rw [eA, hlr] at y3
  have FC := fill_calls t T _ hN2.fit (-1) _ hN2.len _ hN2.stands hN2.row
  obtain ⟨rr, hrr⟩ : ∃ rr, hallR F S T (-1) ((rooms S).set slot.toNat (k : Int)) = rr := ⟨_, rfl⟩
  rw [en1, show fillF T ((rooms S).set slot.toNat (k : Int)) S.length (-1) (List.replicate F.length (-1)) = rr from hrr] at FC
  have hlk := HLK.out
  rw [hrr] at hlk
  have HLK := Go.Lib.hid hlk
  unfold FillPost at FC
  obtain ⟨ok, hok⟩ : ∃ ok, rr.ok = ok := ⟨_, rfl⟩
  rw [hok] at FC
  have HOK := Go.Lib.hid hok
  have HB2 := Go.Lib.hid hN2.B
  have HL2 := Go.Lib.hid hN2.hl
  clear hN hN2 en1 en2 hlr eA hrr hlk hok
  go_wp2_with fail
  refine FC.mono ?_
  clear FC
  rintro e w5 ⟨vh, rfl, hag, _, how⟩
  have hsz := HBL.out.size
  have hb5 := hag.below HB2.out HB2.out.size HL2.out HL2.out
  have hbw := HBL.out.trans (hb5.mono hsz)
  have hbx5 := (hb5.block w.heap.size (Array.getElem?_eq_some_iff.1 HBX.out).1).trans HBX.out
  have HB5 := Go.Lib.hid (And.intro hbw hbx5)
  clear hag how hb5 hsz hbw hbx5
  cases ok with
  | true =>
   have hl : k = lo := by have := HLK.out; rw [HOK.out, if_pos rfl] at this; exact this
   subst hl
   go_wp2_with fail
   go_ret3
   exact ⟨rfl, HB5.out.1⟩
  | false =>
   have hl : lowL F S T slot.toNat n (k + 1) = lo := by have := HLK.out; rw [HOK.out, if_neg (by simp)] at this; exact this
   have HL := Go.Lib.hid hl
   clear hl
   go_wp2_with fail
   go_roundw
   case rel => exact ⟨k + 1, by omega, by simp, by rw [show hi - (k + 1) = n from by have := HN.out; omega]; exact HL.out, HB5.out.1, HB5.out.2⟩
   case measure => simp [intOf]; omega
end Go.Proofs.Ytkmmihadcbfkoaa
end

section
namespace Go.Proofs.Ytkmmihadcbfkoaa
open Go.RowKit Go.Proofs.YtkmmihadcbfkoaaW.PrintWords PM
set_option linter.unusedVariables false
set_option linter.unusedSimpArgs false
def chancesF (fits : List (List Int)) (room : List Int) (ns : Nat) (has : List Int) (find : Nat) : List Int := (fits.getD find []).filter fun s => (withF fits room ns has find s).ok
theorem TGood.later {t : TL} {fits : List (List Int)} {room has : List Int} {w w' : World} (h : TGood t fits room has w) (hb : Below w.heap.size w w') : TGood t fits room has w' :=
 ⟨h.fit, h.st.later (Agree.of_below hb), h.row.below hb, h.len, h.capr, h.caph, h.rooms, h.s0, h.caps⟩
def OneList (l : List Int) (w : World) (e : Ending) (w' : World) : Prop := ∃ v, e = .returned v ∧ Kd.R (Kd.int .i64) 3 w' w.heap.size (fun _ => True) v l ∧ Below w.heap.size w w'
set_option maxRecDepth 100000 in
set_option maxHeartbeats 8000000 in
theorem chances_calls (t : TL) (fits : List (List Int)) (room has : List Int) (find : Nat) (w : World) (hfd : find < t.nh) (hG : TGood t fits room has w) :
  Calls Try.prog 57 #[.pointer (some ⟨t.g, 0, none⟩), .int .i64 find] w (OneList (chancesF fits room t.n1 has find) w) := by
 have hst := hG.st.still
 have f2 := hst.f2
 have hft : find < fits.length := by rw [hG.fit.finds]; exact hfd
 obtain ⟨a2, e2, hx, hC⟩ := hst.fits find hft
 have hcap := hG.caps find hft
 have hrl := hG.fit.row find hft
 have WC : ∀ (s : Int) (W : World), Below w.heap.size w W → Calls Try.prog 67 #[.pointer (some ⟨t.g, 0, none⟩), .int .i64 find, .int .i64 s] W (WithPost (withF fits room t.n1 has find s) W) := fun s W hb => with_calls t fits room has find s W hfd (hG.later hb)
 unfold chancesF
 obtain ⟨row, hrw⟩ : ∃ row, fits.getD find [] = row := ⟨_, rfl⟩
 rw [hrw] at hx hC hcap hrl ⊢
 obtain ⟨p, hp⟩ : ∃ p : Int → WR, (fun s => withF fits room t.n1 has find s) = p := ⟨_, rfl⟩
 have WC : ∀ (s : Int) (W : World), Below w.heap.size w W → Calls Try.prog 67 #[.pointer (some ⟨t.g, 0, none⟩), .int .i64 find, .int .i64 s] W (WithPost (p s) W) := by rw [← hp]; exact WC
 rw [show (fun s => (withF fits room t.n1 has find s).ok) = fun s => (p s).ok from by rw [← hp]]
 rw [e2] at f2
 have lFi : fits.length ≤ 1000 := by rw [hG.fit.finds]; exact hG.fit.nh
 have hlf : (find : Int) < (fits.length : Int) := by omega
 have HC := Go.Lib.hid hC
 clear hG hst hrw hC hp e2
 go_enter Try.func57, Try.ntmps57
 go_wp2_with fail
 go_loopw [5, 22] (fun o i wr => ∃ k : Nat, k ≤ row.length ∧ i = .int .i64 k ∧ Hid (Kd.R (Kd.int .i64) 3 wr w.heap.size (fun _ => True) o ((row.take k).filter fun s => (p s).ok) ∧ Below w.heap.size w wr)) (fun _ i _ => row.length - (intOf i).toNat)
 case atStart => exact ⟨0, Nat.zero_le _, rfl, Kd.R_nil _ _ _ _ _, Below.refl _ _⟩
 obtain ⟨k, hk, rfl, HID⟩ := hrel
 obtain ⟨hR, hbl⟩ := HID.out
 by_cases hlt : k < row.length
 rotate_left
 ·
  obtain rfl : k = row.length := by omega
  rw [List.take_length] at hR
  have HR := Go.Lib.hid (And.intro hR hbl)
  clear hR hbl HID
  go_wp2_with fail
  go_ret
  exact ⟨_, rfl, HR.out.1, HR.out.2⟩
 obtain ⟨a9, e9, x9⟩ := Kd.at_int (Kd.C_below HC.out hbl) (k : Int) (by omega) (by omega)
 rw [Int.toNat_natCast, show rd row (k : Int) = row.getD k 0 from by simp [rd]] at x9
 have htk : row.take (k + 1) = row.take k ++ [row.getD k 0] := by
  rw [List.take_succ_eq_append_getElem hlt]
  simp [List.getD_eq_getElem?_getD, List.getElem?_eq_getElem hlt]
 obtain ⟨s9, hs9⟩ : ∃ s9, row.getD k 0 = s9 := ⟨_, rfl⟩
 rw [hs9] at x9 htk
 have WC9 := WC s9 wr hbl
 unfold WithPost at WC9
 obtain ⟨ok, hok⟩ : ∃ ok, (p s9).ok = ok := ⟨_, rfl⟩
 rw [hok] at WC9
 have hfl : ((row.take k).filter fun s => (p s).ok).length ≤ k := Nat.le_trans (List.length_filter_le _ _) (by simp; omega)
 have HTK := Go.Lib.hid htk
 have HOK := Go.Lib.hid hok
 have HR := Go.Lib.hid hR
 have HBL := Go.Lib.hid hbl
 have e9' := e9
 clear htk hok hR hbl hs9 HID
 rw [e9'] at *
 go_wp2_with fail
 refine WC9.mono ?_
 clear WC9
 rintro e w1 ⟨v1, rfl, _, hb1⟩
 have hB1 := HBL.out.trans (hb1.mono HBL.out.size)
 have hR1 : Kd.R (Kd.int .i64) 3 w1 w.heap.size (fun _ => True) u5 ((row.take k).filter fun s => (p s).ok) := Kd.R_of_own (enc := Value.int .i64) (h1 := fun _ => rfl) (ok := fun _ => True) (pw_own_below (Kd.own_of_R HR.out) hb1) (fun _ _ => trivial)
 have HR1 := Go.Lib.hid hR1
 have HB1 := Go.Lib.hid hB1
 clear hb1 hB1 hR1
 cases ok with
 | true =>
  go_wp2_with (first | (at_builtin; refine Kd.R_append (Kd.int .i64) (w0 := w) w.heap.size rfl (.tmp 34) (.tmp 36) 22 3 (.int .i64 0) 8 rfl Try.underlying22 info3 rfl (by decide) (by omega) u5 ((row.take k).filter fun s => (p s).ok) s9 [.int .i64 s9] (fun _ => True) (fun _ => False) rfl rfl rfl (fun _ hk => hk.elim) (fun _ _ => trivial) HR1.out HB1.out HB1.out.size (by omega) ?_; intro v5 w5 hR5 hB5 _ _; have HR5 := Go.Lib.hid hR5; have HB5 := Go.Lib.hid hB5; clear hR5 hB5))
  go_roundw
  case rel => exact ⟨k + 1, by omega, by simp, by rw [HTK.out, List.filter_append]; simpa [HOK.out] using HR5.out, HB5.out⟩
  case measure => simp [intOf]; omega
 | false =>
  go_wp2_with fail
  go_roundw
  case rel => exact ⟨k + 1, by omega, by simp, by rw [HTK.out, List.filter_append]; simpa [HOK.out] using HR1.out, HB1.out⟩
  case measure => simp [intOf]; omega
end Go.Proofs.Ytkmmihadcbfkoaa
end

section
namespace Go.Proofs.Ytkmmihadcbfkoaa
open Go.RowKit Go.Proofs.YtkmmihadcbfkoaaW.PrintWords PM
set_option linter.unusedVariables false
set_option linter.unusedSimpArgs false
def allChances (F : List Int) (S : List S50) (T : List (List Int)) : List (List Int) := (List.range F.length).map fun f => chancesF T (rooms S) S.length (hasF F S T) f
def PM.match_Chances.f (F : List Int) (S : List S50) (T : List (List Int)) : Option (List (List Int) × Int) :=
 if checkB F S T ≠ 0 then some ([], checkB F S T) else if isF F S T = false then some ([], 40) else some (allChances F S T, 0)
theorem good_of_in {F : List Int} {S : List S50} {T : List (List Int)} {b0 : Nat} {t : TL} {has : List Int} {w : World} {A : Option Addr} {n c : Nat} (hcb : checkB F S T = 0) (h : TIn b0 t T (rooms S) has w) (h1 : t.n1 = S.length) (h0 : t.s0 = .slice A n c) : TGood t T (rooms S) has w :=
 ⟨h.fit, h.st, h.row, h.len, h.capr, h.caph, fun i hi => room_bound hcb i (by omega), ⟨A, n, c, h0⟩, h.caps⟩
set_option maxRecDepth 100000 in
set_option maxHeartbeats 8000000 in
theorem PM.match_Chances.calls (A0 : Option Addr) (c0 : Nat) (F : List Int) (A1 : Option Addr) (c1 : Nat) (S : List S50) (A2 : Option Addr) (c2 : Nat) (T : List (List Int)) (r1 : List (List Int)) (r2 : Int) (w : World)
  (hr0 : Kd.C (Kd.int .i64) w A0 F.length F) (hc0 : F.length ≤ c0) (hr1 : Kd.C k50 w A1 S.length S) (hc1 : S.length ≤ c1) (hr2 : Kd.C (Kd.slice 3 (Kd.int .i64)) w A2 T.length T) (hc2 : T.length ≤ c2) (h : match_Chances.f F S T = some (r1, r2)) :
  Calls Try.prog 16 #[.agg #[.slice A0 F.length c0, .slice A1 S.length c1, .slice A2 T.length c2]] w fun e w' => ∃ v0_ : Value, e = .returned (.tuple #[v0_, .int .i64 r2]) ∧ Kd.S (Kd.slice 3 (Kd.int .i64)) 22 w' w.heap.size (fun _ => True) v0_ r1 ∧ Below w.heap.size w w' := by
 have hB0 := (Below.refl w.heap.size w).alloc (Nat.le_refl _) (.cells #[.slice A0 F.length c0, .slice A1 S.length c1, .slice A2 T.length c2] 26)
 have CB := checkboard_calls A0 c0 F A1 c1 S A2 c2 T _ (Kd.C_below hr0 hB0) hc0 (Kd.C_below hr1 hB0) (Kd.C_below hr2 hB0)
 unfold match_Chances.f at h
 obtain ⟨q, hq⟩ : ∃ q, checkB F S T = q := ⟨_, rfl⟩
 rw [hq] at h CB
 have HB0 := Go.Lib.hid hB0
 have HR := Go.Lib.hid (And.intro hr1 hr2)
 have HQ := Go.Lib.hid hq
 have HH := Go.Lib.hid h
 clear hr0 hr1 hr2 hB0 hq h
 go_enter Try.func16, Try.ntmps16
 go_wp2_with fail
 refine CB.mono ?_
 clear CB
 rintro e w1 ⟨rfl, hB1⟩
 have b1 : w1.heap[w.heap.size]? = some (.cells #[.slice A0 F.length c0, .slice A1 S.length c1, .slice A2 T.length c2] 26 (0, 0)) := by
  rw [hB1.block w.heap.size (by simp)]
  exact World.alloc_heap_new w _
 have hW1 : Below w.heap.size w w1 := HB0.out.trans (hB1.mono HB0.out.size)
 have k0 := cell_of_heap b1 (j := 0) rfl
 have k1 := cell_of_heap b1 (j := 1) rfl
 have k2 := cell_of_heap b1 (j := 2) rfl
 have HW1 := Go.Lib.hid hW1
 have BX1 := Go.Lib.hid b1
 clear hB1 b1 hW1
 by_cases hq0 : q = 0
 rotate_left
 ·
  have g9 : decide (q = 0) = false := by simpa using hq0
  have hf := HH.out
  rw [if_pos hq0] at hf
  injection hf with hf
  injection hf with hf1 hf2
  subst hf1 hf2
  go_wp2_with fail
  go_ret2
  exact ⟨_, rfl, Kd.S_nil _ _ _ _ _, HW1.out⟩
 subst hq0
 have hcb := HQ.out
 have hk := bok_of_check hcb
 have hf := HH.out
 rw [if_neg (by simp)] at hf
 have HK := Go.Lib.hid hk
 have HCB := Go.Lib.hid hcb
 have lF : F.length ≤ 60 := hk.nf
 clear HH HQ hk hcb
 cases hok : isF F S T with
 | false =>
  have MC := matched_no A0 c0 F A1 c1 S A2 c2 T w1 HK.out (Kd.C_below HR.out.1 HW1.out) (Kd.C_below HR.out.2 HW1.out) hok
  rw [if_pos hok] at hf
  injection hf with hf
  injection hf with hf1 hf2
  subst hf1 hf2
  clear hok
  go_wp2_with fail
  refine MC.mono ?_
  clear MC
  rintro e w2 ⟨rfl, hB2⟩
  have HB2 := Go.Lib.hid (HW1.out.trans (hB2.mono HW1.out.size))
  clear hB2
  go_wp2_with fail
  go_ret2
  exact ⟨_, rfl, Kd.S_nil _ _ _ _ _, HB2.out⟩
 | true =>
  have MC := matched_yes A0 c0 F A1 c1 S A2 c2 T w1 HK.out (Kd.C_below HR.out.1 HW1.out) (Kd.C_below HR.out.2 HW1.out) hok
  rw [if_neg (by rw [hok]; simp)] at hf
  injection hf with hf
  injection hf with hf1 hf2
  subst hf2
  have HF1 := Go.Lib.hid hf1
  clear hok hf1
  go_wp2_with fail
  refine MC.mono ?_
  clear MC
  rintro e w2 ⟨t, rfl, en1, enh, es0, hT, hB2⟩
  have hW2 := HW1.out.trans (hB2.mono HW1.out.size)
  have b2 := (hB2.block w.heap.size (Array.getElem?_eq_some_iff.1 BX1.out).1).trans BX1.out
  have k0 := cell_of_heap b2 (j := 0) rfl
  have hG := good_of_in HCB.out hT en1 es0
  have CH : ∀ (f : Nat) (W : World), f < F.length → Below w2.heap.size w2 W → Calls Try.prog 57 #[.pointer (some ⟨t.g, 0, none⟩), .int .i64 f] W (OneList (chancesF T (rooms S) S.length (hasF F S T) f) W) := fun f W hf hb => by
   have := chances_calls t T (rooms S) (hasF F S T) f W (by omega) (hG.later hb)
   rwa [en1] at this
  have HW2 := Go.Lib.hid hW2
  clear hB2 hW2 b2 hG hT en1 enh es0
  go_wp2_with fail
  go_loopw [7, 25] (fun o i wr => ∃ k : Nat, k ≤ F.length ∧ i = .int .i64 k ∧ Hid (Kd.S (Kd.slice 3 (Kd.int .i64)) 22 wr w2.heap.size (fun _ => True) o ((List.range k).map fun f => chancesF T (rooms S) S.length (hasF F S T) f) ∧ Below w2.heap.size w2 wr)) (fun _ i _ => F.length - (intOf i).toNat)
  case atStart => exact ⟨0, Nat.zero_le _, rfl, Kd.S_nil _ _ _ _ _, Below.refl _ _⟩
  obtain ⟨k, hk, rfl, HID⟩ := hrel
  obtain ⟨hS, hbl⟩ := HID.out
  by_cases hlt : k < F.length
  rotate_left
  ·
   obtain rfl : k = F.length := by omega
   have HS := Go.Lib.hid hS
   have HBL := Go.Lib.hid hbl
   clear hS hbl HID
   go_wp2_with fail
   go_ret2
   exact ⟨_, rfl, by rw [← HF1.out]; exact Kd.S_lower HS.out HW2.out.size, HW2.out.trans (HBL.out.mono HW2.out.size)⟩
  have C9 := CH k wr hlt hbl
  have HS := Go.Lib.hid hS
  have HBL := Go.Lib.hid hbl
  have hll : ((List.range k).map fun f => chancesF T (rooms S) S.length (hasF F S T) f).length = k := by simp
  have HLL := Go.Lib.hid hll
  clear hS hbl HID hll
  go_wp2_with fail
  refine C9.mono ?_
  clear C9
  rintro e w3 ⟨v3, rfl, hR3, hb3⟩
  obtain ⟨A3, c3, rfl, _, _⟩ := Kd.R_reads hR3
  have hB3 := HBL.out.trans (hb3.mono HBL.out.size)
  have hBw := hB3
  have hS3 := Kd.S_old HS.out hb3
  have hne : ∀ q, some q = (Value.slice A3 (chancesF T (rooms S) S.length (hasF F S T) k).length c3).ownBlock → wr.heap.size ≤ q := fun q hq => own_base (Kd.own_of_R hR3) q hq.symm
  have hult := Kd.S_lt HS.out
  have hM : (Kd.slice 3 (Kd.int .i64)).M w3 w2.heap.size (fun q => some q = (Value.slice A3 (chancesF T (rooms S) S.length (hasF F S T) k).length c3).ownBlock) (chancesF T (rooms S) S.length (hasF F S T) k) [.slice A3 (chancesF T (rooms S) S.length (hasF F S T) k).length c3] :=
   Kd.M_row (Kd.R_lower (Kd.R_tight rfl hR3) HBL.out.size)
  have hS4 := Kd.S_mono (ok' := fun q => True ∧ ¬ some q = (Value.slice A3 (chancesF T (rooms S) S.length (hasF F S T) k).length c3).ownBlock) hS3 (fun q hq => ⟨trivial, fun e => by have := hne q e; omega⟩)
  have hokp : ∀ q, some q = (Value.slice A3 (chancesF T (rooms S) S.length (hasF F S T) k).length c3).ownBlock → True ∧ some q ≠ u7.ownBlock := fun q hq => ⟨trivial, fun e => by have := hne q hq; have := hult q e.symm; omega⟩
  have HP := Go.Lib.hid (And.intro hM (And.intro hS4 (And.intro hokp (And.intro hB3 hBw))))
  clear hM hS4 hokp hB3 hBw hne hult hS3 hb3 hR3
  go_wp2_with (first | (at_builtin; refine Kd.S_append (Kd.slice 3 (Kd.int .i64)) (w0 := w2) w2.heap.size rfl (.tmp 28) (.tmp 32) 24 22 (.slice none 0 0) 24 rfl Try.underlying24 info22 rfl (by decide) (by omega) u7 ((List.range k).map fun f => chancesF T (rooms S) S.length (hasF F S T) f) (chancesF T (rooms S) S.length (hasF F S T) k) [.slice A3 (chancesF T (rooms S) S.length (hasF F S T) k).length c3] (fun _ => True) (fun q => some q = (Value.slice A3 (chancesF T (rooms S) S.length (hasF F S T) k).length c3).ownBlock) rfl rfl HP.out.1 HP.out.2.2.1 (fun _ _ => trivial) HP.out.2.1 HP.out.2.2.2.2 HP.out.2.2.2.2.size (by rw [HLL.out]; omega) ?_; intro v5 w5 hR5 hB5 hg5 hat5; have HR5 := Go.Lib.hid hR5; have HB5 := Go.Lib.hid hB5; have HG5 := Go.Lib.hid (And.intro hg5 hat5); clear hR5 hB5 hg5 hat5))
  go_roundw
  case rel => exact ⟨k + 1, by omega, by simp, by rw [List.range_succ, List.map_append]; exact HR5.out, HB5.out⟩
  case measure => simp [intOf]; omega
end Go.Proofs.Ytkmmihadcbfkoaa
end

section
namespace Go.Proofs.Ytkmmihadcbfkoaa.PM
open Go.RowKit Go.Proofs.YtkmmihadcbfkoaaW.PrintWords Go.Proofs.YtkmmihadcbfkoaaW.PrintLast Go.Proofs.YtkmmihadcbfkoaaW.PrintMore
set_option linter.unusedVariables false
set_option linter.unusedSimpArgs false
def match_Must.l0 : Nat → List Int → List (List Int) → Int → Int → Option (List Int × Int)
 | 0, _, _, _, _ => none
 | k + 1, x6, x18, x19, x20 => if x20 < x19 then (if 0 ≤ x20 then (if x20 < (x18.length : Int) then (if ((rd_L1 x18 x20).length : Int) = 1 then (if 0 < ((rd_L1 x18 x20).length : Int) then (if x6.length < 17592186044416 then (match_Must.l0 k (x6 ++ [rd (rd_L1 x18 x20) 0]) x18 x19 (wrap64 (x20 + 1))) else (none)) else (none)) else (if x6.length < 17592186044416 then (match_Must.l0 k (x6 ++ [(-1)]) x18 x19 (wrap64 (x20 + 1))) else (none))) else (none)) else (none)) else (some (x6, 0))
def match_Must.f (k : Nat) (l0_0 : List Int) (l0_1 : List (S50)) (l0_2 : List (List Int)) : Option (List Int × Int) := (match_Chances.f l0_0 l0_1 l0_2).bind fun bt115 => (if bt115.2 = 0 then (match_Must.l0 k ([] : List Int) bt115.1 (bt115.1.length : Int) 0) else (some (([] : List Int), bt115.2)))
set_option maxHeartbeats 8000000 in
set_option maxRecDepth 100000 in
theorem match_Must.calls (k : Nat) (A0_0 : Option Addr) (c0_0 : Nat) (l0_0 : List Int) (A0_1 : Option Addr) (c0_1 : Nat) (l0_1 : List (S50)) (A0_2 : Option Addr) (c0_2 : Nat) (l0_2 : List (List Int)) (r1 : List Int) (r2 : Int) (w : World) (hr0_0 : Kd.C (Kd.int .i64) w A0_0 l0_0.length l0_0) (hc0_0 : l0_0.length ≤ c0_0) (hr0_1 : Kd.C k50 w A0_1 l0_1.length l0_1) (hc0_1 : l0_1.length ≤ c0_1) (hr0_2 : Kd.C (Kd.slice 3 (Kd.int .i64)) w A0_2 l0_2.length l0_2) (hc0_2 : l0_2.length ≤ c0_2) (h : match_Must.f k l0_0 l0_1 l0_2 = some (r1, r2)) :
  Calls Try.prog 17 #[.agg #[.slice A0_0 l0_0.length c0_0, .slice A0_1 l0_1.length c0_1, .slice A0_2 l0_2.length c0_2]] w fun e w' => ∃ v0_ : Value, e = .returned (.tuple #[v0_, .int .i64 r2]) ∧ Kd.R (Kd.int .i64) 3 w' w.heap.size (fun _ => True) v0_ r1 ∧ Below w.heap.size w w' := by
 have hu26 := Try.underlying26
 have HR0_0 := Aside0.mk hr0_0
 have HC0_0 := Aside0.mk hc0_0
 clear hr0_0 hc0_0
 have HR0_1 := Aside0.mk hr0_1
 have HC0_1 := Aside0.mk hc0_1
 clear hr0_1 hc0_1
 have HR0_2 := Aside0.mk hr0_2
 have HC0_2 := Aside0.mk hc0_2
 clear hr0_2 hc0_2
 have HB := Aside0.mk (Below.refl w.heap.size w)
 have H : ((match_Chances.f l0_0 l0_1 l0_2).bind fun bt115 => (if bt115.2 = 0 then (match_Must.l0 k ([] : List Int) bt115.1 (bt115.1.length : Int) 0) else (some (([] : List Int), bt115.2)))) = some (r1, r2) := h
 clear h
 replace H := Option.bind_eq_some_iff.mp H
 obtain ⟨⟨t115, t118⟩, A20, H⟩ := H
 replace H : (if t118 = 0 then (match_Must.l0 k ([] : List Int) t115 (t115.length : Int) 0) else (some (([] : List Int), t118))) = some (r1, r2) := H
 have A2 := Aside0.mk A20
 clear A20
 by_cases c3 : t118 = 0
 rotate_left
 ·
  rw [if_neg c3] at H
  have c3b0 : (t118 == 0) = false := beq_eq_false_iff_ne.mpr c3
  have c3b1 : (t118 != 0) = true := bne_iff_ne.mpr c3
  simp only [Option.some.injEq, Prod.mk.injEq] at H
  obtain ⟨rfl, rfl⟩ := H
  go_enter Try.func17, Try.ntmps17
  go_wp2_with (first | ((with_reducible refine gate_dst (N := 1) rfl ?_); refine box_event ?hg (N := 1) ?hd (cs := #[.slice A0_0 l0_0.length c0_0, .slice A0_1 l0_1.length c0_1, .slice A0_2 l0_2.length c0_2]) (t := 26) ?hr ?_; (case hd => rfl); (case hg => rfl); (case hr => first | (go_simp; done) | (go_simp; rfl)); intro gb114 hg w17 hbox hb; have n0_ := Aside0.mk (below_step (by repeat (first | (with_reducible first | exact HB.out | apply below_alloc | apply pw_below_drewN | apply below_drew1) | exact HB.out)) hb); have n1_ := Aside0.mk (hbox); have n2_ := Aside0.mk ((by rw [hg]; exact (below_size (by repeat (first | (with_reducible first | exact HB.out | apply below_alloc | apply pw_below_drewN | apply below_drew1) | exact HB.out))) : w.heap.size ≤ gb114)); have n3_ := Aside0.mk ((by rw [hg]; exact (below_size (by repeat (first | (with_reducible first | exact HB.out | apply below_alloc | apply pw_below_drewN | apply below_drew1) | exact HB.out))) : w.heap.size ≤ gb114)); clear HB; have HB := n0_; have BK114 := n1_; have GW114 := n2_; have GE114 := n3_; clear n0_ n1_ n2_ n3_; clear hb hbox hg; have hcz18_0 : w17.cell? ⟨gb114, 0, none⟩ = some (.slice A0_0 l0_0.length c0_0) := (blk_cell BK114.out 0).trans rfl; have hcz18_1 : w17.cell? ⟨gb114, 1, none⟩ = some (.slice A0_1 l0_1.length c0_1) := (blk_cell BK114.out 1).trans rfl; have hcz18_2 : w17.cell? ⟨gb114, 2, none⟩ = some (.slice A0_2 l0_2.length c0_2) := (blk_cell BK114.out 2).trans rfl; have hfz18_0 := blk_frozen BK114.out 0; have hfz18_1 := blk_frozen BK114.out 1; have hfz18_2 := blk_frozen BK114.out 2) | ((with_reducible refine gate_callee (f := 16) rfl ?_); refine goesL_ (some 12) rfl rfl Try.func16 (by kernel_rfl) rfl #[.agg #[.slice A0_0 l0_0.length c0_0, .slice A0_1 l0_1.length c0_1, .slice A0_2 l0_2.length c0_2]] rfl (by (try simp only [List.map_toArray, List.map_cons, List.map_nil]); first | done | rfl | (simp only [List.length_drop, List.length_take]; rfl)) ?_; (with_reducible refine (match_Chances.calls _ _ l0_0 _ _ l0_1 _ _ l0_2 t115 t118 _ ?side1 ?side2 ?side3 ?side4 ?side5 ?side6 A2.out).mono ?_); (case side1 => repeat (first | exact (Kd.C_below HR0_0.out HB.out) | (with_reducible refine Kd.C_alloc ?_ _) | (with_reducible refine Kd.C_drewN ?_ _) | (with_reducible refine Kd.C_drew ?_))); (case side2 => exact HC0_0.out); (case side3 => repeat (first | exact (Kd.C_below HR0_1.out HB.out) | (with_reducible refine Kd.C_alloc ?_ _) | (with_reducible refine Kd.C_drewN ?_ _) | (with_reducible refine Kd.C_drew ?_))); (case side4 => exact HC0_1.out); (case side5 => repeat (first | exact (Kd.C_below HR0_2.out HB.out) | (with_reducible refine Kd.C_alloc ?_ _) | (with_reducible refine Kd.C_drewN ?_ _) | (with_reducible refine Kd.C_drew ?_))); (case side6 => exact HC0_2.out); rintro e w19 ⟨v116, rfl, ho0, hb⟩; refine ⟨_, rfl, ?_⟩; have n0_ := Aside0.mk (Kd.S_lower ho0 (below_size (by repeat (first | (with_reducible first | exact HB.out | apply below_alloc | apply pw_below_drewN | apply below_drew1 | refine below_set ?_ GE114.out) | exact HB.out)))); have n1_ := Aside0.mk (blk_below (g := gb114) (o := .cells #[.slice A0_0 l0_0.length c0_0, .slice A0_1 l0_1.length c0_1, .slice A0_2 l0_2.length c0_2] 26 (0, 0)) (by (with_reducible repeat (first | refine blk_drewN ?_ _ | refine blk_drew ?_ | refine blk_alloc ?_ _)); exact BK114.out) hb); have n2_ := Aside0.mk (below_step (by repeat (first | (with_reducible first | exact HB.out | apply below_alloc | apply pw_below_drewN | apply below_drew1 | refine below_set ?_ GE114.out) | exact HB.out)) hb); clear BK114; clear HB; have HO117 := n0_; have BK114 := n1_; have HB := n2_; clear n0_ n1_ n2_; (try clear hb); (try clear hb2); (try clear hk); (try clear hi); (try clear ho0)))
  go_ret2
  exact ⟨_, by first | rfl | (simp [errW_none, errW_some] <;> rfl) | (simp [*, errW_none, errW_some] <;> rfl), by first | exact Kd.R_nil _ _ _ _ _ | exact Kd.N_nil _ _ _ _ _ | exact Kd.V_nil _ _ _ _ _ | exact Kd.Q_nil _ _ _ _ _ | exact Kd.S_nil _ _ _ _ _, by repeat (first | (with_reducible first | exact HB.out | apply below_alloc | apply pw_below_drewN | apply below_drew1 | refine below_set ?_ GE114.out) | exact HB.out)⟩
 rw [if_pos c3] at H
 have c3b0 : (t118 == 0) = true := beq_iff_eq.mpr c3
 have c3b1 : (t118 != 0) = false := bne_eq_false_iff_eq.mpr c3
 clear c3
 have H' := Aside0.mk H
 clear H
 go_enter Try.func17, Try.ntmps17
 go_wp2_with (first | ((with_reducible refine gate_dst (N := 1) rfl ?_); refine box_event ?hg (N := 1) ?hd (cs := #[.slice A0_0 l0_0.length c0_0, .slice A0_1 l0_1.length c0_1, .slice A0_2 l0_2.length c0_2]) (t := 26) ?hr ?_; (case hd => rfl); (case hg => rfl); (case hr => first | (go_simp; done) | (go_simp; rfl)); intro gb114 hg w4 hbox hb; have n0_ := Aside0.mk (below_step (by repeat (first | (with_reducible first | exact HB.out | apply below_alloc | apply pw_below_drewN | apply below_drew1) | exact HB.out)) hb); have n1_ := Aside0.mk (hbox); have n2_ := Aside0.mk ((by rw [hg]; exact (below_size (by repeat (first | (with_reducible first | exact HB.out | apply below_alloc | apply pw_below_drewN | apply below_drew1) | exact HB.out))) : w.heap.size ≤ gb114)); have n3_ := Aside0.mk ((by rw [hg]; exact (below_size (by repeat (first | (with_reducible first | exact HB.out | apply below_alloc | apply pw_below_drewN | apply below_drew1) | exact HB.out))) : w.heap.size ≤ gb114)); clear HB; have HB := n0_; have BK114 := n1_; have GW114 := n2_; have GE114 := n3_; clear n0_ n1_ n2_ n3_; clear hb hbox hg; have hcz5_0 : w4.cell? ⟨gb114, 0, none⟩ = some (.slice A0_0 l0_0.length c0_0) := (blk_cell BK114.out 0).trans rfl; have hcz5_1 : w4.cell? ⟨gb114, 1, none⟩ = some (.slice A0_1 l0_1.length c0_1) := (blk_cell BK114.out 1).trans rfl; have hcz5_2 : w4.cell? ⟨gb114, 2, none⟩ = some (.slice A0_2 l0_2.length c0_2) := (blk_cell BK114.out 2).trans rfl; have hfz5_0 := blk_frozen BK114.out 0; have hfz5_1 := blk_frozen BK114.out 1; have hfz5_2 := blk_frozen BK114.out 2) | ((with_reducible refine gate_callee (f := 16) rfl ?_); refine goesL_ (some 12) rfl rfl Try.func16 (by kernel_rfl) rfl #[.agg #[.slice A0_0 l0_0.length c0_0, .slice A0_1 l0_1.length c0_1, .slice A0_2 l0_2.length c0_2]] rfl (by (try simp only [List.map_toArray, List.map_cons, List.map_nil]); first | done | rfl | (simp only [List.length_drop, List.length_take]; rfl)) ?_; (with_reducible refine (match_Chances.calls _ _ l0_0 _ _ l0_1 _ _ l0_2 t115 t118 _ ?side1 ?side2 ?side3 ?side4 ?side5 ?side6 A2.out).mono ?_); (case side1 => repeat (first | exact (Kd.C_below HR0_0.out HB.out) | (with_reducible refine Kd.C_alloc ?_ _) | (with_reducible refine Kd.C_drewN ?_ _) | (with_reducible refine Kd.C_drew ?_))); (case side2 => exact HC0_0.out); (case side3 => repeat (first | exact (Kd.C_below HR0_1.out HB.out) | (with_reducible refine Kd.C_alloc ?_ _) | (with_reducible refine Kd.C_drewN ?_ _) | (with_reducible refine Kd.C_drew ?_))); (case side4 => exact HC0_1.out); (case side5 => repeat (first | exact (Kd.C_below HR0_2.out HB.out) | (with_reducible refine Kd.C_alloc ?_ _) | (with_reducible refine Kd.C_drewN ?_ _) | (with_reducible refine Kd.C_drew ?_))); (case side6 => exact HC0_2.out); rintro e w6 ⟨v116, rfl, ho0, hb⟩; refine ⟨_, rfl, ?_⟩; have n0_ := Aside0.mk (Kd.S_lower ho0 (below_size (by repeat (first | (with_reducible first | exact HB.out | apply below_alloc | apply pw_below_drewN | apply below_drew1 | refine below_set ?_ GE114.out) | exact HB.out)))); have n1_ := Aside0.mk (blk_below (g := gb114) (o := .cells #[.slice A0_0 l0_0.length c0_0, .slice A0_1 l0_1.length c0_1, .slice A0_2 l0_2.length c0_2] 26 (0, 0)) (by (with_reducible repeat (first | refine blk_drewN ?_ _ | refine blk_drew ?_ | refine blk_alloc ?_ _)); exact BK114.out) hb); have n2_ := Aside0.mk (below_step (by repeat (first | (with_reducible first | exact HB.out | apply below_alloc | apply pw_below_drewN | apply below_drew1 | refine below_set ?_ GE114.out) | exact HB.out)) hb); clear BK114; clear HB; have HO117 := n0_; have BK114 := n1_; have HB := n2_; clear n0_ n1_ n2_; (try clear hb); (try clear hb2); (try clear hk); (try clear hi); (try clear ho0); obtain ⟨Ao7, co7, eo7⟩ := Kd.S_slice HO117.out; subst eo7))
 go_loopg [6, 20] k (fun kq v6 v20 w' => ∃ (x6_1 : List Int) (x20_1 : Int), v20 = .int .i64 x20_1 ∧ Aside0 (match_Must.l0 kq x6_1 t115 (t115.length : Int) x20_1 = some (r1, r2)) ∧ Aside0 (kq ≤ k) ∧ Aside0 (Kd.R (Kd.int .i64) 3 w' w.heap.size (fun _ => True) v6 x6_1) ∧ Aside0 (Kd.S (Kd.slice 3 (Kd.int .i64)) 22 w' w.heap.size (fun k_ => some k_ ≠ (v6 : Value).ownBlock) (.slice Ao7 t115.length co7) t115) ∧ Aside0 (w'.heap[gb114]? = some (.cells #[(.slice A0_0 l0_0.length c0_0), (.slice A0_1 l0_1.length c0_1), (.slice A0_2 l0_2.length c0_2)] 26 (0, 0))) ∧ Aside0 (Below w.heap.size w w'))
 case atStart => exact ⟨(([] : List Int)), (0), (by first | rfl | (simp; done) | (simp [*]; done)), H', ⟨Nat.le_refl _⟩, ⟨by first | exact Kd.R_nil _ _ _ _ _ | exact Kd.N_nil _ _ _ _ _ | exact Kd.V_nil _ _ _ _ _ | exact Kd.Q_nil _ _ _ _ _ | exact Kd.S_nil _ _ _ _ _⟩, ⟨by (with_reducible repeat (first | apply Kd.S_alloc | apply Kd.S_drewN | apply Kd.S_drew)); exact Kd.S_mono HO117.out (fun _ hk => (by simp [Value.ownBlock]))⟩, ⟨by (with_reducible repeat (first | refine blk_drewN ?_ _ | refine blk_drew ?_ | refine blk_alloc ?_ _)); exact BK114.out⟩, ⟨by repeat (first | (with_reducible first | exact HB.out | apply below_alloc | apply pw_below_drewN | apply below_drew1 | refine below_set ?_ GE114.out) | exact HB.out)⟩⟩
 clear H'
 try clear c1
 try clear p2
 try clear c3
 try clear c3b0
 try clear c3b1
 try clear hcz5_0
 try clear hcz5_1
 try clear hcz5_2
 try clear hfz5_0
 try clear hfz5_1
 try clear hfz5_2
 obtain ⟨x6_1, x20_1, rfl, HA, HK1, HO_6, HO_18, BK114, HB⟩ := hrel
 cases gk with
 | zero => exact absurd HA.out (by simp [match_Must.l0])
 | succ k1 =>
  have H := HA.out
  clear HA
  simp only [match_Must.l0] at H
  by_cases c8 : x20_1 < (t115.length : Int)
  rotate_left
  ·
   rw [if_neg c8] at H
   have c8b0 : decide (x20_1 < (t115.length : Int)) = false := decide_eq_false c8
   clear c8
   simp only [Option.some.injEq, Prod.mk.injEq] at H
   obtain ⟨rfl, rfl⟩ := H
   go_wp2
   go_ret2
   exact ⟨_, by first | rfl | (simp [errW_none, errW_some] <;> rfl) | (simp [*, errW_none, errW_some] <;> rfl), by (with_reducible repeat (first | apply Kd.R_alloc | apply Kd.R_drewN | apply Kd.R_drew)); exact HO_6.out, by repeat (first | (with_reducible first | exact HB.out | apply below_alloc | apply pw_below_drewN | apply below_drew1 | refine below_set ?_ GE114.out) | exact HB.out)⟩
  rw [if_pos c8] at H
  have c8b0 : decide (x20_1 < (t115.length : Int)) = true := decide_eq_true c8
  clear c8
  by_cases c9 : 0 ≤ x20_1
  rotate_left
  ·
   rw [if_neg c9] at H
   exact absurd H (by simp)
  rw [if_pos c9] at H
  have c9b0 : decide (0 ≤ x20_1) = true := decide_eq_true c9
  clear c9
  by_cases c10 : x20_1 < (t115.length : Int)
  rotate_left
  ·
   rw [if_neg c10] at H
   exact absurd H (by simp)
  rw [if_pos c10] at H
  have c10b0 : decide (x20_1 < (t115.length : Int)) = true := decide_eq_true c10
  clear c10
  by_cases c11 : ((rd_L1 t115 x20_1).length : Int) = 1
  rotate_left
  ·
   rw [if_neg c11] at H
   have c11b0 : (((rd_L1 t115 x20_1).length : Int) == 1) = false := beq_eq_false_iff_ne.mpr c11
   have c11b1 : (((rd_L1 t115 x20_1).length : Int) != 1) = true := bne_iff_ne.mpr c11
   by_cases c15 : x6_1.length < 17592186044416
   rotate_left
   ·
    rw [if_neg c15] at H
    exact absurd H (by simp)
   rw [if_pos c15] at H
   have LMc15 := Aside0.mk c15
   clear c15
   obtain ⟨y124, hy124⟩ : ∃ y_ : List Int, y_ = (x6_1 ++ [(-1)]) := ⟨_, rfl⟩
   replace H : (match_Must.l0 k1 y124 t115 (t115.length : Int) (wrap64 (x20_1 + 1))) = some (r1, r2) := by first | (rw [hy124]; with_reducible exact H) | (have H2_ := (Option.bind_some _ _).symm.trans H; rw [hy124]; with_reducible exact H2_) | (have H2_ := (Option.bind_some _ _).symm.trans H; with_reducible exact H2_) | with_reducible exact H | (rw [hy124]; exact H) | exact H
   have Ny124 := Aside0.mk hy124
   clear hy124
   have H' := Aside0.mk H
   clear H
   have p119 : 0 ≤ (x20_1 : Int) := of_decide_eq_true (by first | (with_reducible assumption) | assumption)
   have q119 : x20_1 < (t115.length : Int) := of_decide_eq_true (by first | (with_reducible assumption) | assumption)
   obtain ⟨ad119, A119_0, c119_0, e119, hx119_0, hl119_0, hi119_0⟩ := at_L1 (Kd.S_reads' HO_18.out).2.2 x20_1 p119 q119
   cases e119
   obtain ⟨ce119, hce119, hMe119, hcc119⟩ := Kd.S_get HO_18.out [] x20_1 p119 (by first | exact q119 | exact of_decide_eq_true (by first | (with_reducible assumption) | assumption) | (have e_ := (Kd.S_reads' HO_18.out).1; omega))
   obtain ⟨ve119_0, rfl, ge119_0⟩ := hMe119
   have hv119_0 := hcc119 0 _ rfl
   rw [Nat.add_zero, show ((Kd.slice 3 (Kd.int .i64))).sz = 1 from rfl, Nat.mul_one] at hv119_0
   replace hv119_0 := Option.some.inj (hv119_0.symm.trans hx119_0)
   rw [hv119_0] at ge119_0
   have HL119_0 := Aside0.mk (show Kd.R (Kd.int .i64) 3 _ _ _ _ (rd_L1 t115 x20_1) from ge119_0)
   clear hv119_0 ge119_0
   clear hcc119 hce119
   have HR119_0 := Aside0.mk hi119_0
   have HC119_0 := Aside0.mk hl119_0
   clear hi119_0 hl119_0
   replace p119 := eq_true p119
   replace q119 := eq_true q119
   go_wp2_with (first | ((with_reducible refine gate_builtin (b := .append) (xs := #[.tmp 30, .tmp 32]) rfl ?_); at_builtin; refine Kd.R_append (Kd.int .i64) (w0 := w) w.heap.size rfl (.tmp 30) (.tmp 32) 22 3 (.int .i64 0) 8 rfl Try.underlying22 info3 rfl (by decide) (by omega) u6 x6_1 (-1) [.int .i64 (-1)] (fun _ => True) (fun _ => False) rfl rfl ?aP (fun _ hk => hk.elim) ?aF ?aO ?aB ?aS ?aL ?_; (case aP => exact rfl); (case aB => exact (by repeat (first | (with_reducible first | exact HB.out | apply below_alloc | apply pw_below_drewN | apply below_drew1 | refine below_set ?_ GE114.out) | exact HB.out))); (case aF => exact (fun _ _ => trivial)); (case aO => exact (by (with_reducible repeat (first | apply Kd.R_alloc | apply Kd.R_drewN | apply Kd.R_drew)); exact HO_6.out)); (case aS => exact (below_size (by repeat (first | (with_reducible first | exact HB.out | apply below_alloc | apply pw_below_drewN | apply below_drew1 | refine below_set ?_ GE114.out) | exact HB.out)))); (case aL => have := LMc15.out; omega); intro v125 w16 ho hb hg hat; rw [← Ny124.out] at ho; have n0_ := Aside0.mk (Kd.S_after (ok := (fun _ => True)) (by (with_reducible repeat (first | apply Kd.S_alloc | apply Kd.S_drewN | apply Kd.S_drew)); exact Kd.S_mono HO_18.out (fun _ hk => ⟨trivial, hk⟩)) hg hat); have n1_ := Aside0.mk (blk_grown (g := gb114) (o := .cells #[.slice A0_0 l0_0.length c0_0, .slice A0_1 l0_1.length c0_1, .slice A0_2 l0_2.length c0_2] 26 (0, 0)) (by (with_reducible repeat (first | refine blk_drewN ?_ _ | refine blk_drew ?_ | refine blk_alloc ?_ _)); exact BK114.out) hg (Kd.R_ne HO_6.out BK114.out (by decide))); have n2_ := Aside0.mk (Kd.R_after (ok := (fun k_ => some k_ ≠ (.slice (some ad119) t115.length co7 : Value).ownBlock)) (by (with_reducible repeat (first | apply Kd.R_alloc | apply Kd.R_drewN | apply Kd.R_drew)); exact Kd.R_mono HL119_0.out (fun _ hk => ⟨hk.2, hk.1⟩)) hg hat); have n3_ := Aside0.mk (hb); have n4_ := Aside0.mk (ho); clear HO_18; clear BK114; clear HL119_0; clear HB; clear HO_6; have HO_18 := n0_; have BK114 := n1_; have HL119_0 := n2_; have HB := n3_; have HO126 := n4_; clear n0_ n1_ n2_ n3_ n4_; clear ho hb hg hat))
   go_roundg k1
   case measure => have := HK1.out; omega
   case rel => exact ⟨(y124), (wrap64 (x20_1 + 1)), (by first | rfl | (simp; done) | (simp [*]; done)), H', ⟨by have := HK1.out; omega⟩, ⟨by (with_reducible repeat (first | apply Kd.R_alloc | apply Kd.R_drewN | apply Kd.R_drew)); exact HO126.out⟩, ⟨by (with_reducible repeat (first | apply Kd.S_alloc | apply Kd.S_drewN | apply Kd.S_drew)); exact Kd.S_mono HO_18.out (fun _ hk => hk.2)⟩, ⟨by (with_reducible repeat (first | refine blk_drewN ?_ _ | refine blk_drew ?_ | refine blk_alloc ?_ _)); exact BK114.out⟩, ⟨by repeat (first | (with_reducible first | exact HB.out | apply below_alloc | apply pw_below_drewN | apply below_drew1 | refine below_set ?_ GE114.out) | exact HB.out)⟩⟩
  rw [if_pos c11] at H
  have c11b0 : (((rd_L1 t115 x20_1).length : Int) == 1) = true := beq_iff_eq.mpr c11
  have c11b1 : (((rd_L1 t115 x20_1).length : Int) != 1) = false := bne_eq_false_iff_eq.mpr c11
  clear c11
  by_cases c12 : 0 < ((rd_L1 t115 x20_1).length : Int)
  rotate_left
  ·
   rw [if_neg c12] at H
   exact absurd H (by simp)
  rw [if_pos c12] at H
  have c12b0 : decide (0 < ((rd_L1 t115 x20_1).length : Int)) = true := decide_eq_true c12
  have c12b1 : decide (0 < (rd_L1 t115 x20_1).length) = true := decide_eq_true (by omega)
  clear c12
  by_cases c13 : x6_1.length < 17592186044416
  rotate_left
  ·
   rw [if_neg c13] at H
   exact absurd H (by simp)
  rw [if_pos c13] at H
  have LMc13 := Aside0.mk c13
  clear c13
  obtain ⟨y121, hy121⟩ : ∃ y_ : List Int, y_ = (x6_1 ++ [rd (rd_L1 t115 x20_1) 0]) := ⟨_, rfl⟩
  replace H : (match_Must.l0 k1 y121 t115 (t115.length : Int) (wrap64 (x20_1 + 1))) = some (r1, r2) := by first | (rw [hy121]; with_reducible exact H) | (have H2_ := (Option.bind_some _ _).symm.trans H; rw [hy121]; with_reducible exact H2_) | (have H2_ := (Option.bind_some _ _).symm.trans H; with_reducible exact H2_) | with_reducible exact H | (rw [hy121]; exact H) | exact H
  have Ny121 := Aside0.mk hy121
  clear hy121
  have H' := Aside0.mk H
  clear H
  have p119 : 0 ≤ (x20_1 : Int) := of_decide_eq_true (by first | (with_reducible assumption) | assumption)
  have q119 : x20_1 < (t115.length : Int) := of_decide_eq_true (by first | (with_reducible assumption) | assumption)
  obtain ⟨ad119, A119_0, c119_0, e119, hx119_0, hl119_0, hi119_0⟩ := at_L1 (Kd.S_reads' HO_18.out).2.2 x20_1 p119 q119
  cases e119
  obtain ⟨ce119, hce119, hMe119, hcc119⟩ := Kd.S_get HO_18.out [] x20_1 p119 (by first | exact q119 | exact of_decide_eq_true (by first | (with_reducible assumption) | assumption) | (have e_ := (Kd.S_reads' HO_18.out).1; omega))
  obtain ⟨ve119_0, rfl, ge119_0⟩ := hMe119
  have hv119_0 := hcc119 0 _ rfl
  rw [Nat.add_zero, show ((Kd.slice 3 (Kd.int .i64))).sz = 1 from rfl, Nat.mul_one] at hv119_0
  replace hv119_0 := Option.some.inj (hv119_0.symm.trans hx119_0)
  rw [hv119_0] at ge119_0
  have HL119_0 := Aside0.mk (show Kd.R (Kd.int .i64) 3 _ _ _ _ (rd_L1 t115 x20_1) from ge119_0)
  clear hv119_0 ge119_0
  clear hcc119 hce119
  have HR119_0 := Aside0.mk hi119_0
  have HC119_0 := Aside0.mk hl119_0
  clear hi119_0 hl119_0
  replace p119 := eq_true p119
  replace q119 := eq_true q119
  have p120 : 0 ≤ (0 : Int) := (by omega)
  have q120 : 0 < ((rd_L1 t115 x20_1).length : Int) := of_decide_eq_true (by first | (with_reducible assumption) | assumption)
  obtain ⟨ad120, e120, hx120_0⟩ := Kd.at_int (by repeat (first | (with_reducible exact HR119_0.out) | (with_reducible refine Kd.C_alloc ?_ _) | (with_reducible refine Kd.C_drewN ?_ _) | (with_reducible refine Kd.C_drew ?_) | exact HR119_0.out)) 0 p120 q120
  cases e120
  have qi120 : (0 < (rd_L1 t115 x20_1).length) = True := eq_true (by omega)
  (try rw [show ((0 : Int)).toNat = 0 from rfl] at hx120_0)
  (try rw [Addr.add_zero'] at hx120_0)
  replace p120 := eq_true p120
  replace q120 := eq_true q120
  go_wp2_with (first | ((with_reducible refine gate_builtin (b := .append) (xs := #[.tmp 30, .tmp 32]) rfl ?_); at_builtin; refine Kd.R_append (Kd.int .i64) (w0 := w) w.heap.size rfl (.tmp 30) (.tmp 32) 22 3 (.int .i64 0) 8 rfl Try.underlying22 info3 rfl (by decide) (by omega) u6 x6_1 (rd (rd_L1 t115 x20_1) 0) [.int .i64 (rd (rd_L1 t115 x20_1) 0)] (fun _ => True) (fun _ => False) rfl rfl ?aP (fun _ hk => hk.elim) ?aF ?aO ?aB ?aS ?aL ?_; (case aP => exact rfl); (case aB => exact (by repeat (first | (with_reducible first | exact HB.out | apply below_alloc | apply pw_below_drewN | apply below_drew1 | refine below_set ?_ GE114.out) | exact HB.out))); (case aF => exact (fun _ _ => trivial)); (case aO => exact (by (with_reducible repeat (first | apply Kd.R_alloc | apply Kd.R_drewN | apply Kd.R_drew)); exact HO_6.out)); (case aS => exact (below_size (by repeat (first | (with_reducible first | exact HB.out | apply below_alloc | apply pw_below_drewN | apply below_drew1 | refine below_set ?_ GE114.out) | exact HB.out)))); (case aL => have := LMc13.out; omega); intro v122 w14 ho hb hg hat; rw [← Ny121.out] at ho; have n0_ := Aside0.mk (Kd.S_after (ok := (fun _ => True)) (by (with_reducible repeat (first | apply Kd.S_alloc | apply Kd.S_drewN | apply Kd.S_drew)); exact Kd.S_mono HO_18.out (fun _ hk => ⟨trivial, hk⟩)) hg hat); have n1_ := Aside0.mk (blk_grown (g := gb114) (o := .cells #[.slice A0_0 l0_0.length c0_0, .slice A0_1 l0_1.length c0_1, .slice A0_2 l0_2.length c0_2] 26 (0, 0)) (by (with_reducible repeat (first | refine blk_drewN ?_ _ | refine blk_drew ?_ | refine blk_alloc ?_ _)); exact BK114.out) hg (Kd.R_ne HO_6.out BK114.out (by decide))); have n2_ := Aside0.mk (Kd.R_after (ok := (fun k_ => some k_ ≠ (.slice (some ad119) t115.length co7 : Value).ownBlock)) (by (with_reducible repeat (first | apply Kd.R_alloc | apply Kd.R_drewN | apply Kd.R_drew)); exact Kd.R_mono HL119_0.out (fun _ hk => ⟨hk.2, hk.1⟩)) hg hat); have n3_ := Aside0.mk (hb); have n4_ := Aside0.mk (ho); clear HO_18; clear BK114; clear HL119_0; clear HB; clear HO_6; have HO_18 := n0_; have BK114 := n1_; have HL119_0 := n2_; have HB := n3_; have HO123 := n4_; clear n0_ n1_ n2_ n3_ n4_; clear ho hb hg hat))
  go_roundg k1
  case measure => have := HK1.out; omega
  case rel => exact ⟨(y121), (wrap64 (x20_1 + 1)), (by first | rfl | (simp; done) | (simp [*]; done)), H', ⟨by have := HK1.out; omega⟩, ⟨by (with_reducible repeat (first | apply Kd.R_alloc | apply Kd.R_drewN | apply Kd.R_drew)); exact HO123.out⟩, ⟨by (with_reducible repeat (first | apply Kd.S_alloc | apply Kd.S_drewN | apply Kd.S_drew)); exact Kd.S_mono HO_18.out (fun _ hk => hk.2)⟩, ⟨by (with_reducible repeat (first | refine blk_drewN ?_ _ | refine blk_drew ?_ | refine blk_alloc ?_ _)); exact BK114.out⟩, ⟨by repeat (first | (with_reducible first | exact HB.out | apply below_alloc | apply pw_below_drewN | apply below_drew1 | refine below_set ?_ GE114.out) | exact HB.out)⟩⟩
end Go.Proofs.Ytkmmihadcbfkoaa.PM
end

section
namespace Go.Proofs.Ytkmmihadcbfkoaa
open PM
def bdT2 : List (List Int) := [[0], [0], [0, 1]]
theorem bd_check3 : checkB bdF (bdS 1) bdT2 = 0 := by kernel_rfl
theorem bd_is1 : isF bdF (bdS 1) bdT = true := by kernel_rfl
theorem bd_assign : match_Assign.f bdF (bdS 1) bdT = some ([0, 1, 2], true, 0) := by kernel_rfl
theorem bd_must1 : match_Must.f 5 bdF (bdS 1) bdT = some ([0, 1, 2], 0) := by kernel_rfl
theorem bd_must2 : match_Must.f 5 bdF (bdS 2) bdT = some ([0, -1, -1], 0) := by kernel_rfl
theorem bd_load : match_Load.f bdF (bdS 2) bdT 0 = some (1, 2, 0) := by kernel_rfl
theorem srt10 : Lib.compact (([1, 0] : List Int).mergeSort fun x y => decide (x ≤ y)) = [0, 1] := by
 rw [show (([1, 0] : List Int).mergeSort fun x y => decide (x ≤ y)) = [0, 1] from by simp [List.mergeSort, List.MergeSort.Internal.splitInTwo]]
 kernel_rfl
theorem bd_hall1 : giveH bdT (roomsLess (bdS 1) 1) 3 1 [0, -1, -1] = [0, 1] := by
 unfold giveH
 rw [show (giveR bdT (roomsLess (bdS 1) 1) 3 1 [0, -1, -1]).ok = false from by kernel_rfl, if_neg (by simp), show hallTo 1 (giveR bdT (roomsLess (bdS 1) 1) 3 1 [0, -1, -1]).seen (giveR bdT (roomsLess (bdS 1) 1) 3 1 [0, -1, -1]).has 3 = [1, 0] from by kernel_rfl]
 exact srt10
theorem bd_hall2 : giveH bdT2 (rooms (bdS 1)) 3 1 [0, -1, -1] = [0, 1] := by
 unfold giveH
 rw [show (giveR bdT2 (rooms (bdS 1)) 3 1 [0, -1, -1]).ok = false from by kernel_rfl, if_neg (by simp), show hallTo 1 (giveR bdT2 (rooms (bdS 1)) 3 1 [0, -1, -1]).seen (giveR bdT2 (rooms (bdS 1)) 3 1 [0, -1, -1]).has 3 = [1, 0] from by kernel_rfl]
 exact srt10
theorem bd_fill1 : hallR bdF (bdS 1) bdT 2 (roomsLess (bdS 1) 1) = ⟨false, giveH bdT (roomsLess (bdS 1) 1) 3 1 [0, -1, -1], (giveR bdT (roomsLess (bdS 1) 1) 3 1 [0, -1, -1]).has⟩ := by kernel_rfl
theorem bd_fill2 : hallR bdF (bdS 1) bdT2 (-1) (rooms (bdS 1)) = ⟨false, giveH bdT2 (rooms (bdS 1)) 3 1 [0, -1, -1], (giveR bdT2 (rooms (bdS 1)) 3 1 [0, -1, -1]).has⟩ := by kernel_rfl
theorem bd_refuse : match_Refuse.f bdF (bdS 1) bdT 2 1 = some ([0, 1], true, 0) := by
 unfold match_Refuse.f
 rw [if_neg (by rw [show askB bdF (bdS 1) bdT 2 1 false false = 0 from by kernel_rfl]; simp), if_neg (by rw [bd_is1]; simp), if_neg (by decide), bd_fill1, bd_hall1]
 rfl
theorem bd_hall : match_Hall.f bdF (bdS 1) bdT2 = some ([0, 1], true, 0) := by
 unfold match_Hall.f
 rw [if_neg (by rw [bd_check3]; simp), bd_fill2, bd_hall2]
 rfl
end Go.Proofs.Ytkmmihadcbfkoaa
end

section
namespace Go.Proofs.Ytkmmihadcbfkoaa
open Go.RowKit Go.Proofs.YtkmmihadcbfkoaaW.PrintWords PM
set_option linter.unusedVariables false
set_option linter.unusedSimpArgs false
theorem fits2_world (w : World) (o : Obj) :
    ∃ W, (((((w.alloc o).alloc (.cells #[.int .i64 0] 3)).alloc (.cells #[.int .i64 0] 3)).alloc (.cells #[.int .i64 0, .int .i64 1] 3)).alloc
      (.cells #[.slice (some ⟨w.heap.size + 1, 0, none⟩) 1 1, .slice (some ⟨w.heap.size + 1 + 1, 0, none⟩) 1 1, .slice (some ⟨w.heap.size + 1 + 1 + 1, 0, none⟩) 2 2] 22)) = W ∧
      Below w.heap.size w W ∧ Kd.C (Kd.slice 3 (Kd.int .i64)) W (some ⟨w.heap.size + 1 + 1 + 1 + 1, 0, none⟩) bdT2.length bdT2 := by
  have hB : Below w.heap.size w (((((w.alloc o).alloc (.cells #[.int .i64 0] 3)).alloc (.cells #[.int .i64 0] 3)).alloc (.cells #[.int .i64 0, .int .i64 1] 3)).alloc
      (.cells #[.slice (some ⟨w.heap.size + 1, 0, none⟩) 1 1, .slice (some ⟨w.heap.size + 1 + 1, 0, none⟩) 1 1, .slice (some ⟨w.heap.size + 1 + 1 + 1, 0, none⟩) 2 2] 22)) := by
    repeat (first | exact Below.refl _ _ | refine below_alloc ?_ _)
  refine ⟨_, rfl, hB, ?_⟩
  obtain ⟨W, hW⟩ : ∃ W, (((((w.alloc o).alloc (.cells #[.int .i64 0] 3)).alloc (.cells #[.int .i64 0] 3)).alloc (.cells #[.int .i64 0, .int .i64 1] 3)).alloc
      (.cells #[.slice (some ⟨w.heap.size + 1, 0, none⟩) 1 1, .slice (some ⟨w.heap.size + 1 + 1, 0, none⟩) 1 1, .slice (some ⟨w.heap.size + 1 + 1 + 1, 0, none⟩) 2 2] 22)) = W := ⟨_, rfl⟩
  have e1 : W.heap[w.heap.size + 1]? = some (.cells #[.int .i64 0] 3 (0, 0)) := by
    rw [← hW]
    repeat (first | exact blk_new _ _ | (refine (congrArg _ ?_).trans (blk_new _ _); simp only [World.size_alloc]; done) | refine blk_alloc ?_ _)
  have e2 : W.heap[w.heap.size + 1 + 1]? = some (.cells #[.int .i64 0] 3 (0, 0)) := by
    rw [← hW]
    repeat (first | exact blk_new _ _ | (refine (congrArg _ ?_).trans (blk_new _ _); simp only [World.size_alloc]; done) | refine blk_alloc ?_ _)
  have e3 : W.heap[w.heap.size + 1 + 1 + 1]? = some (.cells #[.int .i64 0, .int .i64 1] 3 (0, 0)) := by
    rw [← hW]
    repeat (first | exact blk_new _ _ | (refine (congrArg _ ?_).trans (blk_new _ _); simp only [World.size_alloc]; done) | refine blk_alloc ?_ _)
  have e4 : W.heap[w.heap.size + 1 + 1 + 1 + 1]? = some (.cells #[.slice (some ⟨w.heap.size + 1, 0, none⟩) 1 1, .slice (some ⟨w.heap.size + 1 + 1, 0, none⟩) 1 1, .slice (some ⟨w.heap.size + 1 + 1 + 1, 0, none⟩) 2 2] 22 (0, 0)) := by
    rw [← hW]
    repeat (first | exact blk_new _ _ | (refine (congrArg _ ?_).trans (blk_new _ _); simp only [World.size_alloc]; done) | refine blk_alloc ?_ _)
  rw [hW]
  have r0 := rowC (l := [0]) e1 (by decide) (fun j v hv => by
    match j, hv with
    | 0, hv => have : (0 : Int) = v := by simpa using hv
               subst this; rfl)
  have r1 := rowC (l := [0]) e2 (by decide) (fun j v hv => by
    match j, hv with
    | 0, hv => have : (0 : Int) = v := by simpa using hv
               subst this; rfl)
  have r2 := rowC (l := [0, 1]) e3 (by decide) (fun j v hv => by
    match j, hv with
    | 0, hv => have : (0 : Int) = v := by simpa using hv
               subst this; rfl
    | 1, hv => have : (1 : Int) = v := by simpa using hv
               subst this; rfl)
  refine rowsC e4 (by decide) (fun j v hv => ?_)
  match j, hv with
  | 0, hv => have : ([0] : List Int) = v := by simpa [bdT2] using hv
             subst this; exact ⟨_, _, rfl, by decide, r0⟩
  | 1, hv => have : ([0] : List Int) = v := by simpa [bdT2] using hv
             subst this; exact ⟨_, _, rfl, by decide, r1⟩
  | 2, hv => have : ([0, 1] : List Int) = v := by simpa [bdT2] using hv
             subst this; exact ⟨_, _, rfl, by decide, r2⟩
  | n + 3, hv => simp [bdT2] at hv
/-- A list as said, beside a new one of the same numbers. -/
theorem same_calls {A : Option Addr} {c : Nat} {l : List Int} {w : World} (hr : Kd.C (Kd.int .i64) w A l.length l) (hc : l.length ≤ c) (hf : laganref04_SameInts.f 5 l l = some true) (hl : l.length ≤ 100) :
  Calls Try.prog 22 #[.slice A l.length c, .slice (some ⟨w.heap.size, 0, none⟩) l.length l.length] (w.alloc (.cells (l.map (Value.int .i64)).toArray 3)) fun e w' => e = .returned (.bool true) ∧ Below w.heap.size w w' := by
 have hb := (Below.refl w.heap.size w).alloc (Nat.le_refl _) (.cells (l.map (Value.int .i64)).toArray 3)
 refine (laganref04_SameInts.calls 5 A c l (some ⟨w.heap.size, 0, none⟩) l.length l true _ (Kd.C_below hr hb) hc (rowC (World.alloc_heap_new w _) (by omega) (fun j v hv => by simp [hv])) (Nat.le_refl _) hf).mono ?_
 rintro e w' ⟨rfl, hd⟩
 exact ⟨rfl, hb.trans (hd.below.mono hb.size)⟩
set_option maxRecDepth 100000 in
set_option maxHeartbeats 8000000 in
theorem matched_walk (w : World) : Calls Try.prog 14 #[] w fun e w' => e = .returned (.bool true) ∧ Below w.heap.size w w' := by
 go_enter Try.func14, Try.ntmps14
 go_wp2_with fail
 refine (board_calls 1 _).mono ?_
 rintro e w1 ⟨A0, c0, A1, c1, A2, c2, rfl, hc0, hc1, hc2, h0, h1, h2, hb1⟩
 have AC := PM.match_Assign.calls A0 c0 bdF A1 c1 (bdS 1) A2 c2 bdT _ _ _ w1 h0 hc0 h1 hc1 h2 hc2 bd_assign
 have HB1 := Go.Lib.hid hb1
 clear hc0 hc1 hc2 h0 h1 h2 hb1
 go_wp2_with fail
 refine AC.mono ?_
 clear AC
 rintro e w2 ⟨va, rfl, hRa, hb2⟩
 obtain ⟨Aa, ca, rfl, hla, hCa⟩ := Kd.R_reads hRa
 have HB2 := Go.Lib.hid (HB1.out.trans (hb2.mono HB1.out.size))
 have HCa := Go.Lib.hid hCa
 clear hRa hb2 hCa HB1
 go_wp2_with fail
 refine (board_calls 1 _).mono ?_
 rintro e w3 ⟨A0, c0, A1, c1, A2, c2, rfl, hc0, hc1, hc2, h0, h1, h2, hb3⟩
 have MC := PM.match_Must.calls 5 A0 c0 bdF A1 c1 (bdS 1) A2 c2 bdT _ _ w3 h0 hc0 h1 hc1 h2 hc2 bd_must1
 have HB3 := Go.Lib.hid (HB2.out.trans (hb3.mono HB2.out.size))
 have HCa3 := Go.Lib.hid (Kd.C_below HCa.out hb3)
 clear hc0 hc1 hc2 h0 h1 h2 hb3 HB2 HCa
 go_wp2_with fail
 refine MC.mono ?_
 clear MC
 rintro e w4 ⟨vb, rfl, hRb, hb4⟩
 obtain ⟨Ab, cb, rfl, hlb, hCb⟩ := Kd.R_reads hRb
 have HB4 := Go.Lib.hid (HB3.out.trans (hb4.mono HB3.out.size))
 have HCa4 := Go.Lib.hid (Kd.C_below HCa3.out hb4)
 have HCb4 := Go.Lib.hid hCb
 clear hRb hb4 hCb HB3 HCa3
 go_wp2_with fail
 refine (board_calls 2 _).mono ?_
 rintro e w5 ⟨A0, c0, A1, c1, A2, c2, rfl, hc0, hc1, hc2, h0, h1, h2, hb5⟩
 have MC := PM.match_Must.calls 5 A0 c0 bdF A1 c1 (bdS 2) A2 c2 bdT _ _ w5 h0 hc0 h1 hc1 h2 hc2 bd_must2
 have HB5 := Go.Lib.hid (HB4.out.trans (hb5.mono HB4.out.size))
 have HCa5 := Go.Lib.hid (Kd.C_below HCa4.out hb5)
 have HCb5 := Go.Lib.hid (Kd.C_below HCb4.out hb5)
 clear hc0 hc1 hc2 h0 h1 h2 hb5 HB4 HCa4 HCb4
 go_wp2_with fail
 refine MC.mono ?_
 clear MC
 rintro e w6 ⟨vc, rfl, hRc, hb6⟩
 obtain ⟨Ac, cc, rfl, hlc, hCc⟩ := Kd.R_reads hRc
 have HB6 := Go.Lib.hid (HB5.out.trans (hb6.mono HB5.out.size))
 have HCa6 := Go.Lib.hid (Kd.C_below HCa5.out hb6)
 have HCb6 := Go.Lib.hid (Kd.C_below HCb5.out hb6)
 have HCc6 := Go.Lib.hid hCc
 clear hRc hb6 hCc HB5 HCa5 HCb5
 go_wp2_with fail
 refine (board_calls 1 _).mono ?_
 rintro e w7 ⟨A0, c0, A1, c1, A2, c2, rfl, hc0, hc1, hc2, h0, h1, h2, hb7⟩
 have RC := PM.match_Refuse.calls A0 c0 bdF A1 c1 (bdS 1) A2 c2 bdT 2 1 _ _ _ w7 h0 hc0 h1 hc1 h2 hc2 bd_refuse
 have HB7 := Go.Lib.hid (HB6.out.trans (hb7.mono HB6.out.size))
 have HCa7 := Go.Lib.hid (Kd.C_below HCa6.out hb7)
 have HCb7 := Go.Lib.hid (Kd.C_below HCb6.out hb7)
 have HCc7 := Go.Lib.hid (Kd.C_below HCc6.out hb7)
 clear hc0 hc1 hc2 h0 h1 h2 hb7 HB6 HCa6 HCb6 HCc6
 go_wp2_with fail
 refine RC.mono ?_
 clear RC
 rintro e w8 ⟨vd, rfl, hRd, hb8⟩
 obtain ⟨Ad, cd, rfl, hld, hCd⟩ := Kd.R_reads hRd
 have HB8 := Go.Lib.hid (HB7.out.trans (hb8.mono HB7.out.size))
 have HC8 := Go.Lib.hid (And.intro (Kd.C_below HCa7.out hb8) (And.intro (Kd.C_below HCb7.out hb8) (And.intro (Kd.C_below HCc7.out hb8) hCd)))
 clear hRd hb8 hCd HB7 HCa7 HCb7 HCc7
 go_wp2_with fail
 refine (board_calls 2 _).mono ?_
 rintro e w9 ⟨A0, c0, A1, c1, A2, c2, rfl, hc0, hc1, hc2, h0, h1, h2, hb9⟩
 have LC := PM.match_Load.calls A0 c0 bdF A1 c1 (bdS 2) A2 c2 bdT 0 _ _ _ w9 h0 hc0 h1 hc1 h2 hc2 bd_load
 have HB9 := Go.Lib.hid (HB8.out.trans (hb9.mono HB8.out.size))
 have HC9 := Go.Lib.hid (And.intro (Kd.C_below HC8.out.1 hb9) (And.intro (Kd.C_below HC8.out.2.1 hb9) (And.intro (Kd.C_below HC8.out.2.2.1 hb9) (Kd.C_below HC8.out.2.2.2 hb9))))
 clear hc0 hc1 hc2 h0 h1 h2 hb9 HB8 HC8
 go_wp2_with fail
 refine LC.mono ?_
 clear LC
 rintro e w10 ⟨rfl, hb10⟩
 have HB10 := Go.Lib.hid (HB9.out.trans (hb10.mono HB9.out.size))
 have HC10 := Go.Lib.hid (And.intro (Kd.C_below HC9.out.1 hb10) (And.intro (Kd.C_below HC9.out.2.1 hb10) (And.intro (Kd.C_below HC9.out.2.2.1 hb10) (Kd.C_below HC9.out.2.2.2 hb10))))
 clear hb10 HB9 HC9
 go_wp2_with fail
 refine (board_calls 1 _).mono ?_
 rintro e w11 ⟨A0, c0, A1, c1, A2, c2, rfl, hc0, hc1, hc2, h0, h1, h2, hb11⟩
 have HB11 := Go.Lib.hid (HB10.out.trans (hb11.mono HB10.out.size))
 have HC11 := Go.Lib.hid (And.intro (Kd.C_below HC10.out.1 hb11) (And.intro (Kd.C_below HC10.out.2.1 hb11) (And.intro (Kd.C_below HC10.out.2.2.1 hb11) (Kd.C_below HC10.out.2.2.2 hb11))))
 have HD := Go.Lib.hid (And.intro h0 h1)
 clear hc2 h0 h1 h2 hb11 HB10 HC10
 go_wp2_with fail
 obtain ⟨W12, hW12, hb12, hT2⟩ := fits2_world w11 (.cells #[.slice A0 bdF.length c0, .slice A1 (bdS 1).length c1, .slice (some ⟨w11.heap.size + 1 + 1 + 1 + 1, 0, none⟩) 3 3] 26)
 rw [hW12]
 have HC := PM.match_Hall.calls A0 c0 bdF A1 c1 (bdS 1) _ 3 bdT2 _ _ _ W12 (Kd.C_below HD.out.1 hb12) hc0 (Kd.C_below HD.out.2 hb12) hc1 hT2 (by decide) bd_hall
 have HB12 := Go.Lib.hid (HB11.out.trans (hb12.mono HB11.out.size))
 have HC12 := Go.Lib.hid (And.intro (Kd.C_below HC11.out.1 hb12) (And.intro (Kd.C_below HC11.out.2.1 hb12) (And.intro (Kd.C_below HC11.out.2.2.1 hb12) (Kd.C_below HC11.out.2.2.2 hb12))))
 clear hW12 hb12 hT2 HD HB11 HC11 hc0 hc1
 refine HC.mono ?_
 clear HC
 rintro e w13 ⟨vk, rfl, hRk, hb13⟩
 obtain ⟨Ak, ck, rfl, hlk, _⟩ := Kd.R_reads hRk
 have HB13 := Go.Lib.hid (HB12.out.trans (hb13.mono HB12.out.size))
 have HC13 := Go.Lib.hid (And.intro (Kd.C_below HC12.out.1 hb13) (And.intro (Kd.C_below HC12.out.2.1 hb13) (And.intro (Kd.C_below HC12.out.2.2.1 hb13) (Kd.C_below HC12.out.2.2.2 hb13))))
 clear hRk hb13 HB12 HC12
 have SA := same_calls HC13.out.1 hla (by kernel_rfl) (by decide)
 go_wp2_with fail
 refine SA.mono ?_
 clear SA
 rintro e w14 ⟨rfl, hb14⟩
 have HB14 := Go.Lib.hid (HB13.out.trans (hb14.mono HB13.out.size))
 have SB := same_calls (Kd.C_below HC13.out.2.1 hb14) hlb (by kernel_rfl) (by decide)
 have HC14 := Go.Lib.hid (And.intro (Kd.C_below HC13.out.2.2.1 hb14) (Kd.C_below HC13.out.2.2.2 hb14))
 clear hb14 HB13 HC13
 go_wp2_with fail
 refine SB.mono ?_
 clear SB
 rintro e w15 ⟨rfl, hb15⟩
 have HB15 := Go.Lib.hid (HB14.out.trans (hb15.mono HB14.out.size))
 have SC := same_calls (Kd.C_below HC14.out.1 hb15) hlc (by kernel_rfl) (by decide)
 have HC15 := Go.Lib.hid (Kd.C_below HC14.out.2 hb15)
 clear hb15 HB14 HC14
 go_wp2_with fail
 refine SC.mono ?_
 clear SC
 rintro e w16 ⟨rfl, hb16⟩
 have HB16 := Go.Lib.hid (HB15.out.trans (hb16.mono HB15.out.size))
 have SD := same_calls (Kd.C_below HC15.out hb16) hld (by kernel_rfl) (by decide)
 clear hb16 HB15 HC15
 go_wp2_with fail
 refine SD.mono ?_
 clear SD
 rintro e w17 ⟨rfl, hb17⟩
 have HB17 := Go.Lib.hid (HB16.out.trans (hb17.mono HB16.out.size))
 clear hb17 HB16
 go_wp2_with fail
 go_ret
 exact ⟨rfl, HB17.out⟩
end Go.Proofs.Ytkmmihadcbfkoaa
end

section
namespace Go.Proofs.Ytkmmihadcbfkoaa
open Go.RowKit Go.Proofs.YtkmmihadcbfkoaaW.PrintWords PM
set_option linter.unusedVariables false
set_option linter.unusedSimpArgs false
structure LAt (w0 : World) (A0 : Option Addr) (c0 : Nat) (F : List Int) (A1 : Option Addr) (c1 : Nat) (S : List S50) (A2 : Option Addr) (c2 : Nat) (T : List (List Int)) (w : World) : Prop where
 box : w.heap[w0.heap.size]? = some (.cells #[.slice A0 F.length c0, .slice A1 S.length c1, .slice A2 T.length c2] 26 (0, 0))
 B : Below w0.heap.size w0 w
 C0 : Kd.C (Kd.int .i64) w A0 F.length F
 l0 : F.length ≤ c0
 C1 : Kd.C k50 w A1 S.length S
 l1 : S.length ≤ c1
 C2 : Kd.C (Kd.slice 3 (Kd.int .i64)) w A2 T.length T
 l2 : T.length ≤ c2
section
variable {w0 w w' : World} {A0 : Option Addr} {c0 : Nat} {F : List Int} {A1 : Option Addr} {c1 : Nat} {S : List S50} {A2 : Option Addr} {c2 : Nat} {T : List (List Int)}
theorem LAt.start (C0 : Kd.C (Kd.int .i64) w0 A0 F.length F) (l0 : F.length ≤ c0) (C1 : Kd.C k50 w0 A1 S.length S) (l1 : S.length ≤ c1) (C2 : Kd.C (Kd.slice 3 (Kd.int .i64)) w0 A2 T.length T) (l2 : T.length ≤ c2) :
  LAt w0 A0 c0 F A1 c1 S A2 c2 T (w0.alloc (.cells #[.slice A0 F.length c0, .slice A1 S.length c1, .slice A2 T.length c2] 26)) := by
 have hB := (Below.refl w0.heap.size w0).alloc (Nat.le_refl _) (.cells #[.slice A0 F.length c0, .slice A1 S.length c1, .slice A2 T.length c2] 26)
 exact ⟨World.alloc_heap_new w0 _, hB, Kd.C_below C0 hB, l0, Kd.C_below C1 hB, l1, Kd.C_below C2 hB, l2⟩
theorem LAt.later (h : LAt w0 A0 c0 F A1 c1 S A2 c2 T w) (hb : Below w.heap.size w w') : LAt w0 A0 c0 F A1 c1 S A2 c2 T w' :=
 ⟨(hb.block w0.heap.size (Array.getElem?_eq_some_iff.1 h.box).1).trans h.box, h.B.trans (hb.mono h.B.size), Kd.C_below h.C0 hb, h.l0, Kd.C_below h.C1 hb, h.l1, Kd.C_below h.C2 hb, h.l2⟩
theorem LAt.k0 (h : LAt w0 A0 c0 F A1 c1 S A2 c2 T w) : w.cell? ⟨w0.heap.size, 0, none⟩ = some (.slice A0 F.length c0) := cell_of_heap h.box (j := 0) rfl
theorem LAt.k1 (h : LAt w0 A0 c0 F A1 c1 S A2 c2 T w) : w.cell? ⟨w0.heap.size, 1, none⟩ = some (.slice A1 S.length c1) := cell_of_heap h.box (j := 1) rfl
theorem LAt.k2 (h : LAt w0 A0 c0 F A1 c1 S A2 c2 T w) : w.cell? ⟨w0.heap.size, 2, none⟩ = some (.slice A2 T.length c2) := cell_of_heap h.box (j := 2) rfl
theorem LAt.rows (h : LAt w0 A0 c0 F A1 c1 S A2 c2 T w) : ∀ l, l ∈ T → l.length ≤ 9223372036854775807 := by
 intro l hl
 obtain ⟨j, hj, he⟩ := List.getElem_of_mem hl
 obtain ⟨ad, _, hc⟩ := h.C2.2.2 (by omega)
 obtain ⟨c, _, ⟨A', c', _, _, hC⟩, _⟩ := hc j l (by rw [List.getElem?_eq_getElem hj, he])
 exact hC.2.1
end
end Go.Proofs.Ytkmmihadcbfkoaa
end

section
namespace Go.Proofs.Ytkmmihadcbfkoaa.PM
open Go.RowKit Go.Proofs.YtkmmihadcbfkoaaW.PrintWords Go.Proofs.YtkmmihadcbfkoaaW.PrintLast Go.Proofs.YtkmmihadcbfkoaaW.PrintMore
set_option linter.unusedVariables false
set_option linter.unusedSimpArgs false
def laganref04_SameLists.l0 : Nat → List (List Int) → List (List Int) → Int → Option (Bool)
 | 0, _, _, _ => none
 | k + 1, x0, x1, x5 => if x5 < (x0.length : Int) then (if 0 ≤ x5 then (if x5 < (x1.length : Int) then ((laganref04_SameInts.f k (rd_L1 x0 x5) (rd_L1 x1 x5)).bind fun t223 => (if t223 = true then (laganref04_SameLists.l0 k x0 x1 (wrap64 (x5 + 1))) else (some false))) else (none)) else (none)) else (some true)
def laganref04_SameLists.f (k : Nat) (l0 : List (List Int)) (l1 : List (List Int)) : Option (Bool) := if (l0.length : Int) = (l1.length : Int) then (laganref04_SameLists.l0 k l0 l1 0) else (some false)
set_option maxHeartbeats 8000000 in
set_option maxRecDepth 100000 in
theorem laganref04_SameLists.calls (k : Nat) (A0 : Option Addr) (c0 : Nat) (l0 : List (List Int)) (A1 : Option Addr) (c1 : Nat) (l1 : List (List Int)) (r : Bool) (w : World) (hr0 : Kd.C (Kd.slice 3 (Kd.int .i64)) w A0 l0.length l0) (hc0 : l0.length ≤ c0) (hr1 : Kd.C (Kd.slice 3 (Kd.int .i64)) w A1 l1.length l1) (hc1 : l1.length ≤ c1) (h : laganref04_SameLists.f k l0 l1 = some r) :
  Calls Try.prog 23 #[.slice A0 l0.length c0, .slice A1 l1.length c1] w fun e w' => e = .returned (.bool r) ∧ Drawn0 w w' := by
 have HR0 := Aside0.mk hr0
 have HC0 := Aside0.mk hc0
 clear hr0 hc0
 have HR1 := Aside0.mk hr1
 have HC1 := Aside0.mk hc1
 clear hr1 hc1
 have H : (if (l0.length : Int) = (l1.length : Int) then (laganref04_SameLists.l0 k l0 l1 0) else (some false)) = some r := h
 clear h
 by_cases c3 : (l0.length : Int) = (l1.length : Int)
 rotate_left
 ·
  rw [if_neg c3] at H
  have c3b0 : ((l0.length : Int) == (l1.length : Int)) = false := beq_eq_false_iff_ne.mpr c3
  have c3b1 : ((l0.length : Int) != (l1.length : Int)) = true := bne_iff_ne.mpr c3
  have c3b2 : (l0.length == l1.length) = false := by first | simpa using c3 | (simp at c3 ⊢; omega)
  obtain rfl := Option.some.inj H
  go_enter Try.func23, Try.ntmps23
  go_wp2
  repeat (go_quiet (fail); try go_wp2)
  go_ret
  exact ⟨by first | rfl | (simp; done) | (simp [*]; done), by repeat (first | exact Drawn0.refl _ | apply Drawn0.step)⟩
 rw [if_pos c3] at H
 have c3b0 : ((l0.length : Int) == (l1.length : Int)) = true := beq_iff_eq.mpr c3
 have c3b1 : ((l0.length : Int) != (l1.length : Int)) = false := bne_eq_false_iff_eq.mpr c3
 have c3b2 : (l0.length == l1.length) = true := by first | simpa using c3 | (simp at c3 ⊢; omega)
 clear c3
 have H' := Aside0.mk H
 clear H
 go_enter Try.func23, Try.ntmps23
 go_wp2
 repeat (go_quiet (fail); try go_wp2)
 go_loopg [5] k (fun kq v5 w' => ∃ (x5_1 : Int), v5 = .int .i64 x5_1 ∧ Aside0 (laganref04_SameLists.l0 kq l0 l1 x5_1 = some r) ∧ Aside0 (kq ≤ k) ∧ Drawn0 w w')
 case atStart => exact ⟨(0), (by first | rfl | (simp; done) | (simp [*]; done)), H', ⟨Nat.le_refl _⟩, by repeat (first | exact Drawn0.refl _ | apply Drawn0.step)⟩
 clear H'
 try clear c1
 try clear c2
 try clear p2
 try clear c3
 try clear c3b0
 try clear c3b1
 try clear c3b2
 obtain ⟨x5_1, rfl, HA, HK1, ⟨m1, rfl⟩⟩ := hrel
 cases gk with
 | zero => exact absurd HA.out (by simp [laganref04_SameLists.l0])
 | succ k1 =>
  have H := HA.out
  clear HA
  simp only [laganref04_SameLists.l0] at H
  by_cases c4 : x5_1 < (l0.length : Int)
  rotate_left
  ·
   rw [if_neg c4] at H
   have c4b0 : decide (x5_1 < (l0.length : Int)) = false := decide_eq_false c4
   clear c4
   obtain rfl := Option.some.inj H
   go_wp2
   repeat (go_quiet (fail); try go_wp2)
   go_ret
   exact ⟨by first | rfl | (simp; done) | (simp [*]; done), by repeat (first | exact Drawn0.refl _ | apply Drawn0.step)⟩
  rw [if_pos c4] at H
  have c4b0 : decide (x5_1 < (l0.length : Int)) = true := decide_eq_true c4
  clear c4
  by_cases c5 : 0 ≤ x5_1
  rotate_left
  ·
   rw [if_neg c5] at H
   exact absurd H (by simp)
  rw [if_pos c5] at H
  have c5b0 : decide (0 ≤ x5_1) = true := decide_eq_true c5
  clear c5
  by_cases c6 : x5_1 < (l1.length : Int)
  rotate_left
  ·
   rw [if_neg c6] at H
   exact absurd H (by simp)
  rw [if_pos c6] at H
  have c6b0 : decide (x5_1 < (l1.length : Int)) = true := decide_eq_true c6
  clear c6
  replace H := Option.bind_eq_some_iff.mp H
  obtain ⟨t223, A70, H⟩ := H
  replace H : (if t223 = true then (laganref04_SameLists.l0 k1 l0 l1 (wrap64 (x5_1 + 1))) else (some false)) = some r := H
  have A7 := Aside0.mk A70
  clear A70
  by_cases c8 : t223 = true
  rotate_left
  ·
   replace c8 := Bool.eq_false_iff.mpr c8
   subst c8
   have H1 : (some false) = some r := by rw [if_neg (show ¬ (false = true) by decide)] at H; exact H
   clear H
   have H := H1
   clear H1
   obtain rfl := Option.some.inj H
   have p221 : 0 ≤ (x5_1 : Int) := of_decide_eq_true (by first | (with_reducible assumption) | assumption)
   have q221 : x5_1 < (l0.length : Int) := of_decide_eq_true (by first | (with_reducible assumption) | assumption)
   obtain ⟨ad221, A221_0, c221_0, e221, hx221_0, hl221_0, hi221_0⟩ := at_L1 HR0.out x5_1 p221 q221
   cases e221
   have HR221_0 := Aside0.mk hi221_0
   have HC221_0 := Aside0.mk hl221_0
   clear hi221_0 hl221_0
   replace p221 := eq_true p221
   replace q221 := eq_true q221
   have p222 : 0 ≤ (x5_1 : Int) := of_decide_eq_true (by first | (with_reducible assumption) | assumption)
   have q222 : x5_1 < (l1.length : Int) := of_decide_eq_true (by first | (with_reducible assumption) | assumption)
   obtain ⟨ad222, A222_0, c222_0, e222, hx222_0, hl222_0, hi222_0⟩ := at_L1 HR1.out x5_1 p222 q222
   cases e222
   have HR222_0 := Aside0.mk hi222_0
   have HC222_0 := Aside0.mk hl222_0
   clear hi222_0 hl222_0
   replace p222 := eq_true p222
   replace q222 := eq_true q222
   go_wp2_with (first | (go_at_call 22; (with_reducible refine (laganref04_SameInts.calls k1 _ _ (rd_L1 l0 x5_1) _ _ (rd_L1 l1 x5_1) false _ ?side1 ?side2 ?side3 ?side4 A7.out).mono ?_); (case side1 => repeat (first | exact HR221_0.out | (with_reducible refine Kd.C_alloc ?_ _) | (with_reducible refine Kd.C_drewN ?_ _) | (with_reducible refine Kd.C_drew ?_))); (case side2 => exact HC221_0.out); (case side3 => repeat (first | exact HR222_0.out | (with_reducible refine Kd.C_alloc ?_ _) | (with_reducible refine Kd.C_drewN ?_ _) | (with_reducible refine Kd.C_drew ?_))); (case side4 => exact HC222_0.out); rintro e w' ⟨rfl, ⟨nd, rfl⟩⟩; (try first | exact ⟨rfl, _, World.drewN_drewN _ _ _⟩ | exact ⟨rfl, _, Eq.trans (World.drewN_drewN _ _ _) (congrArg (World.drewN _) (Nat.add_assoc _ _ _))⟩)))
   repeat (go_quiet (first | (go_at_call 22; (with_reducible refine (laganref04_SameInts.calls k1 _ _ (rd_L1 l0 x5_1) _ _ (rd_L1 l1 x5_1) false _ ?side1 ?side2 ?side3 ?side4 A7.out).mono ?_); (case side1 => repeat (first | exact HR221_0.out | (with_reducible refine Kd.C_alloc ?_ _) | (with_reducible refine Kd.C_drewN ?_ _) | (with_reducible refine Kd.C_drew ?_))); (case side2 => exact HC221_0.out); (case side3 => repeat (first | exact HR222_0.out | (with_reducible refine Kd.C_alloc ?_ _) | (with_reducible refine Kd.C_drewN ?_ _) | (with_reducible refine Kd.C_drew ?_))); (case side4 => exact HC222_0.out); rintro e w' ⟨rfl, ⟨nd, rfl⟩⟩; (try first | exact ⟨rfl, _, World.drewN_drewN _ _ _⟩ | exact ⟨rfl, _, Eq.trans (World.drewN_drewN _ _ _) (congrArg (World.drewN _) (Nat.add_assoc _ _ _))⟩))); try go_wp2_with (first | (go_at_call 22; (with_reducible refine (laganref04_SameInts.calls k1 _ _ (rd_L1 l0 x5_1) _ _ (rd_L1 l1 x5_1) false _ ?side1 ?side2 ?side3 ?side4 A7.out).mono ?_); (case side1 => repeat (first | exact HR221_0.out | (with_reducible refine Kd.C_alloc ?_ _) | (with_reducible refine Kd.C_drewN ?_ _) | (with_reducible refine Kd.C_drew ?_))); (case side2 => exact HC221_0.out); (case side3 => repeat (first | exact HR222_0.out | (with_reducible refine Kd.C_alloc ?_ _) | (with_reducible refine Kd.C_drewN ?_ _) | (with_reducible refine Kd.C_drew ?_))); (case side4 => exact HC222_0.out); rintro e w' ⟨rfl, ⟨nd, rfl⟩⟩; (try first | exact ⟨rfl, _, World.drewN_drewN _ _ _⟩ | exact ⟨rfl, _, Eq.trans (World.drewN_drewN _ _ _) (congrArg (World.drewN _) (Nat.add_assoc _ _ _))⟩))))
   go_ret
   exact ⟨by first | rfl | (simp; done) | (simp [*]; done), by repeat (first | exact Drawn0.refl _ | apply Drawn0.step)⟩
  subst c8
  have H1 : (laganref04_SameLists.l0 k1 l0 l1 (wrap64 (x5_1 + 1))) = some r := by rw [if_pos rfl] at H; exact H
  clear H
  have H := H1
  clear H1
  have H' := Aside0.mk H
  clear H
  have p221 : 0 ≤ (x5_1 : Int) := of_decide_eq_true (by first | (with_reducible assumption) | assumption)
  have q221 : x5_1 < (l0.length : Int) := of_decide_eq_true (by first | (with_reducible assumption) | assumption)
  obtain ⟨ad221, A221_0, c221_0, e221, hx221_0, hl221_0, hi221_0⟩ := at_L1 HR0.out x5_1 p221 q221
  cases e221
  have HR221_0 := Aside0.mk hi221_0
  have HC221_0 := Aside0.mk hl221_0
  clear hi221_0 hl221_0
  replace p221 := eq_true p221
  replace q221 := eq_true q221
  have p222 : 0 ≤ (x5_1 : Int) := of_decide_eq_true (by first | (with_reducible assumption) | assumption)
  have q222 : x5_1 < (l1.length : Int) := of_decide_eq_true (by first | (with_reducible assumption) | assumption)
  obtain ⟨ad222, A222_0, c222_0, e222, hx222_0, hl222_0, hi222_0⟩ := at_L1 HR1.out x5_1 p222 q222
  cases e222
  have HR222_0 := Aside0.mk hi222_0
  have HC222_0 := Aside0.mk hl222_0
  clear hi222_0 hl222_0
  replace p222 := eq_true p222
  replace q222 := eq_true q222
  go_wp2_with (first | (go_at_call 22; (with_reducible refine (laganref04_SameInts.calls k1 _ _ (rd_L1 l0 x5_1) _ _ (rd_L1 l1 x5_1) true _ ?side1 ?side2 ?side3 ?side4 A7.out).mono ?_); (case side1 => repeat (first | exact HR221_0.out | (with_reducible refine Kd.C_alloc ?_ _) | (with_reducible refine Kd.C_drewN ?_ _) | (with_reducible refine Kd.C_drew ?_))); (case side2 => exact HC221_0.out); (case side3 => repeat (first | exact HR222_0.out | (with_reducible refine Kd.C_alloc ?_ _) | (with_reducible refine Kd.C_drewN ?_ _) | (with_reducible refine Kd.C_drew ?_))); (case side4 => exact HC222_0.out); rintro e w' ⟨rfl, ⟨nd, rfl⟩⟩; (try first | exact ⟨rfl, _, World.drewN_drewN _ _ _⟩ | exact ⟨rfl, _, Eq.trans (World.drewN_drewN _ _ _) (congrArg (World.drewN _) (Nat.add_assoc _ _ _))⟩)))
  repeat (go_quiet (first | (go_at_call 22; (with_reducible refine (laganref04_SameInts.calls k1 _ _ (rd_L1 l0 x5_1) _ _ (rd_L1 l1 x5_1) true _ ?side1 ?side2 ?side3 ?side4 A7.out).mono ?_); (case side1 => repeat (first | exact HR221_0.out | (with_reducible refine Kd.C_alloc ?_ _) | (with_reducible refine Kd.C_drewN ?_ _) | (with_reducible refine Kd.C_drew ?_))); (case side2 => exact HC221_0.out); (case side3 => repeat (first | exact HR222_0.out | (with_reducible refine Kd.C_alloc ?_ _) | (with_reducible refine Kd.C_drewN ?_ _) | (with_reducible refine Kd.C_drew ?_))); (case side4 => exact HC222_0.out); rintro e w' ⟨rfl, ⟨nd, rfl⟩⟩; (try first | exact ⟨rfl, _, World.drewN_drewN _ _ _⟩ | exact ⟨rfl, _, Eq.trans (World.drewN_drewN _ _ _) (congrArg (World.drewN _) (Nat.add_assoc _ _ _))⟩))); try go_wp2_with (first | (go_at_call 22; (with_reducible refine (laganref04_SameInts.calls k1 _ _ (rd_L1 l0 x5_1) _ _ (rd_L1 l1 x5_1) true _ ?side1 ?side2 ?side3 ?side4 A7.out).mono ?_); (case side1 => repeat (first | exact HR221_0.out | (with_reducible refine Kd.C_alloc ?_ _) | (with_reducible refine Kd.C_drewN ?_ _) | (with_reducible refine Kd.C_drew ?_))); (case side2 => exact HC221_0.out); (case side3 => repeat (first | exact HR222_0.out | (with_reducible refine Kd.C_alloc ?_ _) | (with_reducible refine Kd.C_drewN ?_ _) | (with_reducible refine Kd.C_drew ?_))); (case side4 => exact HC222_0.out); rintro e w' ⟨rfl, ⟨nd, rfl⟩⟩; (try first | exact ⟨rfl, _, World.drewN_drewN _ _ _⟩ | exact ⟨rfl, _, Eq.trans (World.drewN_drewN _ _ _) (congrArg (World.drewN _) (Nat.add_assoc _ _ _))⟩))))
  go_roundg k1
  case measure => have := HK1.out; omega
  case rel => exact ⟨(wrap64 (x5_1 + 1)), (by first | rfl | (simp; done) | (simp [*]; done)), H', ⟨by have := HK1.out; omega⟩, by repeat (first | exact Drawn0.refl _ | apply Drawn0.step)⟩
end Go.Proofs.Ytkmmihadcbfkoaa.PM
end

section
namespace Go.Proofs.Ytkmmihadcbfkoaa
open Go.RowKit Go.Proofs.YtkmmihadcbfkoaaW.PrintWords PM
set_option linter.unusedVariables false
set_option linter.unusedSimpArgs false
section
variable {F : List Int} {S : List S50} {T : List (List Int)}
theorem lists_ev (a : List (List Int)) (ha : a.length ≤ 1000000) (hr : ∀ l, l ∈ a → l.length ≤ 9223372036854775807) (m : Nat) : ∀ i : Nat, a.length - i = m → i ≤ a.length → Ev (fun k => laganref04_SameLists.l0 k a a (i : Int)) true := by
 induction m with
 | zero => exact fun i hm hi => Ev.into (fun k => by rw [laganref04_SameLists.l0]) (Ev.neg (by omega) (Ev.const _))
 | succ m ih =>
  intro i hm hi
  have hlt : i < a.length := by omega
  have hw := wrap_pm (i := (i : Int)) (by omega) (by omega)
  have hrd : rd_L1 a (i : Int) = a[i] := by simp [rd_L1, List.getD_eq_getElem?_getD, List.getElem?_eq_getElem hlt]
  have hs := same_is a[i] a[i] (hr _ (List.getElem_mem hlt))
  rw [decide_eq_true rfl] at hs
  refine Ev.into (fun k => by rw [laganref04_SameLists.l0]) (Ev.pos (by omega) (Ev.pos (by omega) (Ev.pos (by omega) ?_)))
  rw [hrd, hw.1, show (i : Int) + 1 = ((i + 1 : Nat) : Int) by omega]
  exact Ev.bind hs (Ev.pos rfl (ih (i + 1) (by omega) (by omega)))
theorem lists_is (a : List (List Int)) (ha : a.length ≤ 1000000) (hr : ∀ l, l ∈ a → l.length ≤ 9223372036854775807) : Ev (fun k => laganref04_SameLists.f k a a) true :=
 Ev.pos rfl (lists_ev a ha hr a.length 0 (by omega) (by omega))
end
end Go.Proofs.Ytkmmihadcbfkoaa
end

section
namespace Go.Proofs.Ytkmmihadcbfkoaa
open Go.RowKit Go.Proofs.YtkmmihadcbfkoaaW.PrintWords PM
set_option linter.unusedVariables false
set_option linter.unusedSimpArgs false
/-- Two boxes of boards that read alike. -/
structure TwoB (w0 : World) (A0 : Option Addr) (c0 : Nat) (F : List Int) (A1 : Option Addr) (c1 : Nat) (S : List S50) (A2 : Option Addr) (c2 : Nat) (T : List (List Int)) (B0 : Option Addr) (d0 : Nat) (B1 : Option Addr) (d1 : Nat) (B2 : Option Addr) (d2 : Nat) (w : World) : Prop where
 box : w.heap[w0.heap.size]? = some (.cells #[.slice A0 F.length c0, .slice A1 S.length c1, .slice A2 T.length c2] 26 (0, 0))
 box' : w.heap[w0.heap.size + 1]? = some (.cells #[.slice B0 F.length d0, .slice B1 S.length d1, .slice B2 T.length d2] 26 (0, 0))
 B : Below w0.heap.size w0 w
 C0 : Kd.C (Kd.int .i64) w A0 F.length F
 C1 : Kd.C k50 w A1 S.length S
 C2 : Kd.C (Kd.slice 3 (Kd.int .i64)) w A2 T.length T
 D0 : Kd.C (Kd.int .i64) w B0 F.length F
 D1 : Kd.C k50 w B1 S.length S
 D2 : Kd.C (Kd.slice 3 (Kd.int .i64)) w B2 T.length T
section
variable {w0 w w' : World} {A0 : Option Addr} {c0 : Nat} {F : List Int} {A1 : Option Addr} {c1 : Nat} {S : List S50} {A2 : Option Addr} {c2 : Nat} {T : List (List Int)} {B0 : Option Addr} {d0 : Nat} {B1 : Option Addr} {d1 : Nat} {B2 : Option Addr} {d2 : Nat}
theorem TwoB.later (h : TwoB w0 A0 c0 F A1 c1 S A2 c2 T B0 d0 B1 d1 B2 d2 w) (hb : Below w.heap.size w w') : TwoB w0 A0 c0 F A1 c1 S A2 c2 T B0 d0 B1 d1 B2 d2 w' :=
 ⟨(hb.block w0.heap.size (Array.getElem?_eq_some_iff.1 h.box).1).trans h.box, (hb.block (w0.heap.size + 1) (Array.getElem?_eq_some_iff.1 h.box').1).trans h.box', h.B.trans (hb.mono h.B.size), Kd.C_below h.C0 hb, Kd.C_below h.C1 hb, Kd.C_below h.C2 hb, Kd.C_below h.D0 hb, Kd.C_below h.D1 hb, Kd.C_below h.D2 hb⟩
theorem TwoB.k1 (h : TwoB w0 A0 c0 F A1 c1 S A2 c2 T B0 d0 B1 d1 B2 d2 w) : w.cell? ⟨w0.heap.size, 1, none⟩ = some (.slice A1 S.length c1) := cell_of_heap h.box (j := 1) rfl
theorem TwoB.k2 (h : TwoB w0 A0 c0 F A1 c1 S A2 c2 T B0 d0 B1 d1 B2 d2 w) : w.cell? ⟨w0.heap.size, 2, none⟩ = some (.slice A2 T.length c2) := cell_of_heap h.box (j := 2) rfl
theorem TwoB.l1 (h : TwoB w0 A0 c0 F A1 c1 S A2 c2 T B0 d0 B1 d1 B2 d2 w) : w.cell? ⟨w0.heap.size + 1, 1, none⟩ = some (.slice B1 S.length d1) := cell_of_heap h.box' (j := 1) rfl
theorem TwoB.l2 (h : TwoB w0 A0 c0 F A1 c1 S A2 c2 T B0 d0 B1 d1 B2 d2 w) : w.cell? ⟨w0.heap.size + 1, 2, none⟩ = some (.slice B2 T.length d2) := cell_of_heap h.box' (j := 2) rfl
theorem TwoB.start (C0 : Kd.C (Kd.int .i64) w0 A0 F.length F) (C1 : Kd.C k50 w0 A1 S.length S) (C2 : Kd.C (Kd.slice 3 (Kd.int .i64)) w0 A2 T.length T) (D0 : Kd.C (Kd.int .i64) w0 B0 F.length F) (D1 : Kd.C k50 w0 B1 S.length S) (D2 : Kd.C (Kd.slice 3 (Kd.int .i64)) w0 B2 T.length T) :
  TwoB w0 A0 c0 F A1 c1 S A2 c2 T B0 d0 B1 d1 B2 d2 ((w0.alloc (.cells #[.slice A0 F.length c0, .slice A1 S.length c1, .slice A2 T.length c2] 26)).alloc (.cells #[.slice B0 F.length d0, .slice B1 S.length d1, .slice B2 T.length d2] 26)) := by
 have hB := (Below.refl w0.heap.size w0).alloc (Nat.le_refl _) (.cells #[.slice A0 F.length c0, .slice A1 S.length c1, .slice A2 T.length c2] 26)
 have hz : (w0.alloc (.cells #[.slice A0 F.length c0, .slice A1 S.length c1, .slice A2 T.length c2] 26)).heap.size = w0.heap.size + 1 := Array.size_push _
 have hB1 := (Below.refl (w0.alloc (.cells #[.slice A0 F.length c0, .slice A1 S.length c1, .slice A2 T.length c2] 26)).heap.size _).alloc (Nat.le_refl _) (.cells #[.slice B0 F.length d0, .slice B1 S.length d1, .slice B2 T.length d2] 26)
 have hB2 := hB.trans (hB1.mono hB.size)
 have h1 := World.alloc_heap_new w0 (.cells #[.slice A0 F.length c0, .slice A1 S.length c1, .slice A2 T.length c2] 26)
 have h2 := World.alloc_heap_new (w0.alloc (.cells #[.slice A0 F.length c0, .slice A1 S.length c1, .slice A2 T.length c2] 26)) (.cells #[.slice B0 F.length d0, .slice B1 S.length d1, .slice B2 T.length d2] 26)
 rw [hz] at h2
 exact ⟨(hB1.block w0.heap.size (by omega)).trans h1, h2, hB2, Kd.C_below C0 hB2, Kd.C_below C1 hB2, Kd.C_below C2 hB2, Kd.C_below D0 hB2, Kd.C_below D1 hB2, Kd.C_below D2 hB2⟩
end
set_option maxRecDepth 100000 in
set_option maxHeartbeats 8000000 in
theorem sameboard_calls (A0 : Option Addr) (c0 : Nat) (F : List Int) (A1 : Option Addr) (c1 : Nat) (S : List S50) (A2 : Option Addr) (c2 : Nat) (T : List (List Int)) (B0 : Option Addr) (d0 : Nat) (B1 : Option Addr) (d1 : Nat) (B2 : Option Addr) (d2 : Nat) (w : World)
  (hr0 : Kd.C (Kd.int .i64) w A0 F.length F) (hc0 : F.length ≤ c0) (hr1 : Kd.C k50 w A1 S.length S) (hc1 : S.length ≤ c1) (hr2 : Kd.C (Kd.slice 3 (Kd.int .i64)) w A2 T.length T) (hc2 : T.length ≤ c2)
  (hs0 : Kd.C (Kd.int .i64) w B0 F.length F) (hd0 : F.length ≤ d0) (hs1 : Kd.C k50 w B1 S.length S) (hd1 : S.length ≤ d1) (hs2 : Kd.C (Kd.slice 3 (Kd.int .i64)) w B2 T.length T) (hd2 : T.length ≤ d2) (hT : T.length ≤ 1000000) (hRW : ∀ l, l ∈ T → l.length ≤ 9223372036854775807) :
  Calls Try.prog 28 #[.agg #[.slice A0 F.length c0, .slice A1 S.length c1, .slice A2 T.length c2], .agg #[.slice B0 F.length d0, .slice B1 S.length d1, .slice B2 T.length d2]] w fun e w' => e = .returned (.bool true) ∧ Below w.heap.size w w' := by
 have HA := Go.Lib.hid (TwoB.start (c0 := c0) (c1 := c1) (c2 := c2) (d0 := d0) (d1 := d1) (d2 := d2) hr0 hr1 hr2 hs0 hs1 hs2)
 have hz : (w.alloc (.cells #[.slice A0 F.length c0, .slice A1 S.length c1, .slice A2 T.length c2] 26)).heap.size = w.heap.size + 1 := Array.size_push _
 have hsS : S.length ≤ 9223372036854775807 := hr1.2.1
 obtain ⟨KS, hKS⟩ := same_is F F hr0.2.1
 have HKS := Go.Lib.hid (show laganref04_SameInts.f KS F F = some true by have h := hKS KS (Nat.le_refl _); rw [decide_eq_true rfl] at h; exact h)
 obtain ⟨KL, hKL⟩ := lists_is T hT hRW
 have HKL := Go.Lib.hid (hKL KL (Nat.le_refl _))
 have HL := Go.Lib.hid (And.intro hc0 (And.intro hc2 (And.intro hd0 hd2)))
 have g1 : decide ((S.length : Int) = (S.length : Int)) = true := decide_eq_true rfl
 have g2 : ((S.length : Int) != (S.length : Int)) = false := by simp
 clear hr0 hr1 hr2 hs0 hs1 hs2 hc0 hc1 hc2 hd0 hd1 hd2 hT hRW hKS hKL
 go_enter Try.func28, Try.ntmps28
 go_wp2_with fail
 generalize hw1 : ((w.alloc (.cells #[.slice A0 F.length c0, .slice A1 S.length c1, .slice A2 T.length c2] 26)).alloc (.cells #[.slice B0 F.length d0, .slice B1 S.length d1, .slice B2 T.length d2] 26)) = w1 at HA ⊢
 clear hw1 hz
 have CC := laganref04_SameInts.calls KS A0 c0 F B0 d0 F true w1 HA.out.C0 HL.out.1 HA.out.D0 HL.out.2.2.1 HKS.out
 refine CC.mono ?_
 clear CC
 rintro e w2 ⟨rfl, hd⟩
 have hB := hd.below
 clear hd
 replace HA := Go.Lib.hid (HA.out.later hB)
 have k1 := HA.out.k1
 have m1 := HA.out.l1
 clear hB
 go_wp2_with fail
 clear k1 m1
 go_loopw [5] (fun i wr => ∃ k : Nat, k ≤ S.length ∧ i = .int .i64 k ∧ Hid (TwoB w A0 c0 F A1 c1 S A2 c2 T B0 d0 B1 d1 B2 d2 wr)) (fun i _ => S.length - (intOf i).toNat)
 case atStart => exact ⟨0, Nat.zero_le _, rfl, HA⟩
 obtain ⟨k, hk, rfl, HI⟩ := hrel
 clear HA
 have k1 := HI.out.k1
 have k2 := HI.out.k2
 have m1 := HI.out.l1
 have m2 := HI.out.l2
 by_cases hlt : k < S.length
 rotate_left
 ·
  obtain rfl : k = S.length := by omega
  have h20 : decide ((S.length : Int) < (S.length : Int)) = false := decide_eq_false (by omega)
  have CC := laganref04_SameLists.calls KL A2 c2 T B2 d2 T true wr HI.out.C2 HL.out.2.1 HI.out.D2 HL.out.2.2.2 HKL.out
  go_wp2_with fail
  clear k1 k2 m1 m2
  refine CC.mono ?_
  clear CC
  rintro e w3 ⟨rfl, hd⟩
  have hB := hd.below
  have HZ := Go.Lib.hid (HI.out.B.trans (hB.mono HI.out.B.size))
  clear hd hB
  go_wp2_with fail
  go_ret
  exact ⟨rfl, HZ.out⟩
 have h20 : decide ((k : Int) < (S.length : Int)) = true := decide_eq_true (Int.ofNat_lt.2 hlt)
 have w20 := (wrap_pm (i := (k : Int)) (by omega) (by omega)).1
 obtain ⟨a6, e6, u0, u1, u2⟩ := at_T50 HI.out.C1 (k : Int) (by omega) (by omega)
 obtain ⟨a7, e7, v0, v1, v2⟩ := at_T50 HI.out.D1 (k : Int) (by omega) (by omega)
 obtain ⟨p9, hp9⟩ : ∃ p9, rd_T50 S (k : Int) = p9 := ⟨_, rfl⟩
 rw [hp9, Int.toNat_natCast] at u0 u1 u2 v0 v1 v2
 clear hp9 k2 m2
 subst e6; subst e7
 go_wp2_with fail
 go_quiet (fail)
 go_wp2_with fail
 go_roundw
 case rel => exact ⟨k + 1, by omega, by simp, HI.out.later (by repeat (first | exact Below.refl _ _ | refine pw_below_drewN ?_ _))⟩
 case measure => simp [intOf]; omega
end Go.Proofs.Ytkmmihadcbfkoaa
end
