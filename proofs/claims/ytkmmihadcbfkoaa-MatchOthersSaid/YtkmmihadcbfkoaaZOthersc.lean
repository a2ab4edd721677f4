/-
  MatchOthers holds: for every board, find and slot, the law returns true and what it is given reads as it did. (part 3 of 6 of the texts that it stands on)
-/
import Derived.Deep.RegionHeld3
import Derived.Deep.RegionLaw
import Derived.Laws.CopyOwn
import Derived.Laws.MakeOwn
import Derived.Laws.OwnMore
import Derived.WalkLawsBesides
import Derived.WalkSpells
import Derived.Deep.AppendLies
import Derived.Laws.EntriesVeiled
import Derived.Deep.QuietTactic
import Derived.BigQuiet
import Derived.WalkMore
import Derived.Test.YtkmmihadcbfkoaaZOthersb
section
namespace Go.Proofs.Ytkmmihadcbfkoaa
open Go.RowKit Go.Proofs.YtkmmihadcbfkoaaW.PrintWords PM
set_option linter.unusedVariables false
set_option linter.unusedSimpArgs false
theorem mul_one_hi (n : Nat) (h : n ≤ 1000000) : (((1 * n / 18446744073709551616 : Nat)) : Int) = 0 := by
 rw [Nat.one_mul, Nat.div_eq_of_lt (by omega)]; rfl
theorem mul_one_lo (n : Nat) (h : n ≤ 1000000) : (((1 * n % 18446744073709551616 : Nat)) : Int) = (n : Int) := by
 rw [Nat.one_mul, Nat.mod_eq_of_lt (by omega)]
theorem trinfo4 : (Try.prog.info? 4).map (fun i => (i.zero, i.size, i.bytes)) = some (some (.bool false), 1, 1) := by kernel_rfl
/-- 'make' of a row of one-cell elements. -/
theorem make_row {t e : TypeId} {z : Value} {by_ : Nat} (ht : Try.prog.underlying t = some (.slice e)) (hi : (Try.prog.info? e).map (fun i => (i.zero, i.size, i.bytes)) = some (some z, 1, by_)) (hz : z.cells = #[z]) (n : Nat) (hn : (by_ : Int) * (n : Int) ≤ 281474976710656) (hn2 : n ≤ 1000000) (w : World) :
  (Instr.makeSlice t (.int .i64 (n : Int)) (.int .i64 (n : Int))).run Try.prog w = .ok (.slice (some ⟨w.heap.size, 0, none⟩) n n) (w.alloc (.cells (List.replicate n z).toArray e)) := by
 obtain ⟨i0, hi0, hz0, hz1, hz2⟩ := info_parts hi
 have h := run_make (P := Try.prog) w t e i0 z ht hi0 hz0 .i64 .i64 n n (by omega) (Int.le_refl _) (by rw [hz2]; exact hn) (by omega)
 have e : madeCells #[z] n = (List.replicate n z).toArray := by
  apply Array.toList_inj.1
  rw [toList_madeCells_one]
 rw [h, hz, hz1, Int.toNat_natCast, Nat.mul_one, e]
def half (v : Int) (n k : Nat) : List Value := List.replicate k (.int .i64 v) ++ List.replicate (n - k) (.int .i64 0)
theorem half_length {v : Int} {n k : Nat} (h : k ≤ n) : (half v n k).length = n := by simp [half]; omega
theorem half_splice {v : Int} {n k m : Nat} (h : k + m ≤ n) : splice (half v n k) k (List.replicate m (Value.int .i64 v)) = half v n (k + m) := by
 unfold splice half
 rw [List.take_append_of_le_length (by simp), List.drop_append]
 simp only [List.length_replicate, List.take_replicate, List.drop_replicate, Nat.min_self]
 rw [show k - (k + m) = 0 from by omega, show n - k - (k + m - k) = n - (k + m) from by omega, List.replicate_zero, List.nil_append, ← List.append_assoc, List.replicate_append_replicate]
theorem half_get {v : Int} {n k j : Nat} (h : j < k) : (half v n k)[j]? = some (Value.int .i64 v) := by
 unfold half
 rw [List.getElem?_append_left (by simpa using h)]
 simp [h]
theorem half_zero (v : Int) (n : Nat) : half v n 0 = List.replicate n (Value.int .i64 0) := by simp [half]
theorem half_all (v : Int) (n : Nat) : half v n n = List.replicate n (Value.int .i64 v) := by simp [half]
set_option maxRecDepth 100000 in
set_option maxHeartbeats 2000000 in
theorem repeat_calls (b : Nat) (v : Int) (n : Nat) (hn : n ≤ 1000000) (w : World) (hc : w.cell? ⟨b, 0, none⟩ = some (.int .i64 v)) :
  Calls Try.prog 54 #[.slice (some ⟨b, 0, none⟩) 1 1, .int .i64 n] w fun e w' => ∃ bh, e = .returned (.slice (some ⟨bh, 0, none⟩) n n) ∧ w.heap.size ≤ bh ∧ w'.heap[bh]? = some (.cells (List.replicate n (Value.int .i64 v)).toArray 3 (0, 0)) ∧ Below w.heap.size w w' := by
 have h1 := mul_one_hi n hn
 have h2 := mul_one_lo n hn
 have MU := Try.bits_Mul 1 n (by omega) (by omega) w
 rw [h1, h2] at MU
 clear h1 h2
 have hmk := make_row (t := 22) (e := 3) Try.underlying22 itinfo3 rfl n (by show (8 : Int) * (n : Int) ≤ _; omega) hn w
 have hbl := World.block_lt_of_cell? w _ hc
 go_enter Try.func54, Try.ntmps54
 go_wp2_with fail
 refine MU.mono ?_
 clear MU
 rintro e w' ⟨rfl, rfl⟩
 have hg := World.alloc_heap_new w' (.cells (List.replicate n (Value.int .i64 0)).toArray 3)
 have hB := (Below.refl w'.heap.size w').alloc (Nat.le_refl _) (.cells (List.replicate n (Value.int .i64 0)).toArray 3)
 have hc1 := (hB.cell (p := ⟨b, 0, none⟩) hbl).trans hc
 rw [← half_zero v] at hg hB hc1 hmk
 have HG := Go.Lib.hid hg
 have HB := Go.Lib.hid hB
 have HC := Go.Lib.hid hc1
 clear hg hB hc1
 obtain ⟨k0, hk0e⟩ : ∃ k0, k0 = Nat.min 1 n := ⟨_, rfl⟩
 have hkk : k0 ≤ n ∧ k0 ≤ 1 ∧ (0 < k0 ∨ n = 0) := by rw [hk0e]; refine ⟨Nat.min_le_right _ _, Nat.min_le_left _ _, ?_⟩; show 0 < min 1 n ∨ n = 0; omega
 have HKE := Go.Lib.hid hk0e
 have HKK := Go.Lib.hid hkk
 clear hk0e hkk
 go_wp2_with (with_reducible refine wpList_copy_splice rfl _ _ 22 22 rfl 3 Try.underlying22 (by kernel_rfl) (some ⟨w'.heap.size, 0, none⟩) (some ⟨b, 0, none⟩) n n 1 1 rfl rfl w'.heap.size 0 (half v n 0) 3 HG.out (List.replicate k0 (Value.int .i64 v)) (by rw [List.length_replicate]; exact HKE.out) ?_ ?_ ?_ w'.heap.size w' HB.out (Nat.le_refl _) ?_)
 ·
  intro h0 j u hj
  have : j < 1 := by
   have := (List.getElem?_eq_some_iff.1 hj).1
   have h1 := HKK.out.2.1
   simp at this
   omega
  obtain rfl : j = 0 := by omega
  have hju : u = .int .i64 v := by
   have := List.mem_of_getElem? hj
   exact (List.mem_replicate.1 this).2
  rw [hju]
  exact hc
 ·
  have := HKK.out.1
  rw [half_length (by omega), List.length_replicate]; omega
 ·
  intro u hu; rw [(List.mem_replicate.1 hu).2]; rfl
 intro w1 hg1 hb1
 rw [half_splice (by have := HKK.out.1; omega), Nat.zero_add] at hg1
 have hk0 : k0 ≤ n ∧ (0 < k0 ∨ n = 0) := ⟨HKK.out.1, HKK.out.2.2⟩
 have HG1 := Go.Lib.hid hg1
 have HB1 := Go.Lib.hid hb1
 have HK := Go.Lib.hid hk0
 clear hg1 hb1 hk0 hmk
 go_wp2_with fail
 go_loopw [8] (fun i wr => ∃ k : Nat, i = .int .i64 k ∧ Hid (k ≤ n ∧ (0 < k ∨ n = 0)) ∧ Hid (wr.heap[w'.heap.size]? = some (.cells (half v n k).toArray 3 (0, 0))) ∧ Below w'.heap.size w' wr) (fun i _ => n - (intOf i).toNat)
 case atStart => exact ⟨k0, rfl, HK.out, HG1.out, HB1.out⟩
 obtain ⟨k, rfl, HK2, HG2, hb2⟩ := hrel
 obtain ⟨hk1, hk2⟩ := HK2.out
 by_cases hlt : k < n
 rotate_left
 ·
  obtain rfl : k = n := by omega
  have HB2 := Go.Lib.hid hb2
  clear hb2 hk2
  go_wp2_with fail
  go_ret
  exact ⟨w'.heap.size, rfl, Nat.le_refl _, by rw [← half_all]; exact HG2.out, HB2.out⟩
 have hkp : 0 < k := by omega
 have HB2 := Go.Lib.hid hb2
 clear hb2 hk2
 go_wp2_with fail
 have HG3 : Hid (wr.drew.heap[w'.heap.size]? = some (.cells (half v n k).toArray 3 (0, 0))) := HG2
 have HB3 := Go.Lib.hid (HB2.out.drew)
 have hle : Nat.min k (n - k) ≤ k := Nat.min_le_left _ _
 have hle2 : Nat.min k (n - k) ≤ n - k := Nat.min_le_right _ _
 have hpos : 0 < Nat.min k (n - k) := by show 0 < min k (n - k); omega
 have S1 : 0 < (List.replicate (Nat.min k (n - k)) (Value.int .i64 v)).length → (some (⟨w'.heap.size, k, none⟩ : Addr)) = some ⟨w'.heap.size, k, none⟩ ∧ ∃ ad, (some (⟨w'.heap.size, 0, none⟩ : Addr)) = some ad ∧ ∀ j u, (List.replicate (Nat.min k (n - k)) (Value.int .i64 v))[j]? = some u → wr.drew.cell? (ad.add j) = some u := by
  intro _
  refine ⟨rfl, _, rfl, fun j u hj => ?_⟩
  have hjl := (List.getElem?_eq_some_iff.1 hj).1
  rw [List.length_replicate] at hjl
  have hju : u = .int .i64 v := (List.mem_replicate.1 (List.mem_of_getElem? hj)).2
  rw [hju, add_plain]
  have hg := HG2.out
  have hh := half_get (v := v) (n := n) (k := k) (j := j) (by omega)
  show wr.cell? _ = _
  simp only [World.cell?, hg]
  simpa using hh
 have S2 : k + (List.replicate (Nat.min k (n - k)) (Value.int .i64 v)).length ≤ (half v n k).length := by rw [half_length hk1, List.length_replicate]; omega
 have S3 : ∀ u ∈ List.replicate (Nat.min k (n - k)) (Value.int .i64 v), u.oneCell' = true := by
  intro u hu
  rw [(List.mem_replicate.1 hu).2]; rfl
 have S0 : (List.replicate (Nat.min k (n - k)) (Value.int .i64 v)).length = Nat.min k (n - k) := List.length_replicate
 obtain ⟨m, hm⟩ : ∃ m, m = Nat.min k (n - k) := ⟨_, rfl⟩
 have HM := Go.Lib.hid hm
 rw [← hm] at S1 S2 S3 hle hle2 hpos
 replace S0 : (List.replicate m (Value.int .i64 v)).length = Nat.min k (n - k) := by rw [List.length_replicate]; exact hm
 have hnk : ¬ n = k := by omega
 have HS0 := Go.Lib.hid S0
 have HS1 := Go.Lib.hid S1
 have HS2 := Go.Lib.hid S2
 have HS3 := Go.Lib.hid S3
 clear hm S0 S1 S2 S3
 go_region_held3 (fun w' => True) (first | trivial) ((refine step_copy_splice (by rfl) _ _ 22 22 (by rfl) 3 Try.underlying22 (by kernel_rfl) (some ⟨w'.heap.size, k, none⟩) (some ⟨w'.heap.size, 0, none⟩) (n - k) (n - k) k n (by rfl) (by rfl) w'.heap.size k (half v n k) 3 HG3.out (List.replicate m (Value.int .i64 v)) HS0.out HS1.out HS2.out HS3.out w'.heap.size w' HB3.out (Nat.le_refl _) ?_; intro w2 hg2 hb2))
 rw [half_splice (by omega)] at hg2
 have hwr : IntKind.i64.wrap ((k : Int) + (m : Int)) = (k : Int) + (m : Int) := by rw [IntKind.wrap_i64]; omega
 have HG5 := Go.Lib.hid hg2
 have HB5 := Go.Lib.hid hb2
 clear hg2 hb2
 go_wp2_with fail
 go_roundw
 case rel => exact ⟨k + m, by simp [hwr], ⟨by omega, by omega⟩, HG5.out, HB5.out⟩
 case measure => simp [intOf, hwr]; omega
def rooms (l : List S50) : List Int := l.map fun s => s.f2
/-- A new trial: at g; its finds' slots at bh, its slots' room at vr. -/
structure Trial (n0w : Nat) (s0 s1 s2 : Value) (room : List Int) (nh : Nat) (g bh : Nat) (vr : Value) (ch : Nat) (w : World) : Prop where
 gb : w.heap[g]? = some (.cells #[s0, s1, s2, vr, .slice (some ⟨bh, 0, none⟩) nh ch] 80 (0, 0))
 gl : n0w ≤ g
 hl : n0w ≤ bh
 room : w.ownsRow n0w 3 1 vr room.length (room.map (Value.int .i64))
 ne : vr.ownBlock ≠ some bh
set_option maxRecDepth 100000 in
set_option maxHeartbeats 4000000 in
theorem tried_calls (A0 : Option Addr) (n0 c0 : Nat) (A1 : Option Addr) (c1 : Nat) (l1 : List S50) (A2 : Option Addr) (n2 c2 : Nat) (w : World) (hn0 : n0 ≤ 1000000) (hn1 : l1.length ≤ 1000000) (hr1 : Kd.C k50 w A1 l1.length l1) :
  Calls Try.prog 60 #[.agg #[.slice A0 n0 c0, .slice A1 l1.length c1, .slice A2 n2 c2]] w fun e w' => ∃ g bh vr, e = .returned (.pointer (some ⟨g, 0, none⟩)) ∧ Trial w.heap.size (.slice A0 n0 c0) (.slice A1 l1.length c1) (.slice A2 n2 c2) (rooms l1) n0 g bh vr n0 w' ∧ RowAt w' bh 3 (Value.int .i64) (List.replicate n0 (-1)) ∧ Below w.heap.size w w' := by
 have HR1 := Go.Lib.hid hr1
 clear hr1
 go_enter Try.func60, Try.ntmps60
 go_wp2_with fail
 have b0 := World.alloc_heap_new w (.cells #[.slice A0 n0 c0, .slice A1 l1.length c1, .slice A2 n2 c2] 26)
 have e0 : (w.alloc (.cells #[.slice A0 n0 c0, .slice A1 l1.length c1, .slice A2 n2 c2] 26)).cell? ⟨w.heap.size, 0, none⟩ = some (.slice A0 n0 c0) := cell_of_heap b0 rfl
 have e1 : (w.alloc (.cells #[.slice A0 n0 c0, .slice A1 l1.length c1, .slice A2 n2 c2] 26)).cell? ⟨w.heap.size, 1, none⟩ = some (.slice A1 l1.length c1) := cell_of_heap b0 rfl
 have e2 : (w.alloc (.cells #[.slice A0 n0 c0, .slice A1 l1.length c1, .slice A2 n2 c2] 26)).cell? ⟨w.heap.size, 2, none⟩ = some (.slice A2 n2 c2) := cell_of_heap b0 rfl
 have hB0 := (Below.refl w.heap.size w).alloc (Nat.le_refl _) (.cells #[.slice A0 n0 c0, .slice A1 l1.length c1, .slice A2 n2 c2] 26)
 obtain ⟨w1, hw1⟩ : ∃ w1, w.alloc (.cells #[.slice A0 n0 c0, .slice A1 l1.length c1, .slice A2 n2 c2] 26) = w1 := ⟨_, rfl⟩
 have hsz : w1.heap.size = w.heap.size + 1 := by rw [← hw1]; simp
 rw [hw1] at e0 e1 e2 hB0 ⊢
 have HB0 := Go.Lib.hid hB0
 have HW1 := Go.Lib.hid hw1
 have hlt1 : w.heap.size < w1.heap.size := by omega
 have HSZ := Go.Lib.hid hsz
 have hcm : (w1.alloc (.cells #[.int .i64 (-1)] 3)).drew.cell? ⟨w1.heap.size, 0, none⟩ = some (.int .i64 (-1)) := (Boxed.new w1 3 (.int .i64 (-1))).cell
 have RC := repeat_calls w1.heap.size (-1) n0 hn0 _ hcm
 have hBm := below_of_drew ((Below.refl w.heap.size (w1.alloc (.cells #[.int .i64 (-1)] 3)).drew))
 have HB1 := Go.Lib.hid (hB0.alloc (by omega) (.cells #[.int .i64 (-1)] 3))
 clear b0 hB0 hw1 hsz hcm hBm
 go_region_held3 (fun w' => w'.cell? ⟨w.heap.size, 0, none⟩ = some (.slice A0 n0 c0) ∧ w'.cell? ⟨w.heap.size, 1, none⟩ = some (.slice A1 l1.length c1) ∧ w'.cell? ⟨w.heap.size, 2, none⟩ = some (.slice A2 n2 c2))
  (go_keep)
  (first | (go_at_call 54; refine RC.mono ?_; rintro e w2 ⟨bh, rfl, hbh, hrow, hb2⟩; have hb := below_of_drew hb2; clear hb2; have k1 := hb.cell (p := ⟨w.heap.size, 0, none⟩) (by simp; omega); have k2 := hb.cell (p := ⟨w.heap.size, 1, none⟩) (by simp; omega); have k3 := hb.cell (p := ⟨w.heap.size, 2, none⟩) (by simp; omega)))
 have hszr : w1.heap.size ≤ bh := by simp at hbh; omega
 have hbl : bh < w2.heap.size := (Array.getElem?_eq_some_iff.1 hrow).1
 have hBw2 : Below w.heap.size w w2 := HB1.out.trans ⟨hb.os, hb.tape, hb.output, hb.size, fun k hk => hb.block k (by simp; omega)⟩
 have hrow2 : RowAt w2 bh 3 (Value.int .i64) (List.replicate n0 (-1)) := ⟨_, hrow, fun j hj => by simp at hj; simp [hj]⟩
 have HROW := Go.Lib.hid hrow2
 have HBW2 := Go.Lib.hid hBw2
 clear hrow hrow2 hBw2 hb k1 k2 k3 hbh RC
 go_wp2_with fail
 obtain ⟨g, hg⟩ : ∃ g, w2.heap.size = g := ⟨_, rfl⟩
 obtain ⟨w3, hw3⟩ : ∃ w3, w2.alloc (.cells #[.slice A0 n0 c0, .slice A1 l1.length c1, .slice A2 n2 c2, .slice none 0 0, .slice (some ⟨bh, 0, none⟩) n0 n0] 80) = w3 := ⟨_, rfl⟩
 have hB3 : Below w.heap.size w w3 := by rw [← hw3]; exact HBW2.out.alloc (HBW2.out.size) _
 have hRow3 : RowAt w3 bh 3 (Value.int .i64) (List.replicate n0 (-1)) := by rw [← hw3]; exact HROW.out.below ((Below.refl _ _).alloc (Nat.le_refl _) _)
 have hT3 : Trial w.heap.size (.slice A0 n0 c0) (.slice A1 l1.length c1) (.slice A2 n2 c2) ((rooms l1).take 0) n0 g bh (.slice none 0 0) n0 w3 := by
  rw [← hw3, ← hg]
  exact ⟨World.alloc_heap_new _ _, HBW2.out.size, by omega, by simpa using World.ownsRow_nil _ _ _ _, by simp [Value.ownBlock]⟩
 rw [hw3, hg]
 have hne : bh ≠ g := by omega
 have hle1 : (l1.length : Int) ≤ 9223372036854775807 := by omega
 have HT3 := Go.Lib.hid hT3
 have HR3 := Go.Lib.hid hRow3
 have HB3 := Go.Lib.hid hB3
 have HG := Go.Lib.hid hg
 have HW3 := Go.Lib.hid hw3
 clear hT3 hRow3 hB3 hg hw3 hbl
 obtain ⟨i0, hi0, hz0, hz1, hz2⟩ := info_parts itinfo3
 go_loopw [17] (fun i wr => ∃ k : Nat, k ≤ l1.length ∧ i = .int .i64 k ∧ Hid (∃ vr, Trial w.heap.size (.slice A0 n0 c0) (.slice A1 l1.length c1) (.slice A2 n2 c2) ((rooms l1).take k) n0 g bh vr n0 wr ∧ RowAt wr bh 3 (Value.int .i64) (List.replicate n0 (-1)) ∧ Below w.heap.size w wr)) (fun i _ => l1.length - (intOf i).toNat)
 case atStart => exact ⟨0, Nat.zero_le _, rfl, ⟨_, HT3.out, HR3.out, HB3.out⟩⟩
 obtain ⟨k, hk, rfl, HID⟩ := hrel
 obtain ⟨vr, hT, hRo, hBo⟩ := HID.out
 by_cases hlt : k < l1.length
 rotate_left
 ·
  obtain rfl : k = l1.length := by omega
  have hlr : (rooms l1).take l1.length = rooms l1 := List.take_of_length_le (by simp [rooms])
  rw [hlr] at hT
  have HT := Go.Lib.hid hT
  have HRo := Go.Lib.hid hRo
  have HBo := Go.Lib.hid hBo
  clear hT hRo hBo HID hlr
  go_wp2_with fail
  go_ret
  exact ⟨g, bh, vr, rfl, HT.out, HRo.out, HBo.out⟩
 obtain ⟨a9, e9, x0, x1, x2⟩ := at_T50 (Kd.C_below HR1.out hBo) (k : Int) (by omega) (by omega)
 rw [Int.toNat_natCast] at x0 x1 x2
 obtain ⟨s9, hs9⟩ : ∃ s9, rd_T50 l1 (k : Int) = s9 := ⟨_, rfl⟩
 rw [hs9] at x0 x1 x2
 have hgne : vr.ownBlock ≠ some g := fun e => by
  obtain ⟨cells, hcl⟩ := own_typed hT.room g e
  have hg2 := hT.gb
  rw [hcl] at hg2
  injection hg2 with hg2
  injection hg2 with _ hg2
  exact absurd hg2 (by decide)
 have hlr : ((rooms l1).take k).length = k := by simp [rooms]; omega
 obtain ⟨A7, c7, e7⟩ := own_slice hT.room
 rw [hlr] at e7
 have z1 : wr.cell? ⟨g, 3, none⟩ = some (.slice A7 k c7) := by rw [← e7]; exact cell_of_heap hT.gb rfl
 have z2 : wr.frozen? ⟨g, 3, none⟩ = false := frozen_of_heap hT.gb
 have hgl := (Array.getElem?_eq_some_iff.1 hT.gb).1
 have HS9 := Go.Lib.hid hs9
 have HT := Go.Lib.hid hT
 have HRo := Go.Lib.hid hRo
 have HBo := Go.Lib.hid hBo
 have HGN := Go.Lib.hid hgne
 have HE7 := Go.Lib.hid e7
 have HLR := Go.Lib.hid hlr
 clear hs9 hT hRo hBo HID hgne e7 hlr
 subst e9
 go_wp2_with fail
 obtain ⟨w4, hw4⟩ : ∃ w4, wr.alloc (.cells #[.int .i64 s9.f0, .int .i64 s9.f1, .int .i64 s9.f2] 50) = w4 := ⟨_, rfl⟩
 have hB4 := (Below.refl wr.heap.size wr).alloc (Nat.le_refl _) (.cells #[.int .i64 s9.f0, .int .i64 s9.f1, .int .i64 s9.f2] 50)
 have b4 := World.alloc_heap_new wr (.cells #[.int .i64 s9.f0, .int .i64 s9.f1, .int .i64 s9.f2] 50)
 have hsz4 : w4.heap.size = wr.heap.size + 1 := by rw [← hw4]; simp
 rw [hw4] at hB4 b4 ⊢
 have y1 := (hB4.cell (p := ⟨g, 3, none⟩) hgl).trans z1
 have y2 := (hB4.frozen (p := ⟨g, 3, none⟩) hgl).trans z2
 have y3 : w4.cell? ⟨wr.heap.size, 2, none⟩ = some (.int .i64 s9.f2) := cell_of_heap b4 rfl
 have hown4 := pw_own_below (HT.out.room) hB4
 rw [HE7.out, HLR.out] at hown4
 have hgl4 : g < w4.heap.size := by omega
 have hrl4 : wr.heap.size < w4.heap.size := by omega
 have HB4 := Go.Lib.hid hB4
 have HO4 := Go.Lib.hid hown4
 have hgn7 : (Value.slice A7 k c7).ownBlock ≠ some g := by rw [← HE7.out]; exact HGN.out
 have HG7 := Go.Lib.hid hgn7
 have hgn8 : (Value.slice A7 k c7).ownBlock ≠ some wr.heap.size := fun e => by
  rw [← HE7.out] at e
  exact absurd (own_lt HT.out.room _ e) (by omega)
 have HG8 := Go.Lib.hid hgn8
 clear hgn8
 have hb4l : w.heap.size ≤ w4.heap.size := Nat.le_trans HBo.out.size (by omega)
 have HSZ4 := Go.Lib.hid hsz4
 have y4 : (w4.alloc (.cells #[.int .i64 s9.f2] 3)).drew.frozen? ⟨g, 3, none⟩ = false := (((Below.refl w4.heap.size w4).alloc (Nat.le_refl _) (.cells #[.int .i64 s9.f2] 3)).frozen (p := ⟨g, 3, none⟩) hgl4).trans y2
 clear hB4 b4 hown4 hw4 z1 z2 x0 x1 x2 hgn7 hsz4
 have s1 : k + 1 ≤ maxLen := by unfold maxLen; omega
 have s2 : (k + 1) * 8 ≤ 140737488355328 := by omega
 have s3 : w.heap.size ≤ (w4.alloc (.cells #[.int .i64 s9.f2] 3)).drew.heap.size := by simp; omega
 have s4 : (w4.alloc (.cells #[.int .i64 s9.f2] 3)).drew.heap.size = w4.heap.size + 1 := by simp
 have s5 : ∀ u ∈ [Value.int .i64 s9.f2], u.oneCell' = true := by simp [Value.oneCell']
 have S4 := Go.Lib.hid s4
 have S5 := Go.Lib.hid s5
 clear s4 s5
 go_region_law ((refine step_append_lies _ (by rfl) _ _ 22 (by rfl) w.heap.size 3 i0 _ 1 8 Try.underlying22 hi0 hz0 hz1 hz2 rfl (by omega) (.slice A7 k c7) k _ (by rfl) ((HO4.out.alloc _).drew) ⟨w4.heap.size, 0, none⟩ 1 1 [.int .i64 s9.f2] (by rfl) (by rfl) (World.news_of_block (cs := #[.int .i64 s9.f2]) (t := 3) (fr := (0, 0)) (heap_alloc_new w4 _)) S5.out (by omega) s1 s2 s3 (w4.heap.size + 1) S4.out ?_; intro gg cap w5 hown5 hgrow hat hltg; have k1 := (hgrow.cell_far ⟨g, 3, none⟩ (by simp; omega) (Ne.symm HG7.out)).trans ((((Below.refl w4.heap.size w4).alloc (Nat.le_refl _) (.cells #[.int .i64 s9.f2] 3)).cell (p := ⟨g, 3, none⟩) hgl4).trans y1); have k2 := (hgrow.frozen_far ⟨g, 3, none⟩ (by simp; omega) (Ne.symm HG7.out)).trans y4))
 all_goals
  have HO5 := Go.Lib.hid hown5
  have HGR := Go.Lib.hid hgrow
  have HAT := Go.Lib.hid hat
  clear hown5 hgrow hat
  go_wp2_with fail
  go_roundw
  case rel =>
   have hB4' := HB4.out
   have hgb4 : w4.heap[g]? = some (.cells #[.slice A0 n0 c0, .slice (some a9) l1.length c1, .slice A2 n2 c2, .slice A7 k c7, .slice (some ⟨bh, 0, none⟩) n0 n0] 80 (0, 0)) := by
    rw [← HE7.out]; exact (hB4'.block g hgl).trans HT.out.gb
   have hnegg : gg ≠ g := fun e => by
    rcases HAT.out with h | h
    ·
     rw [e] at h; exact HG7.out h
    ·
     omega
   have hbhl : bh < wr.heap.size := HRo.out.lt
   have hnegb : gg ≠ bh := fun e => by
    rcases HAT.out with h | h
    ·
     rw [e, ← HE7.out] at h; exact HT.out.ne h
    ·
     omega
   have hblk : ∀ q, q < w4.heap.size → some q ≠ (Value.slice A7 k c7).ownBlock → w5.heap[q]? = w4.heap[q]? := fun q hq hn => (HGR.out.block q (by simp; omega) hn).trans (Below.heap_alloc _ _ _ hq)
   have hB5 : Below w.heap.size w w5 := by
    refine (HBo.out.trans (hB4'.mono HBo.out.size)).trans ⟨HGR.out.os, HGR.out.tape, HGR.out.output, ?_, fun q hq => hblk q (by omega) fun e => ?_⟩
    ·
     have := HGR.out.size; simp at this; omega
    ·
     have := own_base HO4.out q e.symm; omega
   have hgb5 : w5.heap[g]? = some (.cells #[.slice A0 n0 c0, .slice (some a9) l1.length c1, .slice A2 n2 c2, .slice A7 k c7, .slice (some ⟨bh, 0, none⟩) n0 n0] 80 (0, 0)) := (hblk g (by omega) (Ne.symm HG7.out)).trans hgb4
   refine ⟨k + 1, by omega, by simp, ⟨.slice (some ⟨gg, 0, none⟩) (k + 1) cap, ⟨?_, HT.out.gl, HT.out.hl, ?_, ?_⟩, ?_, ?_⟩⟩
   ·
    simp [World.setCell, Array.getElem?_modify, hgb5]
   ·
    have htk : (rooms l1).take (k + 1) = (rooms l1).take k ++ [s9.f2] := by
     rw [List.take_succ_eq_append_getElem (by simp [rooms]; omega)]
     congr 2
     rw [← HS9.out]
     simp [rooms, rd_T50, List.getD_eq_getElem?_getD, List.getElem?_eq_getElem hlt]
    rw [htk, List.length_append, HLR.out, List.map_append]
    exact own_move HO5.out fun q hq => by
     have : gg = q := by simpa [Value.ownBlock] using hq
     subst this
     exact Below.heap_setCell _ _ _ _ hnegg
   ·
    simp [Value.ownBlock]; exact hnegb
   ·
    refine HRo.out.same ?_
    rw [Below.heap_setCell _ _ _ _ (show bh ≠ (⟨g, 3, none⟩ : Addr).block from hne)]
    exact (hblk bh (by omega) (fun e => HT.out.ne (by rw [HE7.out]; exact e.symm))).trans (hB4'.block bh hbhl)
   ·
    exact hB5.setCell (p := ⟨g, 3, none⟩) HT.out.gl _
  case measure => simp [intOf]; omega
end Go.Proofs.Ytkmmihadcbfkoaa
end

section
namespace Go.Proofs.Ytkmmihadcbfkoaa
open Go.RowKit Go.Sort Go.Proofs.YtkmmihadcbfkoaaW.PrintWords
set_option linter.unusedVariables false
set_option linter.unusedSimpArgs false
theorem own_holds {w : World} {base g n cap : Nat} {zs : List Int} (h : w.ownsRow base 3 1 (.slice (some ⟨g, 0, none⟩) n cap) n (zs.map (Value.int .i64))) : Holds (Value.int .i64) w g 0 zs.toArray := by
 intro j hj
 have hj' : j < zs.length := by simpa using hj
 have hl : zs.length = n := by have := h.1; simpa using this
 have hc := h.cells (g := g) rfl j (.int .i64 zs[j]) (by simp [List.getElem?_eq_getElem hj'])
 refine ⟨?_, ?_⟩
 ·
  rw [Nat.zero_add]
  rw [add_plain] at hc
  rw [hc]
  congr 2
  rw [getElem!_pos _ j hj]
  simp
 rcases h.2 with ⟨h1, _⟩ | ⟨g', cap', cur, h1, _, hh, _⟩
 ·
  cases h1
 injection h1 with h1
 injection h1 with h1
 injection h1 with h1
 subst h1
 exact frozen_of_heap hh
theorem own_put {w : World} {base g n cap : Nat} {xs : List Value} (h : w.ownsRow base 3 1 (.slice (some ⟨g, 0, none⟩) n cap) n xs) (d : Array Int) (hd : d.size = n) (q : Nat) (os : Array Obj) :
  (grow (putRow (Value.int .i64) (Sort.ahead w q) g 0 d) os).ownsRow base 3 1 (.slice (some ⟨g, 0, none⟩) n cap) n (d.toList.map (Value.int .i64)) ∧ w.grownBy (grow (putRow (Value.int .i64) (Sort.ahead w q) g 0 d) os) (some g) := by
 rcases h.2 with ⟨h1, _⟩ | ⟨g', cap', cur, h1, hb, hh, h3, h4, h5, h6⟩
 ·
  cases h1
 injection h1 with h1 h1b h1c
 injection h1 with h1
 injection h1 with h1
 subst h1; subst h1c
 have hgl := (Array.getElem?_eq_some_iff.1 hh).1
 have hheap : ∀ k, (putRow (Value.int .i64) (Sort.ahead w q) g 0 d).heap[k]? = if k = g then some (.cells (putCells (Value.int .i64) 0 d cur) 3 (0, 0)) else w.heap[k]? := fun k => by
  show (w.heap.modify g _)[k]? = _
  rw [Array.getElem?_modify]
  by_cases e : g = k
  ·
   subst e
   simp [hh, onCells]
  ·
   simp [e, Ne.symm e]
 have hsz : (putRow (Value.int .i64) (Sort.ahead w q) g 0 d).heap.size = w.heap.size := by
  show (w.heap.modify g _).size = _
  simp
 have hgr : ∀ k, k < w.heap.size → (grow (putRow (Value.int .i64) (Sort.ahead w q) g 0 d) os).heap[k]? = (putRow (Value.int .i64) (Sort.ahead w q) g 0 d).heap[k]? := fun k hk => by
  show ((putRow (Value.int .i64) (Sort.ahead w q) g 0 d).heap ++ os)[k]? = _
  rw [Array.getElem?_append_left (by omega)]
 refine ⟨⟨by simp [hd], .inr ⟨g, cap, putCells (Value.int .i64) 0 d cur, rfl, hb, ?_, h3, h4, by simp [putCells, h5], ?_⟩⟩, ⟨rfl, rfl, rfl, ?_, ?_⟩⟩
 ·
  rw [hgr g hgl, hheap g, if_pos rfl]
 ·
  apply List.ext_getElem?
  intro j
  by_cases hj : j < n
  rotate_left
  ·
   rw [List.getElem?_eq_none (by simp; omega), List.getElem?_eq_none (by simp; omega)]
  have hj2 : j < cur.size := by omega
  rw [List.getElem?_take, if_pos (by omega), Array.getElem?_toList]
  simp only [putCells, Array.getElem?_mapIdx, Array.getElem?_eq_getElem hj2, Option.map_some]
  rw [if_pos ⟨Nat.zero_le _, by omega⟩, Nat.sub_zero, getElem!_pos d j (by omega)]
  simp [List.getElem?_map, Array.getElem?_eq_getElem (show j < d.size by omega)]
 ·
  show w.heap.size ≤ (grow _ os).heap.size
  rw [size_grow, hsz]
  omega
 intro k hk hne
 rw [hgr k hk, hheap k, if_neg (fun e => hne (by rw [e]))]
theorem own_shrink {w : World} {base g n m cap : Nat} {xs : List Value} (h : w.ownsRow base 3 1 (.slice (some ⟨g, 0, none⟩) n cap) n xs) (hm : m ≤ n) : w.ownsRow base 3 1 (.slice (some ⟨g, 0, none⟩) m cap) m (xs.take m) := by
 rcases h.2 with ⟨h1, _⟩ | ⟨g', cap', cur, h1, hb, hh, h3, h4, h5, h6⟩
 ·
  cases h1
 injection h1 with h1 h1b h1c
 injection h1 with h1
 injection h1 with h1
 subst h1; subst h1c
 have hl := h.1
 refine ⟨by simp; omega, .inr ⟨g, cap, cur, rfl, hb, hh, by omega, h4, h5, ?_⟩⟩
 rw [← h6, List.take_take]
 congr 1
 omega
theorem sort_own {w : World} {base n : Nat} {v : Value} {zs : List Int} (hn : zs.length = n) (hb : n ≤ 10000000) (h : w.ownsRow base 3 1 v n (zs.map (Value.int .i64))) :
  Calls Try.prog 97 #[v] w fun e w' => e = .returned (.tuple #[]) ∧ w'.ownsRow base 3 1 v n ((zs.mergeSort fun x y => decide (x ≤ y)).map (Value.int .i64)) ∧ w.grownBy w' v.ownBlock := by
 rcases h.2 with ⟨rfl, h0⟩ | ⟨g, cap, cur, rfl, hbb, hh, _⟩
 ·
  have hz : zs = [] := List.eq_nil_of_length_eq_zero (by omega)
  subst hz; subst h0
  refine (Try.slices_Sort_int_none none 0 w).mono ?_
  rintro e w' ⟨rfl, rfl⟩
  exact ⟨rfl, by simpa using h, grown_of_below (Below.refl _ _) _⟩
 have hgl := (Array.getElem?_eq_some_iff.1 hh).1
 subst hn
 refine (Try.slices_Sort_int g 0 cap zs w (own_holds h) hgl (by omega)).mono ?_
 rintro e w' ⟨rfl, q, os, rfl⟩
 have H := own_put h (zs.mergeSort fun x y => decide (x ≤ y)).toArray (by simp) q os
 exact ⟨rfl, by simpa using H.1, H.2⟩
theorem compact_le (zs : List Int) : (Lib.compact zs).length ≤ zs.length := by
 unfold Lib.compact Lib.compactUpTo
 rw [List.length_map]
 exact Nat.le_trans (List.length_filter_le _ _) (by simp)
theorem compact_own {w : World} {base n : Nat} {v : Value} {zs : List Int} (hn : zs.length = n) (hb : n ≤ 10000000) (h : w.ownsRow base 3 1 v n (zs.map (Value.int .i64))) :
  Calls Try.prog 98 #[v] w fun e w' => ∃ v', e = .returned v' ∧ w'.ownsRow base 3 1 v' (Lib.compact zs).length ((Lib.compact zs).map (Value.int .i64)) ∧ w.grownBy w' v.ownBlock ∧ v'.ownBlock = v.ownBlock := by
 have hle := compact_le zs
 rcases h.2 with ⟨rfl, h0⟩ | ⟨g, cap, cur, rfl, hbb, hh, hcap, _⟩
 ·
  have hz : zs = [] := List.eq_nil_of_length_eq_zero (by omega)
  subst hz; subst h0
  refine (Try.slices_Compact_int_empty none 0 w).mono ?_
  rintro e w' ⟨rfl, rfl⟩
  exact ⟨_, rfl, World.ownsRow_nil _ _ _ _, grown_of_below (Below.refl _ _) _, rfl⟩
 subst hn
 refine (Try.slices_Compact_int g 0 cap zs w (own_holds h) (by omega) (by omega)).mono ?_
 rintro e w' ⟨rfl, q, rfl⟩
 have H := own_put h (Lib.compact zs ++ List.replicate (zs.length - (Lib.compact zs).length) 0).toArray (by simp; omega) q #[]
 rw [grow_empty] at H
 have H2 := own_shrink H.1 hle
 refine ⟨_, rfl, ?_, H.2, rfl⟩
 rw [List.map_append, List.take_append_of_le_length (by simp), List.take_of_length_le (by simp)] at H2
 exact H2
end Go.Proofs.Ytkmmihadcbfkoaa
end

section
namespace Go.Proofs.Ytkmmihadcbfkoaa
open Go.RowKit Go.Proofs.YtkmmihadcbfkoaaW.PrintWords PM
set_option linter.unusedVariables false
set_option linter.unusedSimpArgs false
/-- Where a trial's parts lie. -/
structure TL where
 g : Nat
 bh : Nat
 s0 : Value
 A1 : Option Addr
 n1 : Nat
 c1 : Nat
 A2 : Option Addr
 c2 : Nat
 ra : Nat → Option Addr
 rc : Nat → Nat
 Ar : Option Addr
 cr : Nat
 nh : Nat
 ch : Nat
/-- What of a trial stands still while its finds are given slots. -/
structure TStill (t : TL) (fits : List (List Int)) (room : List Int) (w : World) : Prop where
 f0 : w.cell? ⟨t.g, 0, none⟩ = some t.s0
 f1 : w.cell? ⟨t.g, 1, none⟩ = some (.slice t.A1 t.n1 t.c1)
 f2 : w.cell? ⟨t.g, 2, none⟩ = some (.slice t.A2 fits.length t.c2)
 f3 : w.cell? ⟨t.g, 3, none⟩ = some (.slice t.Ar room.length t.cr)
 f4 : w.cell? ⟨t.g, 4, none⟩ = some (.slice (some ⟨t.bh, 0, none⟩) t.nh t.ch)
 fits : RowsAt w t.A2 t.ra t.rc fits
 room : Kd.C (Kd.int .i64) w t.Ar room.length room
def TStands (t : TL) (fits : List (List Int)) (room : List Int) (w : World) : Prop := ∀ w', Agree t.bh t.bh w w' → TStill t fits room w'
theorem TStands.still {t : TL} {fits : List (List Int)} {room : List Int} {w : World} (h : TStands t fits room w) : TStill t fits room w := h w (Agree.refl _ _ _)
theorem TStands.later {t : TL} {fits : List (List Int)} {room : List Int} {w w' : World} (h : TStands t fits room w) (a : Agree t.bh t.bh w w') : TStands t fits room w' := fun w2 k => h w2 (a.trans k)
structure TFit (t : TL) (fits : List (List Int)) (room : List Int) : Prop where
 slot : ∀ i : Nat, i < fits.length → ∀ j : Nat, j < (fits.getD i []).length → 0 ≤ (fits.getD i []).getD j 0 ∧ (fits.getD i []).getD j 0 < t.n1
 room : room.length = t.n1
 row : ∀ i : Nat, i < fits.length → (fits.getD i []).length ≤ 1000000
 finds : fits.length = t.nh
 ns : t.n1 ≤ 1000
 nh : t.nh ≤ 1000
def lay (t : TL) (Bt Bn Bk bs : Nat) : Lay := { g := t.g, Bt := Bt, Bn := Bn, Bk := Bk, bs := bs, bh := t.bh, ns := t.n1, nh := t.nh, A2 := t.A2, c2 := t.c2, Ar := t.Ar, cr := t.cr, ch := t.ch, ra := t.ra, rc := t.rc }
theorem TFit.fit {t : TL} {fits : List (List Int)} {room : List Int} (h : TFit t fits room) (Bt Bn Bk bs : Nat) : Fit (lay t Bt Bn Bk bs) fits room :=
 ⟨h.slot, h.room, h.row, h.finds, by have := h.ns; show t.n1 ≤ _; omega, by have := h.nh; show t.nh ≤ _; omega⟩
def GivePost (t : TL) (r : SR) (hall : List Int) (w : World) (e : Ending) (w' : World) : Prop :=
 ∃ v, e = .returned (.tuple #[v, .bool r.ok]) ∧ Agree t.bh t.bh w w' ∧ RowAt w' t.bh 3 (Value.int .i64) r.has ∧ w'.ownsRow w.heap.size 3 1 v hall.length (hall.map (Value.int .i64))
/-- The world in which the search begins: the boxes of t, seen and seek, and the row seen. -/
structure Begun (t : TL) (w : World) (W : World) : Prop where
 b0 : W.heap[w.heap.size]? = some (.cells #[.pointer (some ⟨t.g, 0, none⟩)] 68 (0, 0))
 b1 : W.heap[w.heap.size + 1]? = some (.cells (Array.replicate t.n1 (Value.bool false)) 4 (0, 0))
 b2 : W.heap[w.heap.size + 1 + 1]? = some (.cells #[.slice (some ⟨w.heap.size + 1, 0, none⟩) t.n1 t.n1] 104 (0, 0))
 b3 : W.heap[w.heap.size + 1 + 1 + 1]? = some (.cells #[.func (.func 96) #[] #[.pointer (some ⟨w.heap.size, 0, none⟩), .pointer (some ⟨w.heap.size + 1 + 1, 0, none⟩), .pointer (some ⟨w.heap.size + 1 + 1 + 1, 0, none⟩)]] 90 (0, 0))
 sz : W.heap.size = w.heap.size + 4
 bl : Below w.heap.size w W
theorem begun (t : TL) (w : World) : Begun t w ((((w.alloc (.cells #[.pointer (some ⟨t.g, 0, none⟩)] 68)).alloc (.cells (Array.replicate t.n1 (Value.bool false)) 4)).alloc (.cells #[.slice (some ⟨w.heap.size + 1, 0, none⟩) t.n1 t.n1] 104)).alloc (.cells #[.func (.func 96) #[] #[.pointer (some ⟨w.heap.size, 0, none⟩), .pointer (some ⟨w.heap.size + 1 + 1, 0, none⟩), .pointer (some ⟨w.heap.size + 1 + 1 + 1, 0, none⟩)]] 90)) := by
 have a0 := World.alloc_heap_new w (.cells #[.pointer (some ⟨t.g, 0, none⟩)] 68)
 generalize hw1 : w.alloc (.cells #[.pointer (some ⟨t.g, 0, none⟩)] 68) = w1 at *
 have s1 : w1.heap.size = w.heap.size + 1 := by rw [← hw1]; simp
 have c1 : Below w.heap.size w w1 := by rw [← hw1]; exact (Below.refl _ w).alloc (Nat.le_refl _) _
 have a1 := World.alloc_heap_new w1 (.cells (Array.replicate t.n1 (Value.bool false)) 4)
 generalize hw2 : w1.alloc (.cells (Array.replicate t.n1 (Value.bool false)) 4) = w2 at *
 have s2 : w2.heap.size = w.heap.size + 1 + 1 := by rw [← hw2]; simp [s1]
 have c2 : Below w1.heap.size w1 w2 := by rw [← hw2]; exact (Below.refl _ w1).alloc (Nat.le_refl _) _
 have a2 := World.alloc_heap_new w2 (.cells #[.slice (some ⟨w.heap.size + 1, 0, none⟩) t.n1 t.n1] 104)
 generalize hw3 : w2.alloc (.cells #[.slice (some ⟨w.heap.size + 1, 0, none⟩) t.n1 t.n1] 104) = w3 at *
 have s3 : w3.heap.size = w.heap.size + 1 + 1 + 1 := by rw [← hw3]; simp [s2]
 have c3 : Below w2.heap.size w2 w3 := by rw [← hw3]; exact (Below.refl _ w2).alloc (Nat.le_refl _) _
 have a3 := World.alloc_heap_new w3 (.cells #[.func (.func 96) #[] #[.pointer (some ⟨w.heap.size, 0, none⟩), .pointer (some ⟨w.heap.size + 1 + 1, 0, none⟩), .pointer (some ⟨w.heap.size + 1 + 1 + 1, 0, none⟩)]] 90)
 generalize hw4 : w3.alloc (.cells #[.func (.func 96) #[] #[.pointer (some ⟨w.heap.size, 0, none⟩), .pointer (some ⟨w.heap.size + 1 + 1, 0, none⟩), .pointer (some ⟨w.heap.size + 1 + 1 + 1, 0, none⟩)]] 90) = w4 at *
 have s4 : w4.heap.size = w.heap.size + 4 := by rw [← hw4]; simp [s3]
 have c4 : Below w3.heap.size w3 w4 := by rw [← hw4]; exact (Below.refl _ w3).alloc (Nat.le_refl _) _
 rw [s1] at a1; rw [s2] at a2; rw [s3] at a3
 refine ⟨?_, ?_, ?_, a3, s4, ((c1.trans (c2.mono (by omega))).trans (c3.mono (by omega))).trans (c4.mono (by omega))⟩
 ·
  exact (((c4.block _ (by omega)).trans (c3.block _ (by omega))).trans (c2.block _ (by omega))).trans a0
 ·
  exact ((c4.block _ (by omega)).trans (c3.block _ (by omega))).trans a1
 exact (c4.block _ (by omega)).trans a2
theorem Begun.agree {t : TL} {w W w' : World} (h : Begun t w W) (hbh : t.bh < w.heap.size) (a : Agree (w.heap.size + 1) t.bh W w') : Agree t.bh t.bh w w' :=
 ⟨a.os.trans h.bl.os, a.tape.trans h.bl.tape, a.output.trans h.bl.output, Nat.le_trans h.bl.size a.size, fun k hk h1 _ => (a.block k (by rw [h.sz]; omega) (by omega) h1).trans (h.bl.block k hk), fun k hk => (a.cells k (by rw [h.sz]; omega)).trans (by rw [h.bl.block k hk])⟩
theorem Begun.stands {t : TL} {fits : List (List Int)} {room : List Int} {w W : World} (h : Begun t w W) (hbh : t.bh < w.heap.size) (hS : TStands t fits room w) :
  Stands (lay t w.heap.size (w.heap.size + 1 + 1) (w.heap.size + 1 + 1 + 1) (w.heap.size + 1)) fits room W := fun w' a => by
 have st := hS w' (h.agree hbh a)
 have hsz := h.sz
 refine ⟨?_, ?_, ?_, st.f2, st.f3, st.f4, st.fits, st.room⟩
 ·
  exact cell_of_heap ((a.block w.heap.size (by omega) (by show w.heap.size ≠ w.heap.size + 1; omega) (by show w.heap.size ≠ t.bh; omega)).trans h.b0) rfl
 ·
  exact cell_of_heap ((a.block (w.heap.size + 1 + 1) (by omega) (by show w.heap.size + 1 + 1 ≠ w.heap.size + 1; omega) (by show w.heap.size + 1 + 1 ≠ t.bh; omega)).trans h.b2) rfl
 ·
  exact cell_of_heap ((a.block (w.heap.size + 1 + 1 + 1) (by omega) (by show w.heap.size + 1 + 1 + 1 ≠ w.heap.size + 1; omega) (by show w.heap.size + 1 + 1 + 1 ≠ t.bh; omega)).trans h.b3) rfl
theorem Begun.turns {t : TL} {w W : World} {has : List Int} (h : Begun t w W) (hH : RowAt w t.bh 3 (Value.int .i64) has) (hl : has.length = t.nh) :
  Turns (lay t w.heap.size (w.heap.size + 1 + 1) (w.heap.size + 1 + 1 + 1) (w.heap.size + 1)) W (List.replicate t.n1 false) has := by
 refine ⟨⟨_, h.b1, fun j hj => ?_⟩, hH.below h.bl, by simp [lay], hl⟩
 simp at hj
 simp [hj]
theorem cnt_replicate (n : Nat) : cnt (List.replicate n false) = n := by simp [cnt]
set_option maxRecDepth 100000 in
set_option maxHeartbeats 4000000 in
theorem give_calls (t : TL) (fits : List (List Int)) (room : List Int) (hF : TFit t fits room) (find : Nat) (hfind : find < t.nh) (has : List Int) (hlh : has.length = t.nh) (w : World)
  (hS : TStands t fits room w) (hH : RowAt w t.bh 3 (Value.int .i64) has) :
  Calls Try.prog 87 #[.pointer (some ⟨t.g, 0, none⟩), .int .i64 find] w (GivePost t (giveR fits room t.n1 find has) (giveH fits room t.n1 find has) w) := by
 have hst := hS.still
 have hf1 := hst.f1
 have hgl := World.block_lt_of_cell? w _ hf1
 have hns := hF.ns
 have hmk := make_row (t := 104) (e := 4) Try.underlying104 trinfo4 rfl t.n1 (by show (1 : Int) * (t.n1 : Int) ≤ _; omega) (by omega) (w.alloc (.cells #[.pointer (some ⟨t.g, 0, none⟩)] 68))
 rw [World.size_alloc] at hmk
 have HS := Go.Lib.hid hS
 have HH := Go.Lib.hid hH
 have HF := Go.Lib.hid hF
 have HLH := Go.Lib.hid hlh
 clear hst hS hH hF hlh
 obtain ⟨r, hr⟩ : ∃ r, giveR fits room t.n1 (find : Int) has = r := ⟨_, rfl⟩
 obtain ⟨hl, hhl⟩ : ∃ hl, giveH fits room t.n1 (find : Int) has = hl := ⟨_, rfl⟩
 rw [hhl, hr]
 unfold giveH at hhl
 rw [hr] at hhl
 have hrk := seekF_ok fits room (t.n1 + 1) (find : Int) (List.replicate t.n1 false) has
 rw [show seekF fits room (t.n1 + 1) (find : Int) (List.replicate t.n1 false) has = r from hr] at hrk
 have HR := Go.Lib.hid hr
 have HHL := Go.Lib.hid hhl
 have HRK := Go.Lib.hid hrk
 clear hr hhl hrk
 go_enter Try.func87, Try.ntmps87
 go_wp2_with fail
 have hbg := begun t w
 generalize (((w.alloc (.cells #[.pointer (some ⟨t.g, 0, none⟩)] 68)).alloc (.cells (Array.replicate t.n1 (Value.bool false)) 4)).alloc (.cells #[.slice (some ⟨w.heap.size + 1, 0, none⟩) t.n1 t.n1] 104)).alloc (.cells #[.func (.func 96) #[] #[.pointer (some ⟨w.heap.size, 0, none⟩), .pointer (some ⟨w.heap.size + 1 + 1, 0, none⟩), .pointer (some ⟨w.heap.size + 1 + 1 + 1, 0, none⟩)]] 90) = W0 at *
 have hbhl := HH.out.lt
 have hSt0 := hbg.stands hbhl HS.out
 have hT0 := hbg.turns HH.out HLH.out
 have SC := seek_calls _ fits room (HF.out.fit _ _ _ _) (t.n1 + 1) (find : Int) (List.replicate t.n1 false) has W0 (by rw [cnt_replicate]; omega) (by omega) (by show (find : Int) < (t.nh : Int); omega) hSt0 hT0
 rw [show seekF fits room (t.n1 + 1) (find : Int) (List.replicate t.n1 false) has = r from HR.out] at SC
 refine SC.mono ?_
 clear SC
 rintro e w1 ⟨rfl, ag, hT1⟩
 have hSt1 := hSt0.later ag
 have HBG := Go.Lib.hid hbg
 have HAG := Go.Lib.hid ag
 have HT1 := Go.Lib.hid hT1
 have HS1 := Go.Lib.hid hSt1
 clear hbg ag hT1 hSt1 hSt0 hT0 hmk hf1
 by_cases hok : r.ok = true
 ·
  have HOK := Go.Lib.hid hok
  rw [hok]
  clear hok
  go_wp2_with fail
  go_ret2
  refine ⟨.slice none 0 0, by rw [HOK.out]; rfl, HBG.out.agree hbhl HAG.out, HT1.out.rh, ?_⟩
  have h := HHL.out
  rw [if_pos HOK.out] at h
  rw [← h]
  exact World.ownsRow_nil _ _ _ _
 have hok' : r.ok = false := by simpa using hok
 have HOK := Go.Lib.hid hok'
 rw [hok']
 clear hok hok'
 have bn : w1.cell? ⟨w.heap.size + 1 + 1, 0, none⟩ = some (.slice (some ⟨w.heap.size + 1, 0, none⟩) t.n1 t.n1) := HS1.out.still.n
 have hn1 : (t.n1 : Int) ≤ 9223372036854775807 := by omega
 have hsz1 : w.heap.size + 4 ≤ w1.heap.size := by have h1 := HBG.out.sz; have h2 := HAG.out.size; omega
 have hsz2 : w.heap.size + 1 + 1 < w1.heap.size := by omega
 go_wp2_with fail
 have hnh := HF.out.nh
 have hhas : r.has.length = t.nh := HT1.out.lh
 have hseenl : r.seen.length = t.n1 := HT1.out.ls
 have hhl : ∀ k, (hallTo (find : Int) r.seen r.has k).length ≤ 1 + k * 1000 := fun k => by
  unfold hallTo
  rw [List.length_cons, List.length_flatMap]
  have h2 : (((List.range k).filter fun s : Nat => r.seen.getD s false).map fun s : Nat => (atOf r.has (s : Int)).length).sum ≤ ((List.range k).filter fun s : Nat => r.seen.getD s false).length * 1000 := by
   generalize ((List.range k).filter fun s : Nat => r.seen.getD s false) = l
   induction l with
   | nil => simp
   | cons a l ih =>
    have := atTo_length r.has (a : Int) r.has.length
    rw [show atTo r.has (a : Int) r.has.length = atOf r.has (a : Int) from rfl] at this
    simp only [List.map_cons, List.sum_cons, List.length_cons]
    omega
  have h3 : ((List.range k).filter fun s : Nat => r.seen.getD s false).length ≤ k := Nat.le_trans (List.length_filter_le _ _) (by simp)
  have h4 := Nat.mul_le_mul_right 1000 h3
  omega
 have hown0 : (w1.alloc (.cells #[.int .i64 (find : Int)] 3)).ownsRow w1.heap.size 3 1 (.slice (some ⟨w1.heap.size, 0, none⟩) 1 1) (hallTo (find : Int) r.seen r.has 0).length ((hallTo (find : Int) r.seen r.has 0).map (Value.int .i64)) :=
  ⟨by simp, .inr ⟨_, 1, _, rfl, Nat.le_refl _, World.alloc_heap_new _ _, Nat.le_refl _, by unfold maxLen; omega, rfl, by simp [hallTo]⟩⟩
 have HO0 := Go.Lib.hid hown0
 have HHAS := Go.Lib.hid hhas
 have HSL := Go.Lib.hid hseenl
 have HHLL := Go.Lib.hid hhl
 clear hown0 hhas hseenl hhl
 go_loopw [8, 26] (fun v8 i wr => ∃ k : Nat, k ≤ t.n1 ∧ i = .int .i64 k ∧ Hid (wr.ownsRow w1.heap.size 3 1 v8 (hallTo (find : Int) r.seen r.has k).length ((hallTo (find : Int) r.seen r.has k).map (Value.int .i64)) ∧ Below w1.heap.size w1 wr)) (fun _ i _ => t.n1 - (intOf i).toNat)
 case atStart => exact ⟨0, Nat.zero_le _, rfl, HO0.out, (Below.refl _ _).alloc (Nat.le_refl _) _⟩
 obtain ⟨k, hk, rfl, HID⟩ := hrel
 obtain ⟨hO, hB⟩ := HID.out
 have HO := Go.Lib.hid hO
 have HB := Go.Lib.hid hB
 have hTr := HT1.out.below hB
 have hSr := HS1.out.later (Agree.of_below hB)
 have HTr := Go.Lib.hid hTr
 have HSr := Go.Lib.hid hSr
 clear hO hB hTr hSr HID
 by_cases hlt : k < t.n1
 rotate_left
 ·
  obtain rfl : k = t.n1 := by omega
  have hll := HHLL.out t.n1
  have hkk : t.n1 * 1000 ≤ 1000000 := by have := Nat.mul_le_mul_right 1000 (show t.n1 ≤ 1000 by omega); omega
  have hsmall : (hallTo (find : Int) r.seen r.has t.n1).length ≤ 1000000 + 1 := by omega
  have SRT := sort_own rfl (by omega) HO.out
  clear hll hkk
  go_wp2_with fail
  refine SRT.mono ?_
  clear SRT
  rintro e w5 ⟨rfl, hO5, hg5⟩
  have hB5 : Below w1.heap.size w1 w5 := HB.out.grown hg5 HB.out.size (fun q hq => own_base HO.out q hq)
  have hl5 : (((hallTo (find : Int) r.seen r.has t.n1).mergeSort fun x y => decide (x ≤ y))).length = (hallTo (find : Int) r.seen r.has t.n1).length := by simp
  have CPT := compact_own hl5 (by omega) hO5
  have HO5 := Go.Lib.hid hO5
  have HB5 := Go.Lib.hid hB5
  have HL5 := Go.Lib.hid hl5
  clear hO5 hB5 hl5 hg5
  go_wp2_with fail
  refine CPT.mono ?_
  clear CPT
  rintro e w6 ⟨v6, rfl, hO6, hg6, _⟩
  have hB6 : Below w1.heap.size w1 w6 := HB5.out.grown hg6 HB5.out.size (fun q hq => own_base HO5.out q hq)
  have HO6 := Go.Lib.hid hO6
  have HB6 := Go.Lib.hid hB6
  clear hO6 hB6 hg6
  go_wp2_with fail
  go_ret2
  have hhl := HHL.out
  rw [if_neg (by rw [HOK.out]; simp)] at hhl
  refine ⟨v6, by rw [HOK.out]; rfl, HBG.out.agree hbhl (HAG.out.trans (Agree.of_below HB6.out)), (HT1.out.below HB6.out).rh, ?_⟩
  rw [← hhl]
  exact own_weaken HO6.out (by omega)
 have c1 : wr.cell? ⟨w.heap.size + 1, k, none⟩ = some (.bool (r.seen.getD k false)) := by
  have h := HTr.out.rs.cellD false (k : Int) (by omega) (by rw [HSL.out]; omega)
  rw [Int.toNat_natCast] at h
  exact h
 by_cases hsn : r.seen.getD k false = true
 rotate_left
 ·
  have hsn' : r.seen.getD k false = false := by simpa using hsn
  rw [hsn'] at c1
  have HSN := Go.Lib.hid hsn'
  clear hsn hsn'
  go_wp2_with fail
  go_roundw
  case rel => exact ⟨k + 1, by omega, by simp, by rw [hallTo_no HSN.out]; exact HO.out, HB.out⟩
  case measure => simp [intOf]; omega
 rw [hsn] at c1
 have HSN := Go.Lib.hid hsn
 clear hsn
 have c2 : wr.cell? ⟨w.heap.size, 0, none⟩ = some (.pointer (some ⟨t.g, 0, none⟩)) := HSr.out.still.t
 go_wp2_with fail
 refine (at_calls _ _ _).mono ?_
 rintro e w3 ⟨rfl, rfl⟩
 go_wp2_with fail
 have hB3 : Below wr.heap.size wr ((wr.alloc (.cells #[.pointer (some ⟨t.g, 0, none⟩)] 68)).alloc (.cells #[.int .i64 (k : Int)] 3)) := ((Below.refl _ wr).alloc (Nat.le_refl _) _).alloc (by simp) _
 have bT := ((Boxed.new wr 68 (.pointer (some ⟨t.g, 0, none⟩))).alloc (.cells #[.int .i64 (k : Int)] 3)).cell
 have bS := (Boxed.new (wr.alloc (.cells #[.pointer (some ⟨t.g, 0, none⟩)] 68)) 3 (.int .i64 (k : Int))).cell
 simp only [World.size_alloc] at bS
 have hlen8 : r.has.length * 8 ≤ 140737488355328 := by rw [HHAS.out]; omega
 have CO := collect_in wr.heap.size (wr.heap.size + 1) t.g (some ⟨t.bh, 0, none⟩) t.ch (k : Int) r.has hlen8 _ bT bS (by rw [HHAS.out]; exact ((HSr.out.later (Agree.of_below hB3)).still.f4)) (HTr.out.below hB3).rh.ints
 refine CO.mono ?_
 clear CO
 rintro e w4 ⟨v4, rfl, ho4, hb4⟩
 have hO4 := pw_own_below (pw_own_below HO.out hB3) hb4
 have hB4 : Below w1.heap.size w1 w4 := (HB.out.trans (hB3.mono HB.out.size)).trans (hb4.mono (Nat.le_trans HB.out.size hB3.size))
 have hR4 := Kd.R_of_own (enc := Value.int .i64) (h1 := fun _ => rfl) (ok := fun q => w1.heap.size ≤ q) hO4 (fun q hq => own_base hO4 q hq)
 obtain ⟨A4, c4, rfl, _, hC4⟩ := Kd.R_reads (Kd.R_of_own (enc := Value.int .i64) (h1 := fun _ => rfl) (ok := fun _ => True) ho4 (fun _ _ => trivial))
 have hat := atTo_length r.has (k : Int) r.has.length
 rw [show atTo r.has (k : Int) r.has.length = atOf r.has (k : Int) from rfl, HHAS.out] at hat
 have hfr : ∀ q, w4.heap.size ≤ q → w1.heap.size ≤ q := fun q hq => Nat.le_trans hB4.size hq
 have hll := HHLL.out k
 have hkk : k * 1000 ≤ 1000000 := by have := Nat.mul_le_mul_right 1000 (show k ≤ 1000 by omega); omega
 have hsum : ((hallTo (find : Int) r.seen r.has k).length + (atOf r.has (k : Int)).length) * 8 ≤ 140737488355328 := by omega
 have HR4 := Go.Lib.hid hR4
 have HC4 := Go.Lib.hid hC4
 have HB4 := Go.Lib.hid hB4
 have HFR := Go.Lib.hid hfr
 have hb4s := hB4.size
 have HSUM := Go.Lib.hid hsum
 clear hR4 hC4 hB4 hfr hO4 ho4 hb4 bT bS hlen8 hB3 hat hll hkk hsum c1 c2
 go_wp2_with (at_builtin; refine Kd.R_append_row (Value.int .i64) 0 (w0 := w1) w1.heap.size rfl _ _ 22 3 (.int .i64 0) 8 rfl Try.underlying22 itinfo3 rfl (by omega) _ (hallTo (find : Int) r.seen r.has k) (atOf r.has (k : Int)) A4 _ c4 (fun q => w1.heap.size ≤ q) rfl rfl HFR.out HR4.out HC4.out HB4.out hb4s HSUM.out ?_; intro v5 w5 hR5 hB5 _ _; have HR5 := Go.Lib.hid hR5; have HB5 := Go.Lib.hid hB5; clear hR5 hB5)
 go_roundw
 case rel => exact ⟨k + 1, by omega, by simp, by rw [hallTo_yes HSN.out]; exact Kd.own_of_R HR5.out, HB5.out⟩
 case measure => simp [intOf]; omega
end Go.Proofs.Ytkmmihadcbfkoaa
end

section
namespace Go.Proofs.Ytkmmihadcbfkoaa
open Go.RowKit Go.Proofs.YtkmmihadcbfkoaaW.PrintWords PM
set_option linter.unusedVariables false
set_option linter.unusedSimpArgs false
def FillPost (t : TL) (r : FR) (w : World) (e : Ending) (w' : World) : Prop :=
 ∃ v, e = .returned (.tuple #[v, .bool r.ok]) ∧ Agree t.bh t.bh w w' ∧ RowAt w' t.bh 3 (Value.int .i64) r.has ∧ w'.ownsRow w.heap.size 3 1 v r.hall.length (r.hall.map (Value.int .i64))
set_option maxRecDepth 100000 in
set_option maxHeartbeats 4000000 in
theorem fill_calls (t : TL) (fits : List (List Int)) (room : List Int) (hF : TFit t fits room) (out : Int) (has : List Int) (hlh : has.length = t.nh) (w : World)
  (hS : TStands t fits room w) (hH : RowAt w t.bh 3 (Value.int .i64) has) :
  Calls Try.prog 61 #[.pointer (some ⟨t.g, 0, none⟩), .int .i64 out] w (FillPost t (fillF fits room t.n1 out has) w) := by
 have hst := hS.still
 have f2 := hst.f2
 have hfl : (fits.length : Int) ≤ 9223372036854775807 := by have h1 := hF.finds; have h2 := hF.nh; omega
 obtain ⟨r, hr⟩ : ∃ r, fillF fits room t.n1 out has = r := ⟨_, rfl⟩
 rw [hr]
 unfold fillF at hr
 have HS := Go.Lib.hid hS
 have HH := Go.Lib.hid hH
 have HF := Go.Lib.hid hF
 have HLH := Go.Lib.hid hlh
 have HR := Go.Lib.hid hr
 clear hst hS hH hF hlh hr
 go_enter Try.func61, Try.ntmps61
 go_wp2_with fail
 go_loopw [16] (fun i wr => ∃ k : Nat, k ≤ fits.length ∧ i = .int .i64 k ∧ Hid (∃ hs, fillL fits room t.n1 out ((List.range fits.length).drop k) hs = r ∧ hs.length = t.nh ∧ RowAt wr t.bh 3 (Value.int .i64) hs ∧ Agree t.bh t.bh w wr)) (fun i _ => fits.length - (intOf i).toNat)
 case atStart => exact ⟨0, Nat.zero_le _, rfl, has, HR.out, HLH.out, HH.out, Agree.refl _ _ _⟩
 obtain ⟨k, hk, rfl, HID⟩ := hrel
 obtain ⟨hs, hre, hhl, hrow, hag⟩ := HID.out
 by_cases hlt : k < fits.length
 rotate_left
 ·
  obtain rfl : k = fits.length := by omega
  rw [List.drop_of_length_le (by simp)] at hre
  unfold fillL at hre
  have HRE := Go.Lib.hid hre
  have HRO := Go.Lib.hid hrow
  have HAG := Go.Lib.hid hag
  clear hre hrow hag hhl HID
  go_wp2_with fail
  go_ret2
  have hfin := HRE.out
  subst hfin
  exact ⟨_, rfl, HAG.out, HRO.out, World.ownsRow_nil _ _ _ _⟩
 have hdrop : (List.range fits.length).drop k = k :: (List.range fits.length).drop (k + 1) := by
  rw [List.drop_eq_getElem_cons (by simpa using hlt)]
  simp
 rw [hdrop] at hre
 unfold fillL at hre
 have hSr := HS.out.later hag
 obtain ⟨a2, e2, hx2, _⟩ := hSr.still.fits k hlt
 have g2 := hSr.still.f4
 have hkh : k < hs.length := by have := HF.out.finds; omega
 have g3 := hrow.cellD 0 (k : Int) (by omega) (by omega)
 rw [Int.toNat_natCast] at g3
 have hkn : (k : Int) < (t.nh : Int) := by omega
 obtain ⟨row, hrw⟩ : ∃ row, fits.getD k [] = row := ⟨_, rfl⟩
 rw [hrw] at hx2 hre
 have hrl := HF.out.row k hlt
 rw [hrw] at hrl
 have HRW := Go.Lib.hid hrw
 have HRE := Go.Lib.hid hre
 have HHL := Go.Lib.hid hhl
 have HRO := Go.Lib.hid hrow
 have HAG := Go.Lib.hid hag
 have HSR := Go.Lib.hid hSr
 clear hrw hre hhl hrow hag hSr hdrop HID
 rw [e2] at f2 ⊢
 clear e2
 by_cases hr0 : row.length = 0
 ·
  have q0 : ((row.length : Int) == 0) = true := by simpa using hr0
  have HR0 := Go.Lib.hid hr0
  clear hr0
  go_wp2_with fail
  go_roundw
  case rel => exact ⟨k + 1, by omega, by simp, hs, by have h := HRE.out; rw [if_pos (.inl HR0.out)] at h; exact h, HHL.out, HRO.out, HAG.out⟩
  case measure => simp [intOf]; omega
 have q0 : ((row.length : Int) == 0) = false := by simpa using hr0
 have HR0 := Go.Lib.hid hr0
 clear hr0
 by_cases hko : (k : Int) = out
 ·
  have q1 : ((k : Int) == out) = true := by simpa using hko
  have HKO := Go.Lib.hid hko
  clear hko
  go_wp2_with fail
  go_roundw
  case rel => exact ⟨k + 1, by omega, by simp, hs, by have h := HRE.out; rw [if_pos (.inr (.inl HKO.out))] at h; exact h, HHL.out, HRO.out, HAG.out⟩
  case measure => simp [intOf]; omega
 have q1 : ((k : Int) == out) = false := by simpa using hko
 have HKO := Go.Lib.hid hko
 clear hko
 obtain ⟨x, hx⟩ : ∃ x, hs.getD k 0 = x := ⟨_, rfl⟩
 have hre := HRE.out
 rw [hx] at g3 hre
 have HX := Go.Lib.hid hx
 clear hx
 by_cases hx0 : 0 ≤ x
 ·
  rw [if_pos (.inr (.inr hx0))] at hre
  have HRE2 := Go.Lib.hid hre
  clear hre
  go_wp2_with fail
  go_roundw
  case rel => exact ⟨k + 1, by omega, by simp, hs, HRE2.out, HHL.out, HRO.out, HAG.out⟩
  case measure => simp [intOf]; omega
 rw [if_neg (by intro h; rcases h with h | h | h; exact HR0.out h; exact HKO.out h; exact hx0 h)] at hre
 have GC := give_calls t fits room HF.out k (by omega) hs HHL.out wr HSR.out HRO.out
 obtain ⟨gr, hgr⟩ : ∃ gr, giveR fits room t.n1 (k : Int) hs = gr := ⟨_, rfl⟩
 obtain ⟨gh, hgh⟩ : ∃ gh, giveH fits room t.n1 (k : Int) hs = gh := ⟨_, rfl⟩
 have hgl := giveR_len fits room t.n1 (k : Int) hs
 rw [hgr, hgh] at GC hre
 rw [hgr] at hgl
 have HRE2 := Go.Lib.hid hre
 have HGL := Go.Lib.hid hgl
 clear hre hgr hgh hgl
 go_wp2_with fail
 refine GC.mono ?_
 clear GC
 rintro e w1 ⟨v, rfl, hag1, hrow1, hown1⟩
 have HAG1 := Go.Lib.hid (HAG.out.trans hag1)
 have HRO1 := Go.Lib.hid hrow1
 have HO1 := Go.Lib.hid hown1
 clear hag1 hrow1 hown1
 by_cases hok : gr.ok = true
 ·
  have hre := HRE2.out
  rw [if_pos hok] at hre
  have HRE3 := Go.Lib.hid hre
  rw [hok]
  clear hre hok
  go_wp2_with fail
  go_roundw
  case rel => exact ⟨k + 1, by omega, by simp, gr.has, HRE3.out, HGL.out.trans HHL.out, HRO1.out, HAG1.out⟩
  case measure => simp [intOf]; omega
 have hok' : gr.ok = false := by simpa using hok
 have hre := HRE2.out
 rw [if_neg hok] at hre
 have HRE3 := Go.Lib.hid hre
 rw [hok']
 clear hre hok hok'
 go_wp2_with fail
 go_ret2
 have hfin := HRE3.out
 subst hfin
 exact ⟨v, rfl, HAG1.out, HRO1.out, own_weaken HO1.out HAG.out.size⟩
end Go.Proofs.Ytkmmihadcbfkoaa
end

section
namespace Go.Proofs.Ytkmmihadcbfkoaa
open Go.RowKit Go.Proofs.YtkmmihadcbfkoaaW.PrintWords PM
set_option linter.unusedVariables false
set_option linter.unusedSimpArgs false
/-- What a board that is as said brings: sizes, and slots that there are. -/
structure BOK (F : List Int) (S : List S50) (T : List (List Int)) : Prop where
 nf : F.length ≤ 60
 ns : S.length ≤ 200
 nt : T.length = F.length
 row : ∀ i : Nat, i < T.length → (T.getD i []).length ≤ 1000
 slot : ∀ i : Nat, i < T.length → ∀ j : Nat, j < (T.getD i []).length → 0 ≤ (T.getD i []).getD j 0 ∧ (T.getD i []).getD j 0 < S.length
theorem mk_stands {w0 w : World} {g bh nh ch n1 c1 c2 : Nat} {s0 vr : Value} {A1 A2 : Option Addr} {fits : List (List Int)} {room has : List Int} {ra : Nat → Option Addr} {rc : Nat → Nat}
  (hB : Below w0.heap.size w0 w) (hg : w.heap[g]? = some (.cells #[s0, .slice A1 n1 c1, .slice A2 fits.length c2, vr, .slice (some ⟨bh, 0, none⟩) nh ch] 80 (0, 0))) (hbl : w0.heap.size ≤ bh)
  (hrow : RowAt w bh 3 (Value.int .i64) has) (hroom : w.ownsRow w0.heap.size 3 1 vr room.length (room.map (Value.int .i64))) (hne : vr.ownBlock ≠ some bh) (hra : RowsAt w0 A2 ra rc fits) :
  ∃ Ar cr, vr = .slice Ar room.length cr ∧ TStands { g := g, bh := bh, s0 := s0, A1 := A1, n1 := n1, c1 := c1, A2 := A2, c2 := c2, ra := ra, rc := rc, Ar := Ar, cr := cr, nh := nh, ch := ch } fits room w := by
 obtain ⟨Ar, cr, rfl, _, _⟩ := Kd.R_reads (Kd.R_of_own (enc := Value.int .i64) (h1 := fun _ => rfl) (ok := fun _ => True) hroom (fun _ _ => trivial))
 refine ⟨Ar, cr, rfl, fun w' a => ?_⟩
 have hgl := (Array.getElem?_eq_some_iff.1 hg).1
 have hgb : g ≠ bh := by
  rintro rfl
  obtain ⟨cs, hc, _⟩ := hrow
  rw [hg] at hc
  injection hc with hc
  injection hc with _ hc
  exact absurd hc (by decide)
 have hg' := (a.block g hgl hgb hgb).trans hg
 have hB' : Below w0.heap.size w0 w' := a.below hB hB.size hbl hbl
 have hroom' := own_move (w1 := w') hroom (fun k hk => a.block k (own_lt hroom k hk) (fun e => hne (by rw [hk, e])) (fun e => hne (by rw [hk, e])))
 obtain ⟨Ar', cr', e, _, hC⟩ := Kd.R_reads (Kd.R_of_own (enc := Value.int .i64) (h1 := fun _ => rfl) (ok := fun _ => True) hroom' (fun _ _ => trivial))
 injection e with e1 e2 e3
 subst e1
 exact ⟨cell_of_heap hg' rfl, cell_of_heap hg' rfl, cell_of_heap hg' rfl, cell_of_heap hg' rfl, cell_of_heap hg' rfl, hra.below hB', hC⟩
/-- A trial that lies in memory from block b0 on, its finds' slots being has. -/
structure TIn (b0 : Nat) (t : TL) (fits : List (List Int)) (room has : List Int) (w : World) : Prop where
 fit : TFit t fits room
 st : TStands t fits room w
 row : RowAt w t.bh 3 (Value.int .i64) has
 len : has.length = t.nh
 bl : b0 ≤ t.bh
 capr : room.length ≤ t.cr
 caph : t.nh ≤ t.ch
 caps : ∀ i : Nat, i < fits.length → (fits.getD i []).length ≤ t.rc i
theorem RowsAt.of_C2 {w : World} {A2 : Option Addr} {fits : List (List Int)} (h : Kd.C (Kd.slice 3 (Kd.int .i64)) w A2 fits.length fits) : ∃ ra rc, RowsAt w A2 ra rc fits ∧ ∀ i : Nat, i < fits.length → (fits.getD i []).length ≤ rc i := by
 have hx : ∀ i : Nat, ∃ p : Option Addr × Nat, i < fits.length → ∃ a, A2 = some a ∧ w.cell? (a.add i) = some (.slice p.1 (fits.getD i []).length p.2) ∧ (fits.getD i []).length ≤ p.2 ∧ Kd.C (Kd.int .i64) w p.1 (fits.getD i []).length (fits.getD i []) := fun i => by
  by_cases hi : i < fits.length
  ·
   obtain ⟨a, A0, c0, e, hc, hl, hk⟩ := rows_at h (i : Int) (by omega) (by omega)
   exact ⟨(A0, c0), fun _ => ⟨a, e, by simpa using hc, by simpa using hl, by simpa using hk⟩⟩
  ·
   exact ⟨(none, 0), fun h => absurd h hi⟩
 refine ⟨fun i => (Classical.choose (hx i)).1, fun i => (Classical.choose (hx i)).2, fun i hi => ?_, fun i hi => ?_⟩
 ·
  obtain ⟨a, e, hc, _, hk⟩ := Classical.choose_spec (hx i) hi
  exact ⟨a, e, hc, hk⟩
 obtain ⟨a, e, hc, hl, hk⟩ := Classical.choose_spec (hx i) hi
 exact hl
def SomePost (F : List Int) (S : List S50) (T : List (List Int)) (s0 : Value) (w : World) (e : Ending) (w' : World) : Prop :=
 ∃ t : TL, e = .returned (.tuple #[.pointer (some ⟨t.g, 0, none⟩), .bool (fillF T (rooms S) S.length (-1) (List.replicate F.length (-1))).ok]) ∧ t.n1 = S.length ∧ t.nh = F.length ∧ t.s0 = s0 ∧
  TIn w.heap.size t T (rooms S) (fillF T (rooms S) S.length (-1) (List.replicate F.length (-1))).has w' ∧ Below w.heap.size w w'
/-- A trial of a board, as 'tried' makes it. -/
def TriedPost (F : List Int) (S : List S50) (T : List (List Int)) (s0 : Value) (w : World) (e : Ending) (w' : World) : Prop :=
 ∃ t : TL, e = .returned (.pointer (some ⟨t.g, 0, none⟩)) ∧ t.n1 = S.length ∧ t.nh = F.length ∧ t.s0 = s0 ∧ TIn w.heap.size t T (rooms S) (List.replicate F.length (-1)) w' ∧ Below w.heap.size w w' ∧
  (∃ cells, w'.heap[t.g]? = some (.cells cells 80 (0, 0))) ∧ w.heap.size ≤ t.g ∧ w'.ownsRow w.heap.size 3 1 (.slice t.Ar S.length t.cr) S.length ((rooms S).map (Value.int .i64)) ∧ (Value.slice t.Ar S.length t.cr).ownBlock ≠ some t.bh
theorem tried_calls2 (A0 : Option Addr) (c0 : Nat) (F : List Int) (A1 : Option Addr) (c1 : Nat) (S : List S50) (A2 : Option Addr) (c2 : Nat) (T : List (List Int)) (w : World)
  (hk : BOK F S T) (hr1 : Kd.C k50 w A1 S.length S) (hr2 : Kd.C (Kd.slice 3 (Kd.int .i64)) w A2 T.length T) :
  Calls Try.prog 60 #[.agg #[.slice A0 F.length c0, .slice A1 S.length c1, .slice A2 T.length c2]] w (TriedPost F S T (.slice A0 F.length c0) w) := by
 have h1 := hk.nf
 have h2 := hk.ns
 obtain ⟨ra, rc, hra, hcaps⟩ := RowsAt.of_C2 hr2
 refine (tried_calls A0 F.length c0 A1 c1 S A2 T.length c2 w (by omega) (by omega) hr1).mono ?_
 rintro e w' ⟨g, bh, vr, rfl, hT, hrow, hB⟩
 have hlr : (rooms S).length = S.length := by simp [rooms]
 obtain ⟨Ar, cr, rfl, hst⟩ := mk_stands hB hT.gb hT.hl hrow hT.room hT.ne hra
 refine ⟨_, rfl, rfl, rfl, rfl, ⟨⟨hk.slot, hlr, fun i hi => Nat.le_trans (hk.row i hi) (by omega), hk.nt, by show S.length ≤ _; omega, by show F.length ≤ _; omega⟩, hst, hrow, by simp, hT.hl, (Kd.R_reads' (Kd.R_of_own (enc := Value.int .i64) (h1 := fun _ => rfl) (ok := fun _ => True) hT.room (fun _ _ => trivial))).2.1, Nat.le_refl _, hcaps⟩, hB, ⟨_, hT.gb⟩, hT.gl, ?_, ?_⟩
 ·
  have := hT.room
  rw [hlr] at this
  exact this
 have := hT.ne
 rw [hlr] at this
 exact this
set_option maxRecDepth 100000 in
set_option maxHeartbeats 2000000 in
theorem some_calls (A0 : Option Addr) (c0 : Nat) (F : List Int) (A1 : Option Addr) (c1 : Nat) (S : List S50) (A2 : Option Addr) (c2 : Nat) (T : List (List Int)) (w : World)
  (hk : BOK F S T) (hr1 : Kd.C k50 w A1 S.length S) (hr2 : Kd.C (Kd.slice 3 (Kd.int .i64)) w A2 T.length T) :
  Calls Try.prog 52 #[.agg #[.slice A0 F.length c0, .slice A1 S.length c1, .slice A2 T.length c2]] w (SomePost F S T (.slice A0 F.length c0) w) := by
 have hB0 := (Below.refl w.heap.size w).alloc (Nat.le_refl _) (.cells #[.slice A0 F.length c0, .slice A1 S.length c1, .slice A2 T.length c2] 26)
 have TC := tried_calls2 A0 c0 F A1 c1 S A2 c2 T _ hk (Kd.C_below hr1 hB0) (Kd.C_below hr2 hB0)
 have HB0 := Go.Lib.hid hB0
 clear hr1 hr2 hB0
 go_enter Try.func52, Try.ntmps52
 go_wp2_with fail
 refine TC.mono ?_
 clear TC
 rintro e w1 ⟨t, rfl, e1, e2, e3, hT, hB, _⟩
 have FC := fill_calls t T (rooms S) hT.fit (-1) _ hT.len w1 hT.st hT.row
 rw [e1] at FC
 have HE1 := Go.Lib.hid e1
 have HE2 := Go.Lib.hid e2
 have HE3 := Go.Lib.hid e3
 have HT := Go.Lib.hid hT
 have HB := Go.Lib.hid hB
 clear hT hB e1 e2 e3
 go_wp2_with fail
 refine FC.mono ?_
 clear FC
 rintro e w2 ⟨v, rfl, hag, hrow, _⟩
 have HAG := Go.Lib.hid hag
 have HRO := Go.Lib.hid hrow
 clear hag hrow
 go_wp2_with fail
 go_ret2
 have hb1 : Below w.heap.size w w1 := HB0.out.trans (HB.out.mono HB0.out.size)
 have hbl : w.heap.size ≤ t.bh := Nat.le_trans HB0.out.size HT.out.bl
 exact ⟨t, rfl, HE1.out, HE2.out, HE3.out, ⟨HT.out.fit, HT.out.st.later HAG.out, HRO.out, by rw [fillF, fillL_len]; exact HT.out.len, hbl, HT.out.capr, HT.out.caph, HT.out.caps⟩, HAG.out.below hb1 hb1.size hbl hbl⟩
/-- Is there an assignment? -/
def isF (F : List Int) (S : List S50) (T : List (List Int)) : Bool := (fillF T (rooms S) S.length (-1) (List.replicate F.length (-1))).ok
/-- The assignment that is found first. -/
def hasF (F : List Int) (S : List S50) (T : List (List Int)) : List Int := (fillF T (rooms S) S.length (-1) (List.replicate F.length (-1))).has
/-- What 'matched' comes to, if there is an assignment. -/
def MatchedPost (F : List Int) (S : List S50) (T : List (List Int)) (s0 : Value) (w : World) (e : Ending) (w' : World) : Prop :=
  ∃ t : TL, e = .returned (.tuple #[.pointer (some ⟨t.g, 0, none⟩), .int .i64 0]) ∧ t.n1 = S.length ∧ t.nh = F.length ∧ t.s0 = s0 ∧
   TIn w.heap.size t T (rooms S) (hasF F S T) w' ∧ Below w.heap.size w w'
set_option maxRecDepth 100000 in
set_option maxHeartbeats 2000000 in
theorem matched_yes (A0 : Option Addr) (c0 : Nat) (F : List Int) (A1 : Option Addr) (c1 : Nat) (S : List S50) (A2 : Option Addr) (c2 : Nat) (T : List (List Int)) (w : World)
  (hk : BOK F S T) (hr1 : Kd.C k50 w A1 S.length S) (hr2 : Kd.C (Kd.slice 3 (Kd.int .i64)) w A2 T.length T) (hok : isF F S T = true) :
  Calls Try.prog 56 #[.agg #[.slice A0 F.length c0, .slice A1 S.length c1, .slice A2 T.length c2]] w (MatchedPost F S T (.slice A0 F.length c0) w) := by
 have hB0 := (Below.refl w.heap.size w).alloc (Nat.le_refl _) (.cells #[.slice A0 F.length c0, .slice A1 S.length c1, .slice A2 T.length c2] 26)
 have TC := some_calls A0 c0 F A1 c1 S A2 c2 T _ hk (Kd.C_below hr1 hB0) (Kd.C_below hr2 hB0)
 unfold SomePost at TC
 unfold MatchedPost hasF
 unfold isF at hok
 generalize fillF T (rooms S) S.length (-1) (List.replicate F.length (-1)) = q at *
 have HB0 := Go.Lib.hid hB0
 rw [hok] at TC
 clear hr1 hr2 hB0 hok
 go_enter Try.func56, Try.ntmps56
 go_wp2_with fail
 refine TC.mono ?_
 clear TC
 rintro e w1 ⟨t, rfl, e1, e2, e3, hT, hB⟩
 have HE := Go.Lib.hid (And.intro e1 (And.intro e2 e3))
 have HT := Go.Lib.hid hT
 have HB := Go.Lib.hid hB
 clear hT hB e1 e2 e3
 go_wp2_with fail
 go_ret2
 have hb1 : Below w.heap.size w w1 := HB0.out.trans (HB.out.mono HB0.out.size)
 exact ⟨t, rfl, HE.out.1, HE.out.2.1, HE.out.2.2, ⟨HT.out.fit, HT.out.st, HT.out.row, HT.out.len, Nat.le_trans HB0.out.size HT.out.bl, HT.out.capr, HT.out.caph, HT.out.caps⟩, hb1⟩
set_option maxRecDepth 100000 in
set_option maxHeartbeats 2000000 in
theorem matched_no (A0 : Option Addr) (c0 : Nat) (F : List Int) (A1 : Option Addr) (c1 : Nat) (S : List S50) (A2 : Option Addr) (c2 : Nat) (T : List (List Int)) (w : World)
  (hk : BOK F S T) (hr1 : Kd.C k50 w A1 S.length S) (hr2 : Kd.C (Kd.slice 3 (Kd.int .i64)) w A2 T.length T) (hok : isF F S T = false) :
  Calls Try.prog 56 #[.agg #[.slice A0 F.length c0, .slice A1 S.length c1, .slice A2 T.length c2]] w fun e w' => e = .returned (.tuple #[.pointer none, .int .i64 40]) ∧ Below w.heap.size w w' := by
 have hB0 := (Below.refl w.heap.size w).alloc (Nat.le_refl _) (.cells #[.slice A0 F.length c0, .slice A1 S.length c1, .slice A2 T.length c2] 26)
 have TC := some_calls A0 c0 F A1 c1 S A2 c2 T _ hk (Kd.C_below hr1 hB0) (Kd.C_below hr2 hB0)
 unfold SomePost at TC
 unfold isF at hok
 generalize fillF T (rooms S) S.length (-1) (List.replicate F.length (-1)) = q at *
 have HB0 := Go.Lib.hid hB0
 rw [hok] at TC
 clear hr1 hr2 hB0 hok
 go_enter Try.func56, Try.ntmps56
 go_wp2_with fail
 refine TC.mono ?_
 clear TC
 rintro e w1 ⟨t, rfl, e1, e2, e3, hT, hB⟩
 have HB := Go.Lib.hid hB
 clear hT hB e1 e2 e3
 go_wp2_with fail
 go_ret2
 exact ⟨rfl, HB0.out.trans (HB.out.mono HB0.out.size)⟩
end Go.Proofs.Ytkmmihadcbfkoaa
end

section
namespace Go.Proofs.Ytkmmihadcbfkoaa
open PM
theorem risB_at {l : List Int} {a b : Int} (h : risB l a b = true) : ∀ i, i < l.length → a ≤ l.getD i 0 ∧ l.getD i 0 ≤ b ∧ (0 < i → l.getD (i - 1) 0 < l.getD i 0) := by
 intro i hi
 have := List.all_eq_true.1 h i (List.mem_range.2 hi)
 unfold risAt inB at this
 simp only [Bool.and_eq_true, Bool.or_eq_true, decide_eq_true_eq] at this
 exact ⟨this.1.1, this.1.2, fun h0 => by rcases this.2 with h | h; exact absurd h (by omega); exact h⟩
theorem risB_low {l : List Int} {a b : Int} (h : risB l a b = true) : ∀ i : Nat, i < l.length → a + i ≤ l.getD i 0
 | 0, hi => by have := (risB_at h 0 hi).1; omega
 | i + 1, hi => by
  have ih := risB_low h i (by omega)
  have := (risB_at h (i + 1) hi).2.2 (by omega)
  rw [Nat.add_sub_cancel] at this
  omega
theorem risB_len {l : List Int} {b : Int} (h : risB l 0 b = true) : (l.length : Int) ≤ b + 1 ∨ l = [] := by
 cases hl : l.length with
 | zero => exact Or.inr (List.length_eq_zero_iff.1 hl)
 | succ n =>
  have h1 := risB_low h n (by omega)
  have h2 := (risB_at h n (by omega)).2.1
  exact Or.inl (by omega)
theorem check_parts {F : List Int} {S : List S50} {T : List (List Int)} (h : checkB F S T = 0) : F.length ≤ 60 ∧ S.length ≤ 200 ∧ risB F 10 10000007 = true ∧ T.length = F.length ∧ slotsB S = true ∧ fitsB S T = true := by
 unfold checkB at h
 split at h
 ·
  exact absurd h (by decide)
 split at h
 ·
  exact absurd h (by decide)
 rename_i h1 h2
 split at h
 ·
  exact absurd h (by decide)
 split at h
 ·
  exact absurd h (by decide)
 rename_i h3 h4
 refine ⟨by omega, by omega, ?_, ?_, by simpa using h3, by simpa using h4⟩
 ·
  cases hr : risB F 10 10000007 with
  | true => rfl
  | false => exact absurd (Or.inl hr) h2
 exact Decidable.byContradiction fun hn => h2 (Or.inr hn)
theorem fits_row {S : List S50} {T : List (List Int)} (h : fitsB S T = true) (i : Nat) (hi : i < T.length) : risB (T.getD i []) 0 ((S.length : Int) - 1) = true := by
 have := List.all_eq_true.1 h (T.getD i []) (by rw [List.getD_eq_getElem?_getD, List.getElem?_eq_getElem hi]; exact List.getElem_mem hi)
 exact this
theorem bok_of_check {F : List Int} {S : List S50} {T : List (List Int)} (h : checkB F S T = 0) : BOK F S T := by
 obtain ⟨h1, h2, h3, h4, h5, h6⟩ := check_parts h
 refine ⟨h1, h2, h4, fun i hi => ?_, fun i hi j hj => ?_⟩
 ·
  rcases risB_len (fits_row h6 i hi) with h | h
  ·
   omega
  rw [h]; simp
 have := risB_at (fits_row h6 i hi) j hj
 omega
theorem room_bound {F : List Int} {S : List S50} {T : List (List Int)} (h : checkB F S T = 0) (i : Nat) (hi : i < S.length) : 1 ≤ (rooms S).getD i 0 ∧ (rooms S).getD i 0 ≤ 20 := by
 have h5 := (check_parts h).2.2.2.2.1
 have := List.all_eq_true.1 h5 i (List.mem_range.2 hi)
 unfold slotAt slotIn inB at this
 simp only [Bool.and_eq_true, decide_eq_true_eq] at this
 have e : (rooms S).getD i 0 = (S.getD i z50).f2 := by
  simp [rooms, List.getD_eq_getElem?_getD, List.getElem?_eq_getElem hi]
 rw [e]
 exact this.1.1.2
end Go.Proofs.Ytkmmihadcbfkoaa
end

section
namespace Go.Proofs.Ytkmmihadcbfkoaa
open Go.RowKit Go.Proofs.YtkmmihadcbfkoaaW.PrintWords PM
set_option linter.unusedVariables false
set_option linter.unusedSimpArgs false
/-- From some fuel on it comes to r. -/
def Ev {α : Type} (f : Nat → Option α) (r : α) : Prop := ∃ K, ∀ k, K ≤ k → f k = some r
theorem Ev.step {α : Type} {f g : Nat → Option α} {r : α} (h : Ev g r) (hs : ∀ k, f (k + 1) = g k) : Ev f r := by
 obtain ⟨K, hK⟩ := h
 refine ⟨K + 1, fun k hk => ?_⟩
 obtain ⟨k, rfl⟩ : ∃ m, k = m + 1 := ⟨k - 1, by omega⟩
 rw [hs, hK k (by omega)]
theorem Ev.const {α : Type} (r : α) : Ev (fun _ => some r) r := ⟨0, fun _ _ => rfl⟩
theorem Ev.bind {α β : Type} {f : Nat → Option α} {g : Nat → α → Option β} {r : α} {s : β} (h : Ev f r) (h2 : Ev (fun k => g k r) s) : Ev (fun k => (f k).bind (g k)) s := by
 obtain ⟨K, hK⟩ := h
 obtain ⟨L, hL⟩ := h2
 refine ⟨max K L, fun k hk => ?_⟩
 show (f k).bind (g k) = _
 rw [hK k (by omega), Option.bind_some]
 exact hL k (by omega)
theorem Ev.congr {α : Type} {f g : Nat → Option α} {r : α} (h : Ev g r) (hs : ∀ k, f k = g k) : Ev f r := by
 obtain ⟨K, hK⟩ := h
 exact ⟨K, fun k hk => by rw [hs, hK k hk]⟩
theorem rd_nat (l : List Int) (i : Nat) : rd l (i : Int) = l.getD i 0 := by simp [rd]
theorem rd_pred (l : List Int) (i : Nat) (h : 0 < i) : rd l ((i : Int) - 1) = l.getD (i - 1) 0 := by
 unfold rd
 congr 1
 omega
theorem ascending_ev (l : List Int) (n : Int) (hl : l.length ≤ 9223372036854775807) (d : Nat) : ∀ i : Nat, l.length - i = d → i ≤ l.length →
  Ev (fun k => laganref04_ascending.l0 k l n (i : Int)) (((List.range l.length).drop i).all (risAt l 0 (n - 1))) := by
 induction d with
 | zero =>
  intro i hd hi
  rw [List.drop_of_length_le (by simp; omega)]
  exact (Ev.const true).step fun k => by simp only [laganref04_ascending.l0]; rw [if_neg (by omega)]
 | succ d ih =>
  intro i hd hi
  have hlt : i < l.length := by omega
  have hw := wrap_pm (i := (i : Int)) (by omega) (by omega)
  have ih' := ih (i + 1) (by omega) (by omega)
  rw [show (((i + 1 : Nat)) : Int) = (i : Int) + 1 from by omega] at ih'
  rw [all_range_step hlt]
  have hr : risAt l 0 (n - 1) i = (decide (0 ≤ l.getD i 0) && decide (l.getD i 0 < n) && (decide (i = 0) || decide (l.getD (i - 1) 0 < l.getD i 0))) := by
   unfold risAt inB
   congr 2
   exact decide_eq_decide.2 ⟨fun h => by omega, fun h => by omega⟩
  by_cases h1 : l.getD i 0 < 0
  ·
   rw [hr, decide_eq_false (show ¬ 0 ≤ l.getD i 0 by omega)]
   exact (Ev.const false).step fun k => by
    simp only [laganref04_ascending.l0]
    rw [if_pos (by omega), if_pos (by omega), rd_nat, if_pos h1]
  by_cases h2 : l.getD i 0 ≥ n
  ·
   rw [hr, decide_eq_false (show ¬ l.getD i 0 < n by omega), Bool.and_false, Bool.false_and, Bool.false_and]
   exact (Ev.const false).step fun k => by
    simp only [laganref04_ascending.l0]
    rw [if_pos (by omega), if_pos (by omega), rd_nat, if_neg h1, if_pos h2]
  rw [hr, decide_eq_true (show 0 ≤ l.getD i 0 by omega), decide_eq_true (show l.getD i 0 < n by omega)]
  by_cases hz : i = 0
  ·
   subst hz
   refine Ev.step (g := fun k => laganref04_ascending.l0 k l n ((0 : Nat) + 1 : Int)) (by simpa using ih') fun k => ?_
   simp only [laganref04_ascending.l0]
   rw [if_pos (by omega), if_pos (by omega), rd_nat, if_neg h1, if_neg h2, if_neg (by omega), hw.1]
  by_cases h3 : l.getD i 0 ≤ l.getD (i - 1) 0
  ·
   rw [decide_eq_false hz, decide_eq_false (show ¬ l.getD (i - 1) 0 < l.getD i 0 by omega), Bool.or_false, Bool.and_false, Bool.false_and]
   exact (Ev.const false).step fun k => by
    simp only [laganref04_ascending.l0]
    rw [if_pos (by omega), if_pos (by omega), rd_nat, if_neg h1, if_neg h2, if_pos (by omega), hw.2, if_pos (by omega), if_pos (by omega), rd_pred _ _ (by omega), if_pos h3]
  rw [decide_eq_true (show l.getD (i - 1) 0 < l.getD i 0 by omega)]
  refine Ev.step (g := fun k => laganref04_ascending.l0 k l n ((i : Int) + 1)) (by simpa using ih') fun k => ?_
  simp only [laganref04_ascending.l0]
  rw [if_pos (by omega), if_pos (by omega), rd_nat, if_neg h1, if_neg h2, if_pos (by omega), hw.2, if_pos (by omega), if_pos (by omega), rd_pred _ _ (by omega), if_neg h3, hw.1]
theorem ascending_is (l : List Int) (n : Int) (hl : l.length ≤ 9223372036854775807) : Ev (fun k => laganref04_ascending.f k l n) (risB l 0 (n - 1)) := by
 have := ascending_ev l n hl l.length 0 (by omega) (by omega)
 unfold risB
 exact this
end Go.Proofs.Ytkmmihadcbfkoaa
end

section
namespace Go.Proofs.Ytkmmihadcbfkoaa
open Go.RowKit Go.Proofs.YtkmmihadcbfkoaaW.PrintWords PM
set_option linter.unusedVariables false
set_option linter.unusedSimpArgs false
/-- Does slot i come behind the one ahead of it? -/
def slotUp (S : List S50) (i : Nat) : Bool := decide (i = 0) || (decide ((S.getD (i - 1) z50).f0 < (S.getD i z50).f0) || decide ((S.getD (i - 1) z50).f0 = (S.getD i z50).f0) && decide ((S.getD (i - 1) z50).f1 < (S.getD i z50).f1))
def slotRef (S : List S50) (i : Nat) : Bool := slotIn (S.getD i z50) && slotUp S i
theorem l2_ev (F : List Int) (S : List S50) (T : List (List Int)) (hT : T.length ≤ 9223372036854775807) (hr : ∀ l, l ∈ T → l.length ≤ 9223372036854775807) (d : Nat) : ∀ i : Nat, T.length - i = d → i ≤ T.length →
  Ev (fun k => laganref04_CheckBoard.l2 k (i : Int) F S T) (if (T.drop i).all (fun l => risB l 0 ((S.length : Int) - 1)) then (0 : Int) else 1) := by
 induction d with
 | zero =>
  intro i hd hi
  rw [List.drop_of_length_le (by omega)]
  exact (Ev.const (0 : Int)).step fun k => by simp only [laganref04_CheckBoard.l2]; rw [if_neg (by omega)]
 | succ d ih =>
  intro i hd hi
  have hlt : i < T.length := by omega
  have hw := wrap_pm (i := (i : Int)) (by omega) (by omega)
  have ih' := ih (i + 1) (by omega) (by omega)
  rw [show (((i + 1 : Nat)) : Int) = (i : Int) + 1 from by omega] at ih'
  have hrd : rd_L1 T (i : Int) = T[i] := by simp [rd_L1, List.getD_eq_getElem?_getD, List.getElem?_eq_getElem hlt]
  have ha := ascending_is T[i] (S.length : Int) (hr _ (List.getElem_mem hlt))
  rw [List.drop_eq_getElem_cons hlt, List.all_cons]
  refine Ev.step (g := fun k => (laganref04_ascending.f k T[i] (S.length : Int)).bind fun t143 => (if t143 = true then (laganref04_CheckBoard.l2 k ((i : Int) + 1) F S T) else (some 1))) (Ev.bind ha ?_) fun k => ?_
  ·
   cases hb : risB T[i] 0 ((S.length : Int) - 1) with
   | true => simpa using ih'
   | false => simpa using Ev.const (1 : Int)
  simp only [laganref04_CheckBoard.l2]
  rw [if_pos (by omega), if_pos (by omega), hrd, hw.1]
theorem rd_S (S : List S50) (i : Nat) : rd_T50 S (i : Int) = S.getD i z50 := by simp [rd_T50]
theorem rd_S1 (S : List S50) (i : Nat) (h : 0 < i) : rd_T50 S ((i : Int) - 1) = S.getD (i - 1) z50 := by
 unfold rd_T50
 congr 1
 omega
/-- Behind the slots. -/
def behind (F : List Int) (S : List S50) (T : List (List Int)) : Int := if T.length = F.length then (if fitsB S T then 0 else 1) else 1
theorem l1_ev (F : List Int) (S : List S50) (T : List (List Int)) (hS : S.length ≤ 9223372036854775807) (hT : T.length ≤ 9223372036854775807) (hr : ∀ l, l ∈ T → l.length ≤ 9223372036854775807) (d : Nat) : ∀ i : Nat, S.length - i = d → i ≤ S.length →
  Ev (fun k => laganref04_CheckBoard.l1 k (i : Int) F S T) (if ((List.range S.length).drop i).all (slotRef S) then behind F S T else 1) := by
 induction d with
 | zero =>
  intro i hd hi
  rw [List.drop_of_length_le (by simp; omega)]
  have h2 := l2_ev F S T hT hr T.length 0 (by omega) (by omega)
  refine Ev.step (g := fun k => if (T.length : Int) = (F.length : Int) then laganref04_CheckBoard.l2 k 0 F S T else some 1) ?_ fun k => by simp only [laganref04_CheckBoard.l1]; rw [if_neg (by omega)]
  unfold behind
  by_cases he : T.length = F.length
  ·
   have he' : (T.length : Int) = (F.length : Int) := by omega
   simp only [if_pos he', if_pos he]
   simpa [fitsB] using h2
  have he' : ¬ (T.length : Int) = (F.length : Int) := by omega
  simp only [if_neg he', if_neg he]
  simpa using Ev.const (1 : Int)
 | succ d ih =>
  intro i hd hi
  have hlt : i < S.length := by omega
  have hw := wrap_pm (i := (i : Int)) (by omega) (by omega)
  have ih' := ih (i + 1) (by omega) (by omega)
  rw [show (((i + 1 : Nat)) : Int) = (i : Int) + 1 from by omega] at ih'
  rw [all_range_step hlt]
  obtain ⟨s, hs⟩ : ∃ s, S.getD i z50 = s := ⟨_, rfl⟩
  obtain ⟨rest, hrest⟩ : ∃ rest, ((List.range S.length).drop (i + 1)).all (slotRef S) = rest := ⟨_, rfl⟩
  rw [hrest] at ih' ⊢
  have hj : ∀ bad : Bool, Ev (fun k => laganref04_CheckBoard.j3 k (i : Int) bad F S T s.f0 s.f1 s.f2) (if bad = true then (1 : Int) else if (slotUp S i && rest) = true then behind F S T else 1) := by
   intro bad
   cases bad with
   | true => exact (Ev.const (1 : Int)).step fun k => by simp only [laganref04_CheckBoard.j3]; first | rfl | rw [if_pos trivial] | simp
   | false =>
    by_cases hz : i = 0
    ·
     subst hz
     refine Ev.step (g := fun k => laganref04_CheckBoard.l1 k (((0 : Nat) : Int) + 1) F S T) ?_ fun k => by
      simp only [laganref04_CheckBoard.j3]
      rw [if_neg (by simp), if_neg (by omega), hw.1]
     simpa [slotUp] using ih'
    ·
     obtain ⟨p, hp⟩ : ∃ p, S.getD (i - 1) z50 = p := ⟨_, rfl⟩
     have hup : slotUp S i = (decide (p.f0 < s.f0) || decide (p.f0 = s.f0) && decide (p.f1 < s.f1)) := by
      unfold slotUp
      rw [hp, hs, decide_eq_false hz, Bool.false_or]
     rw [hup]
     by_cases h1 : s.f0 < p.f0
     ·
      rw [decide_eq_false (show ¬ p.f0 < s.f0 by omega), decide_eq_false (show ¬ p.f0 = s.f0 by omega)]
      exact (Ev.const (1 : Int)).step fun k => by
       simp only [laganref04_CheckBoard.j3]
       rw [if_neg (by simp), if_pos (by omega), hw.2, if_pos (by omega), if_pos (by omega), rd_S1 _ _ (by omega), hp, if_pos h1]
     ·
      by_cases h2 : s.f0 = p.f0
      ·
       by_cases h3 : s.f1 ≤ p.f1
       ·
        rw [decide_eq_false (show ¬ p.f0 < s.f0 by omega), decide_eq_false (show ¬ p.f1 < s.f1 by omega), Bool.and_false]
        exact (Ev.const (1 : Int)).step fun k => by
         simp only [laganref04_CheckBoard.j3]
         rw [if_neg (by simp), if_pos (by omega), hw.2, if_pos (by omega), if_pos (by omega), rd_S1 _ _ (by omega), hp, if_neg h1, if_pos h2, if_pos h3]
       ·
        rw [decide_eq_true (show p.f0 = s.f0 from h2.symm), decide_eq_true (show p.f1 < s.f1 by omega), Bool.and_true, Bool.or_true, Bool.true_and]
        refine Ev.step (g := fun k => laganref04_CheckBoard.l1 k ((i : Int) + 1) F S T) (by simpa using ih') fun k => by
         simp only [laganref04_CheckBoard.j3]
         rw [if_neg (by simp), if_pos (by omega), hw.2, if_pos (by omega), if_pos (by omega), rd_S1 _ _ (by omega), hp, if_neg h1, if_pos h2, if_neg h3, hw.1]
      ·
       rw [decide_eq_true (show p.f0 < s.f0 by omega), Bool.true_or, Bool.true_and]
       refine Ev.step (g := fun k => laganref04_CheckBoard.l1 k ((i : Int) + 1) F S T) (by simpa using ih') fun k => by
        simp only [laganref04_CheckBoard.j3]
        rw [if_neg (by simp), if_pos (by omega), hw.2, if_pos (by omega), if_pos (by omega), rd_S1 _ _ (by omega), hp, if_neg h1, if_neg h2, hw.1]
  have hb : (if (slotRef S i && rest) = true then behind F S T else 1) = (if (!slotIn s) = true then (1 : Int) else if (slotUp S i && rest) = true then behind F S T else 1) := by
   unfold slotRef
   rw [hs]
   cases slotIn s <;> simp
  rw [hb]
  refine Ev.step (hj (!slotIn s)) fun k => ?_
  simp only [laganref04_CheckBoard.l1]
  rw [if_pos (by omega), if_pos (by omega), rd_S, hs]
  unfold slotIn inB
  by_cases a1 : s.f0 < 1
  ·
   rw [if_pos a1, decide_eq_false (show ¬ 1 ≤ s.f0 by omega)]; simp
  rw [if_neg a1, decide_eq_true (show 1 ≤ s.f0 by omega)]
  by_cases a2 : s.f0 > 20
  ·
   rw [if_pos a2, decide_eq_false (show ¬ s.f0 ≤ 20 by omega)]; simp
  rw [if_neg a2, decide_eq_true (show s.f0 ≤ 20 by omega)]
  by_cases a3 : s.f1 < 1
  ·
   rw [if_pos a3, decide_eq_false (show ¬ 1 ≤ s.f1 by omega)]; simp
  rw [if_neg a3, decide_eq_true (show 1 ≤ s.f1 by omega)]
  by_cases a4 : s.f1 > 200
  ·
   rw [if_pos a4, decide_eq_false (show ¬ s.f1 ≤ 200 by omega)]; simp
  rw [if_neg a4, decide_eq_true (show s.f1 ≤ 200 by omega)]
  by_cases a5 : s.f2 < 1
  ·
   rw [if_pos a5, decide_eq_false (show ¬ 1 ≤ s.f2 by omega)]; simp
  rw [if_neg a5, decide_eq_true (show 1 ≤ s.f2 by omega)]
  by_cases a6 : s.f2 > 20
  rotate_left
  ·
   rw [decide_eq_false a6, decide_eq_true (show s.f2 ≤ 20 by omega)]; simp
  rw [decide_eq_true a6, decide_eq_false (show ¬ s.f2 ≤ 20 by omega)]; simp
end Go.Proofs.Ytkmmihadcbfkoaa
end

section
namespace Go.Proofs.Ytkmmihadcbfkoaa
open Go.RowKit Go.Proofs.YtkmmihadcbfkoaaW.PrintWords PM
set_option linter.unusedVariables false
set_option linter.unusedSimpArgs false
def slotsRef (F : List Int) (S : List S50) (T : List (List Int)) : Int := if (List.range S.length).all (slotRef S) then behind F S T else 1
theorem l0_ev (F : List Int) (S : List S50) (T : List (List Int)) (hF : F.length ≤ 9223372036854775807) (hS : S.length ≤ 9223372036854775807) (hT : T.length ≤ 9223372036854775807) (hr : ∀ l, l ∈ T → l.length ≤ 9223372036854775807) (d : Nat) : ∀ i : Nat, F.length - i = d → i ≤ F.length →
  Ev (fun k => laganref04_CheckBoard.l0 k (i : Int) F S T) (if ((List.range F.length).drop i).all (risAt F 10 10000007) then slotsRef F S T else 1) := by
 induction d with
 | zero =>
  intro i hd hi
  rw [List.drop_of_length_le (by simp; omega)]
  have h1 := l1_ev F S T hS hT hr S.length 0 (by omega) (by omega)
  refine Ev.step (g := fun k => laganref04_CheckBoard.l1 k 0 F S T) ?_ fun k => by simp only [laganref04_CheckBoard.l0]; rw [if_neg (by omega)]
  simpa [slotsRef] using h1
 | succ d ih =>
  intro i hd hi
  have hlt : i < F.length := by omega
  have hw := wrap_pm (i := (i : Int)) (by omega) (by omega)
  have ih' := ih (i + 1) (by omega) (by omega)
  rw [show (((i + 1 : Nat)) : Int) = (i : Int) + 1 from by omega] at ih'
  rw [all_range_step hlt]
  have hra : risAt F 10 10000007 i = (decide (10 ≤ F.getD i 0) && decide (F.getD i 0 ≤ 10000007) && (decide (i = 0) || decide (F.getD (i - 1) 0 < F.getD i 0))) := rfl
  by_cases h1 : F.getD i 0 < 10
  ·
   rw [hra, decide_eq_false (show ¬ 10 ≤ F.getD i 0 by omega), Bool.false_and, Bool.false_and, Bool.false_and]
   exact (Ev.const (1 : Int)).step fun k => by
    simp only [laganref04_CheckBoard.l0]
    rw [if_pos (by omega), if_pos (by omega), rd_nat, if_pos h1]
  by_cases h2 : F.getD i 0 > 10000007
  ·
   rw [hra, decide_eq_false (show ¬ F.getD i 0 ≤ 10000007 by omega), Bool.and_false, Bool.false_and, Bool.false_and]
   exact (Ev.const (1 : Int)).step fun k => by
    simp only [laganref04_CheckBoard.l0]
    rw [if_pos (by omega), if_pos (by omega), rd_nat, if_neg h1, if_pos h2]
  rw [hra, decide_eq_true (show 10 ≤ F.getD i 0 by omega), decide_eq_true (show F.getD i 0 ≤ 10000007 by omega)]
  by_cases hz : i = 0
  ·
   subst hz
   rw [show (true && true && (decide ((0 : Nat) = 0) || decide (F.getD (0 - 1) 0 < F.getD 0 0))) = true from rfl, Bool.true_and]
   refine Ev.step (g := fun k => laganref04_CheckBoard.l0 k ((0 : Nat) + 1 : Int) F S T) (by simpa using ih') fun k => ?_
   simp only [laganref04_CheckBoard.l0]
   rw [if_pos (by omega), if_pos (by omega), rd_nat, if_neg h1, if_neg h2, if_neg (by omega), hw.1]
  by_cases h3 : F.getD i 0 ≤ F.getD (i - 1) 0
  ·
   rw [decide_eq_false hz, decide_eq_false (show ¬ F.getD (i - 1) 0 < F.getD i 0 by omega), Bool.or_false, Bool.and_false, Bool.false_and]
   exact (Ev.const (1 : Int)).step fun k => by
    simp only [laganref04_CheckBoard.l0]
    rw [if_pos (by omega), if_pos (by omega), rd_nat, if_neg h1, if_neg h2, if_pos (by omega), hw.2, if_pos (by omega), if_pos (by omega), rd_pred _ _ (by omega), if_pos h3]
  rw [decide_eq_true (show F.getD (i - 1) 0 < F.getD i 0 by omega)]
  refine Ev.step (g := fun k => laganref04_CheckBoard.l0 k ((i : Int) + 1) F S T) (by simpa using ih') fun k => ?_
  simp only [laganref04_CheckBoard.l0]
  rw [if_pos (by omega), if_pos (by omega), rd_nat, if_neg h1, if_neg h2, if_pos (by omega), hw.2, if_pos (by omega), if_pos (by omega), rd_pred _ _ (by omega), if_neg h3, hw.1]
/-- One key lies before another. -/
def KeyLt (a b : S50) : Prop := a.f0 < b.f0 ∨ a.f0 = b.f0 ∧ a.f1 < b.f1
theorem KeyLt.trans {a b c : S50} (h : KeyLt a b) (k : KeyLt b c) : KeyLt a c := by
 unfold KeyLt at *
 omega
theorem up_lt {S : List S50} {n : Nat} (h : ∀ i, i ≤ n → slotUp S i = true) (j : Nat) : ∀ i, j < i → i ≤ n → KeyLt (S.getD j z50) (S.getD i z50)
 | 0, h0, _ => absurd h0 (by omega)
 | i + 1, h0, hi => by
  have hs := h (i + 1) hi
  unfold slotUp at hs
  rw [decide_eq_false (by omega), Bool.false_or, Nat.add_sub_cancel] at hs
  have hk : KeyLt (S.getD i z50) (S.getD (i + 1) z50) := by
   simp only [Bool.or_eq_true, Bool.and_eq_true, decide_eq_true_eq] at hs
   exact hs
  rcases Nat.lt_succ_iff_lt_or_eq.1 h0 with hlt | rfl
  ·
   exact (up_lt h j i hlt (by omega)).trans hk
  ·
   exact hk
theorem slots_same (S : List S50) : (List.range S.length).all (slotRef S) = slotsB S := by
 rw [Bool.eq_iff_iff]
 unfold slotsB
 simp only [List.all_eq_true, List.mem_range]
 constructor
 ·
  intro h i hi
  have hu : ∀ j, j ≤ i → slotUp S j = true := fun j hj => by
   have := h j (by omega)
   unfold slotRef at this
   exact (Bool.and_eq_true _ _ ▸ this : _ ∧ _).2
  have hin : slotIn (S.getD i z50) = true := by
   have := h i hi
   unfold slotRef at this
   exact (Bool.and_eq_true _ _ ▸ this : _ ∧ _).1
  have hnk : slotKey (S.getD i z50) ∉ (S.take i).map slotKey := by
   intro hm
   obtain ⟨x, hx, he⟩ := List.mem_map.1 hm
   obtain ⟨j, hj, hje⟩ := List.getElem_of_mem hx
   rw [List.length_take] at hj
   have hj2 : j < i := by omega
   have hl := up_lt hu j i hj2 (Nat.le_refl _)
   have hxj : S.getD j z50 = x := by
    rw [← hje, List.getElem_take]
    simp [List.getD_eq_getElem?_getD, List.getElem?_eq_getElem (show j < S.length by omega)]
   rw [hxj] at hl
   unfold slotKey at he
   injection he with e1 e2
   injection e2 with e2 _
   unfold KeyLt at hl
   omega
  have hbk : slotBack S i = false := by
   unfold slotBack
   by_cases hz : i = 0
   ·
    subst hz; rfl
   ·
    have := hu i (Nat.le_refl _)
    unfold slotUp at this
    rw [decide_eq_false hz, Bool.false_or] at this
    simp only [Bool.or_eq_true, Bool.and_eq_true, decide_eq_true_eq] at this
    simp only [Bool.and_eq_false_iff, Bool.or_eq_false_iff, decide_eq_false_iff_not]
    omega
  unfold slotAt
  rw [hin, hbk, decide_eq_false hnk]
  rfl
 intro h i hi
 have hi1 := h i hi
 unfold slotAt at hi1
 simp only [Bool.and_eq_true, Bool.not_eq_true', decide_eq_false_iff_not] at hi1
 obtain ⟨⟨hin, hnk⟩, hbk⟩ := hi1
 have hup : slotUp S i = true := by
  unfold slotUp
  by_cases hz : i = 0
  ·
   subst hz; rfl
  ·
   have hne : ¬ (slotKey (S.getD (i - 1) z50) = slotKey (S.getD i z50)) := by
    intro e
    refine hnk (List.mem_map.2 ⟨S.getD (i - 1) z50, ?_, e⟩)
    rw [List.mem_iff_getElem]
    refine ⟨i - 1, by rw [List.length_take]; omega, ?_⟩
    rw [List.getElem_take]
    simp [List.getD_eq_getElem?_getD, List.getElem?_eq_getElem (show i - 1 < S.length by omega)]
   have hne2 : ¬ ((S.getD (i - 1) z50).f0 = (S.getD i z50).f0 ∧ (S.getD (i - 1) z50).f1 = (S.getD i z50).f1) := fun ⟨e1, e2⟩ => hne (by unfold slotKey; rw [e1, e2])
   unfold slotBack at hbk
   simp only [Bool.and_eq_false_iff, Bool.or_eq_false_iff, decide_eq_false_iff_not] at hbk
   rw [decide_eq_false hz, Bool.false_or]
   simp only [Bool.or_eq_true, Bool.and_eq_true, decide_eq_true_eq]
   omega
 unfold slotRef
 rw [hin, hup]
 rfl
theorem refcheck_is (F : List Int) (S : List S50) (T : List (List Int)) (hF : F.length ≤ 9223372036854775807) (hS : S.length ≤ 9223372036854775807) (hT : T.length ≤ 9223372036854775807) (hr : ∀ l, l ∈ T → l.length ≤ 9223372036854775807) :
  Ev (fun k => laganref04_CheckBoard.f k F S T) (checkB F S T) := by
 have h0 := l0_ev F S T hF hS hT hr F.length 0 (by omega) (by omega)
 unfold checkB
 have hj : ∀ bad : Bool, Ev (fun k => laganref04_CheckBoard.j0 k bad F S T) (if bad = true then (2 : Int) else if risB F 10 10000007 then slotsRef F S T else 1) := by
  intro bad
  cases bad with
  | true => exact (Ev.const (2 : Int)).step fun k => by simp only [laganref04_CheckBoard.j0]; first | rfl | rw [if_pos trivial] | simp
  | false =>
   refine Ev.step (g := fun k => laganref04_CheckBoard.l0 k 0 F S T) (by simpa [risB] using h0) fun k => by
    simp only [laganref04_CheckBoard.j0]; first | rfl | rw [if_neg (by simp)] | simp
 by_cases h1 : F.length > 60
 ·
  rw [if_pos (Or.inl h1)]
  refine (hj true).congr fun k => ?_
  unfold laganref04_CheckBoard.f
  rw [if_pos (by omega)]
 by_cases h2 : S.length > 200
 ·
  rw [if_pos (Or.inr h2)]
  refine (hj true).congr fun k => ?_
  unfold laganref04_CheckBoard.f
  rw [if_neg (by omega), decide_eq_true (by omega)]
 rw [if_neg (by omega)]
 have hv : (if risB F 10 10000007 = false ∨ T.length ≠ F.length then (1 : Int) else if slotsB S = false then 1 else if fitsB S T = false then 1 else 0) = (if risB F 10 10000007 then slotsRef F S T else 1) := by
  unfold slotsRef behind
  rw [slots_same]
  cases risB F 10 10000007 <;> cases slotsB S <;> cases fitsB S T <;> by_cases he : T.length = F.length <;> simp [he]
 rw [hv]
 refine Ev.congr (by simpa using hj false) fun k => ?_
 unfold laganref04_CheckBoard.f
 rw [if_neg (by omega), decide_eq_false (by omega)]
end Go.Proofs.Ytkmmihadcbfkoaa
end

section
namespace Go.Proofs.Ytkmmihadcbfkoaa
open Go.RowKit Go.Proofs.YtkmmihadcbfkoaaW.PrintWords PM
set_option linter.unusedVariables false
set_option linter.unusedSimpArgs false
abbrev Key := Int × Int × Int
def keyV (k : Key) : Value := .agg #[.int .i64 k.1, .int .i64 k.2.1, .int .i64 k.2.2]
theorem run_checkKey (empty : Bool) (k : Key) (w : World) : (Instr.checkKey empty 10000 50 (keyV k)).run Try.prog w = .ok () w := by kernel_rfl
theorem run_equal_key (k q : Key) (w : World) : (Op.equal 50 (keyV k) (keyV q)).run Try.prog w = .ok (decide (k = q)) w := by
 have h := eqA50 9998 w k.1 q.1 k.2.1 q.2.1 k.2.2 q.2.2
 have e : (k.1 == q.1 && (k.2.1 == q.2.1 && k.2.2 == q.2.2)) = decide (k = q) := by
  obtain ⟨a, b, c⟩ := k
  obtain ⟨a', b', c'⟩ := q
  rw [Bool.eq_iff_iff]
  simp
 rw [← e]
 exact h
/-- Block m is a map that is the set of these keys. -/
def SetMap (w : World) (m : Nat) (ks : List Key) : Prop := ∃ es clock, w.heap[m]? = some (.map es clock) ∧ es.toList.map (fun e => (e.key, e.val)) = ks.map fun k => (keyV k, Value.bool true)
theorem run_findAsking (k : Key) : ∀ (es : List MapEntry) (ks : List Key) (i : Nat) (w : World), es.map (fun e => (e.key, e.val)) = ks.map (fun k => (keyV k, Value.bool true)) →
  (k ∈ ks → ∃ j, (Instr.findAsking 50 (keyV k) es i).run Try.prog w = .ok (some (j, .bool true)) w) ∧ (k ∉ ks → (Instr.findAsking 50 (keyV k) es i).run Try.prog w = .ok none w)
 | [], ks, i, w, h => by
  have : ks = [] := by cases ks with | nil => rfl | cons _ _ => simp at h
  subst this
  exact ⟨fun h => absurd h (by simp), fun _ => rfl⟩
 | e :: es, [], i, w, h => by simp at h
 | e :: es, q :: ks, i, w, h => by
  simp only [List.map_cons, List.cons.injEq, Prod.mk.injEq] at h
  obtain ⟨⟨h1, h2⟩, h3⟩ := h
  have ih := run_findAsking k es ks (i + 1) w h3
  have hq := run_equal_key k q w
  by_cases e0 : k = q
  ·
   refine ⟨fun _ => ⟨i, ?_⟩, fun hn => absurd (by simp [e0]) hn⟩
   subst e0
   simp only [Instr.findAsking, h1, h2]
   simp [hq, go_sem]
  ·
   refine ⟨fun hm => ?_, fun hn => ?_⟩
   ·
    obtain ⟨j, hj⟩ := ih.1 (by simpa [e0] using hm)
    refine ⟨j, ?_⟩
    simp only [Instr.findAsking, h1, h2]
    simp [hq, e0, hj, go_sem]
   ·
    have hj := ih.2 (by simpa [e0] using hn)
    simp only [Instr.findAsking, h1, h2]
    simp [hq, e0, hj, go_sem]
theorem run_findKey (k : Key) (es : List MapEntry) (ks : List Key) (w : World) (h : es.map (fun e => (e.key, e.val)) = ks.map (fun k => (keyV k, Value.bool true))) :
  (k ∈ ks → ∃ j, (Instr.findKey 50 (keyV k) es).run Try.prog w = .ok (some (j, .bool true)) w) ∧ (k ∉ ks → (Instr.findKey 50 (keyV k) es).run Try.prog w = .ok none w) := by
 cases es with
 | nil =>
  have : ks = [] := by cases ks with | nil => rfl | cons _ _ => simp at h
  subst this
  refine ⟨fun h => absurd h (by simp), fun _ => ?_⟩
  simp [Instr.findKey, Instr.findNow, run_underlying Try.underlying50]
 | cons e es =>
  have hf := run_findAsking k (e :: es) ks 0 w h
  have key : (Instr.findKey 50 (keyV k) (e :: es)).run Try.prog w = (Instr.findAsking 50 (keyV k) (e :: es)).run Try.prog w := by
   simp [Instr.findKey, Instr.findNow, Instr.sameNow, run_underlying Try.underlying50]
  rw [key]
  exact hf
theorem run_getMap {w : World} {m : Nat} {es : Array MapEntry} {clock : Nat} (h : w.heap[m]? = some (.map es clock)) : (getObj m).run Try.prog w = .ok (.map es clock) w := by
 simp [getObj, Sem.run, h]
theorem run_setMap {w : World} {m : Nat} {es : Array MapEntry} {clock : Nat} (h : w.heap[m]? = some (.map es clock)) (o : Obj) : (setObj m o).run Try.prog w = .ok () (w.putObj m o) := by
 simp [setObj, Sem.run, h, World.putObj]
theorem run_lookup_set (m : Nat) (ks : List Key) (k : Key) (w : World) (h : SetMap w m ks) : (Instr.lookup 97 (.map (some m)) (keyV k) false).run Try.prog w = .ok (.bool (decide (k ∈ ks))) w := by
 obtain ⟨es, clock, hm, he⟩ := h
 have hf := run_findKey k es.toList ks w he
 have hc := run_checkKey es.isEmpty k w
 by_cases hk : k ∈ ks
 rotate_left
 ·
  have hj := hf.2 hk
  simp [Instr.lookup, run_underlying Try.underlying97, run_getMap hm, hc, hj, hk, go_sem]
 obtain ⟨j, hj⟩ := hf.1 hk
 simp [Instr.lookup, run_underlying Try.underlying97, run_getMap hm, hc, hj, hk, go_sem]
theorem run_update_set (m : Nat) (ks : List Key) (k : Key) (w : World) (h : SetMap w m ks) (hk : k ∉ ks) : ∃ w', (Instr.mapUpdate 97 (.map (some m)) (keyV k) (.bool true)).run Try.prog w = .ok () w' ∧ SetMap w' m (ks ++ [k]) ∧ w.grownBy w' (some m) ∧ w'.heap.size = w.heap.size := by
 obtain ⟨es, clock, hm, he⟩ := h
 have hf := run_findKey k es.toList ks w he
 have hc := run_checkKey false k w
 have hj := hf.2 hk
 have hml := (Array.getElem?_eq_some_iff.1 hm).1
 refine ⟨w.putObj m (.map (es.push { key := keyV k, val := .bool true, born := clock }) (clock + 1)), ?_, ⟨_, _, World.putObj_heap_same hml, ?_⟩, grownBy_putObj' _ _ _, ?_⟩
 ·
  simp [Instr.mapUpdate, run_underlying Try.underlying97, run_getMap hm, hc, hj, run_setMap hm, go_sem]
 ·
  simp [he]
 simp [World.putObj]
theorem run_make_set (w : World) : (Instr.makeMap 97 none).run Try.prog w = .ok (.map (some w.heap.size)) (w.alloc (.map #[] 0)) := by
 simp [Instr.makeMap, run_underlying Try.underlying97, go_sem]
end Go.Proofs.Ytkmmihadcbfkoaa
end

section
namespace Go.Proofs.Ytkmmihadcbfkoaa
open Go.RowKit Go.Proofs.YtkmmihadcbfkoaaW.PrintWords PM
set_option linter.unusedVariables false
set_option linter.unusedSimpArgs false
def CbPost (r : Int) (w : World) (e : Ending) (w' : World) : Prop := e = .returned (.int .i64 r) ∧ Below w.heap.size w w'
/-- Between two rounds of the loop over the slots: the board's box, the map of the keys seen. -/
structure CbRel (S : List S50) (s0 s1 s2 : Value) (m : Nat) (w : World) (k : Nat) (wr : World) : Prop where
 ok : ∀ j, j < k → slotAt S j = true
 box : wr.heap[w.heap.size]? = some (.cells #[s0, s1, s2] 26 (0, 0))
 set : SetMap wr m ((S.take k).map slotKey)
 bl : Below w.heap.size w wr
set_option maxRecDepth 100000 in
set_option maxHeartbeats 8000000 in
theorem checkboard_calls (A0 : Option Addr) (c0 : Nat) (F : List Int) (A1 : Option Addr) (c1 : Nat) (S : List S50) (A2 : Option Addr) (c2 : Nat) (T : List (List Int)) (w : World)
  (hr0 : Kd.C (Kd.int .i64) w A0 F.length F) (hc0 : F.length ≤ c0) (hr1 : Kd.C k50 w A1 S.length S) (hr2 : Kd.C (Kd.slice 3 (Kd.int .i64)) w A2 T.length T) :
  Calls Try.prog 47 #[.agg #[.slice A0 F.length c0, .slice A1 S.length c1, .slice A2 T.length c2]] w (CbPost (checkB F S T) w) := by
 have hB0 := (Below.refl w.heap.size w).alloc (Nat.le_refl _) (.cells #[.slice A0 F.length c0, .slice A1 S.length c1, .slice A2 T.length c2] 26)
 have b0 := World.alloc_heap_new w (.cells #[.slice A0 F.length c0, .slice A1 S.length c1, .slice A2 T.length c2] 26)
 have lF : F.length ≤ 9223372036854775807 := hr0.2.1
 have lS : S.length ≤ 9223372036854775807 := hr1.2.1
 have lT : T.length ≤ 9223372036854775807 := hr2.2.1
 obtain ⟨q, hq⟩ : ∃ q, checkB F S T = q := ⟨_, rfl⟩
 rw [hq]
 unfold checkB at hq
 by_cases h1 : 60 < F.length ∨ 200 < S.length
 ·
  rw [if_pos h1] at hq
  subst hq
  by_cases h2 : 60 < F.length
  ·
   have g1 : decide ((60 : Int) < (F.length : Int)) = true := by simp; omega
   go_enter Try.func47, Try.ntmps47
   go_wp2_with fail
   go_ret
   exact ⟨rfl, hB0⟩
  have h3 : 200 < S.length := by omega
  have g1 : decide ((60 : Int) < (F.length : Int)) = false := by simp; omega
  have g2 : decide ((200 : Int) < (S.length : Int)) = true := by simp; omega
  go_enter Try.func47, Try.ntmps47
  go_wp2_with fail
  go_ret
  exact ⟨rfl, hB0⟩
 rw [if_neg h1] at hq
 have g1 : decide ((60 : Int) < (F.length : Int)) = false := by simp; omega
 have g2 : decide ((200 : Int) < (S.length : Int)) = false := by simp; omega
 have HQ := Go.Lib.hid hq
 have HR0 := Go.Lib.hid hr0
 have HR1 := Go.Lib.hid hr1
 have HR2 := Go.Lib.hid hr2
 have HB0 := Go.Lib.hid hB0
 have hl1 : F.length ≤ 60 := by omega
 have hl2 : S.length ≤ 200 := by omega
 have RC := rising_calls A0 c0 F 10 10000007 _ (Kd.C_below hr0 hB0) hc0 lF
 clear hq hr0 hr1 hr2 hB0 h1
 clear b0
 go_enter Try.func47, Try.ntmps47
 go_wp2_with fail
 refine RC.mono ?_
 clear RC
 rintro e w1 ⟨rfl, hd1⟩
 have b1 : w1.heap[w.heap.size]? = some (.cells #[.slice A0 F.length c0, .slice A1 S.length c1, .slice A2 T.length c2] 26 (0, 0)) := by
  rw [hd1.below.block w.heap.size (by simp)]
  exact World.alloc_heap_new w _
 have k0 := cell_of_heap b1 (j := 0) rfl
 have k1 := cell_of_heap b1 (j := 1) rfl
 have k2 := cell_of_heap b1 (j := 2) rfl
 have hB1 : Below w.heap.size w w1 := HB0.out.trans (hd1.below.mono HB0.out.size)
 have HB1 := Go.Lib.hid hB1
 have BX1 := Go.Lib.hid b1
 clear hB1 b1 hd1
 cases hrs : risB F 10 10000007 with
 | false =>
  have HQ1 : q = 1 := by have := HQ.out; rw [if_pos (Or.inl hrs)] at this; exact this.symm
  subst HQ1
  clear hrs
  go_wp2_with fail
  go_ret
  exact ⟨rfl, HB1.out⟩
 | true =>
  have HRS := Go.Lib.hid hrs
  clear hrs
  by_cases hn : T.length = F.length
  rotate_left
  ·
   have g3 : decide ((T.length : Int) = (F.length : Int)) = false := by simp; omega
   have HQ1 : q = 1 := by have := HQ.out; rw [if_pos (Or.inr hn)] at this; exact this.symm
   subst HQ1
   go_wp2_with fail
   go_ret
   exact ⟨rfl, HB1.out⟩
  obtain ⟨m, W2, hm, hset, hB2, hml, b2⟩ : ∃ m W2, (Instr.makeMap 97 none).run Try.prog w1 = .ok (.map (some m)) W2 ∧ SetMap W2 m [] ∧ Below w.heap.size w W2 ∧ w.heap.size < m ∧ W2.heap[w.heap.size]? = w1.heap[w.heap.size]? :=
   ⟨_, _, run_make_set w1, ⟨#[], 0, World.alloc_heap_new _ _, rfl⟩, HB1.out.alloc HB1.out.size _, (Array.getElem?_eq_some_iff.1 BX1.out).1, ((Below.refl w1.heap.size w1).alloc (Nat.le_refl _) _).block _ (Array.getElem?_eq_some_iff.1 BX1.out).1⟩
  rw [BX1.out] at b2
  have j1 := cell_of_heap b2 (j := 1) rfl
  have g3 : decide ((T.length : Int) = (F.length : Int)) = true := by simp; omega
  have REL0 : CbRel S (.slice A0 F.length c0) (.slice A1 S.length c1) (.slice A2 T.length c2) m w 0 W2 := ⟨fun j hj => absurd hj (by omega), b2, hset, hB2⟩
  have REL := Go.Lib.hid REL0
  clear hset hB2 b2 REL0
  go_wp2_with fail
  go_loopw [34] (fun i wr => ∃ k : Nat, k ≤ S.length ∧ i = .int .i64 k ∧ Hid (CbRel S (.slice A0 F.length c0) (.slice A1 S.length c1) (.slice A2 T.length c2) m w k wr)) (fun i _ => S.length - (intOf i).toNat)
  case atStart => exact ⟨0, Nat.zero_le _, rfl, REL⟩
  obtain ⟨k, hk, rfl, HID⟩ := hrel
  by_cases hlt : k < S.length
  rotate_left
  ·
   obtain rfl : k = S.length := by omega
   obtain ⟨hok, hbx, hset, hbl⟩ := HID.out
   have hsB : slotsB S = true := by
    unfold slotsB
    rw [List.all_eq_true]
    exact fun j hj => hok j (List.mem_range.1 hj)
   have j2 := cell_of_heap hbx (j := 2) rfl
   have j1 := cell_of_heap hbx (j := 1) rfl
   have CC := contfunc_calls A2 c2 T w.heap.size A1 S.length c1 wr j1 hl2 (Kd.C_below HR2.out hbl) (by omega)
   have hq := HQ.out
   rw [if_neg (by rw [HRS.out, hn]; simp), if_neg (by rw [hsB]; simp)] at hq
   obtain ⟨f, hf⟩ : ∃ f, fitsB S T = f := ⟨_, rfl⟩
   rw [hf] at hq
   unfold fitsB at hf
   rw [hf] at CC
   have HBL := Go.Lib.hid hbl
   clear hok hbx hset hbl hsB hf HID
   rw [hn] at CC j2
   cases f with
   | true =>
    obtain rfl : q = 0 := by simpa using hq.symm
    rw [Bool.not_true] at CC
    clear hq
    go_wp2_with fail
    refine CC.mono ?_
    clear CC
    rintro e w9 ⟨rfl, hd⟩
    have hB9 := HBL.out.trans (hd.below.mono HBL.out.size)
    have HB9 := Go.Lib.hid hB9
    clear hB9 hd
    go_wp2_with fail
    go_ret
    exact ⟨rfl, HB9.out⟩
   | false =>
    obtain rfl : q = 1 := by simpa using hq.symm
    rw [Bool.not_false] at CC
    clear hq
    go_wp2_with fail
    refine CC.mono ?_
    clear CC
    rintro e w9 ⟨rfl, hd⟩
    have hB9 := HBL.out.trans (hd.below.mono HBL.out.size)
    have HB9 := Go.Lib.hid hB9
    clear hB9 hd
    go_wp2_with fail
    go_ret
    exact ⟨rfl, HB9.out⟩
  obtain ⟨hok, hbx, hset, hbl⟩ := HID.out
  obtain ⟨a9, e9, x0, x1, x2⟩ := at_T50 (Kd.C_below HR1.out hbl) (k : Int) (by omega) (by omega)
  rw [Int.toNat_natCast] at x0 x1 x2
  obtain ⟨s9, hs9⟩ : ∃ s9, rd_T50 S (k : Int) = s9 := ⟨_, rfl⟩
  rw [hs9] at x0 x1 x2
  have hs9' : S.getD k z50 = s9 := by rw [← hs9]; simp [rd_T50]
  have b4 := World.alloc_heap_new wr (.cells #[.int .i64 s9.f0, .int .i64 s9.f1, .int .i64 s9.f2] 50)
  have y0 := cell_of_heap b4 (j := 0) rfl
  have y1 := cell_of_heap b4 (j := 1) rfl
  have y2 := cell_of_heap b4 (j := 2) rfl
  have IC0 := in_calls s9.f0 1 20 (wr.alloc (.cells #[.int .i64 s9.f0, .int .i64 s9.f1, .int .i64 s9.f2] 50))
  have HS9 := Go.Lib.hid hs9'
  have HOK := Go.Lib.hid hok
  have HBX := Go.Lib.hid hbx
  have HSET := Go.Lib.hid hset
  have HBL := Go.Lib.hid hbl
  have hbad : slotAt S k = false → slotsB S = false := fun e => by
   unfold slotsB
   rw [List.all_eq_false]
   exact ⟨k, List.mem_range.2 hlt, by rw [e]; decide⟩
  have hq1 : slotAt S k = false → q = 1 := fun e => by
   have := HQ.out
   rw [if_neg (by rw [HRS.out, hn]; simp), if_pos (hbad e)] at this
   exact this.symm
  have HQ1 := Go.Lib.hid hq1
  clear hs9 hs9' hok hbx hset hbl HID hbad hq1
  subst e9
  go_wp2_with fail
  refine IC0.mono ?_
  clear IC0
  rintro e w5 ⟨rfl, hd5⟩
  have hB5 : Below w.heap.size w w5 ∧ Below wr.heap.size wr w5 ∧ w5.heap[wr.heap.size]? = some (.cells #[.int .i64 s9.f0, .int .i64 s9.f1, .int .i64 s9.f2] 50 (0, 0)) := by
   have h1 := ((Below.refl wr.heap.size wr).alloc (Nat.le_refl _) (.cells #[.int .i64 s9.f0, .int .i64 s9.f1, .int .i64 s9.f2] 50)).trans (hd5.below.mono (by simp))
   exact ⟨HBL.out.trans (h1.mono HBL.out.size), h1, (hd5.below.block _ (by simp)).trans (World.alloc_heap_new _ _)⟩
  have y1 := cell_of_heap hB5.2.2 (j := 1) rfl
  have IC1 := in_calls s9.f1 1 200 w5
  have HB5 := Go.Lib.hid hB5
  clear hB5 hd5 y0
  cases hi0 : inB s9.f0 1 20 with
  | false =>
   have hq : q = 1 := HQ1.out (by unfold slotAt slotIn; rw [HS9.out, hi0]; simp)
   subst hq
   clear hi0
   go_wp2_with fail
   go_ret
   exact ⟨rfl, HB5.out.1⟩
  | true =>
   have HI0 := Go.Lib.hid hi0
   clear hi0
   go_wp2_with fail
   refine IC1.mono ?_
   clear IC1
   rintro e w6 ⟨rfl, hd6⟩
   have hB6 : Below w.heap.size w w6 ∧ Below wr.heap.size wr w6 ∧ w6.heap[wr.heap.size]? = some (.cells #[.int .i64 s9.f0, .int .i64 s9.f1, .int .i64 s9.f2] 50 (0, 0)) :=
    ⟨HB5.out.1.trans (hd6.below.mono HB5.out.1.size), HB5.out.2.1.trans (hd6.below.mono HB5.out.2.1.size), (hd6.below.block _ (Array.getElem?_eq_some_iff.1 HB5.out.2.2).1).trans HB5.out.2.2⟩
   have y2 := cell_of_heap hB6.2.2 (j := 2) rfl
   have IC2 := in_calls s9.f2 1 20 w6
   have HB6 := Go.Lib.hid hB6
   clear hB6 hd6 y1
   cases hi1 : inB s9.f1 1 200 with
   | false =>
    have hq : q = 1 := HQ1.out (by unfold slotAt slotIn; rw [HS9.out, hi1]; simp)
    subst hq
    clear hi1
    go_wp2_with fail
    go_ret
    exact ⟨rfl, HB6.out.1⟩
   | true =>
    have HI1 := Go.Lib.hid hi1
    clear hi1
    go_wp2_with fail
    refine IC2.mono ?_
    clear IC2
    rintro e w7 ⟨rfl, hd7⟩
    have hB7 : Below w.heap.size w w7 ∧ Below wr.heap.size wr w7 ∧ w7.heap[wr.heap.size]? = some (.cells #[.int .i64 s9.f0, .int .i64 s9.f1, .int .i64 s9.f2] 50 (0, 0)) :=
     ⟨HB6.out.1.trans (hd7.below.mono HB6.out.1.size), HB6.out.2.1.trans (hd7.below.mono HB6.out.2.1.size), (hd7.below.block _ (Array.getElem?_eq_some_iff.1 HB6.out.2.2).1).trans HB6.out.2.2⟩
    have y0 := cell_of_heap hB7.2.2 (j := 0) rfl
    have y1 := cell_of_heap hB7.2.2 (j := 1) rfl
    have HB7 := Go.Lib.hid hB7
    clear hB7 hd7 y2
    cases hi2 : inB s9.f2 1 20 with
    | false =>
     have hq : q = 1 := HQ1.out (by unfold slotAt slotIn; rw [HS9.out, hi2]; simp)
     subst hq
     clear hi2
     go_wp2_with fail
     go_ret
     exact ⟨rfl, HB7.out.1⟩
    | true =>
     have HI2 := Go.Lib.hid hi2
     clear hi2
     go_wp2_with fail
     obtain ⟨W8, hW8⟩ : ∃ W8, w7.alloc (.cells #[.int .i64 s9.f0, .int .i64 s9.f1, .int .i64 0] 50) = W8 := ⟨_, rfl⟩
     have hB8 : Below w.heap.size w W8 ∧ Below wr.heap.size wr W8 ∧ W8.heap[wr.heap.size]? = some (.cells #[.int .i64 s9.f0, .int .i64 s9.f1, .int .i64 s9.f2] 50 (0, 0)) ∧ W8.heap[w7.heap.size]? = some (.cells #[.int .i64 s9.f0, .int .i64 s9.f1, .int .i64 0] 50 (0, 0)) := by
      rw [← hW8]
      exact ⟨HB7.out.1.alloc HB7.out.1.size _, HB7.out.2.1.alloc HB7.out.2.1.size _, (Below.heap_alloc _ _ _ (Array.getElem?_eq_some_iff.1 HB7.out.2.2).1).trans HB7.out.2.2, World.alloc_heap_new _ _⟩
     have hbx8 := (hB8.2.1.block w.heap.size (Array.getElem?_eq_some_iff.1 HBX.out).1).trans HBX.out
     obtain ⟨d, hd⟩ : ∃ d, decide (slotKey s9 ∈ (S.take k).map slotKey) = d := ⟨_, rfl⟩
     have hset8 : ∀ n, SetMap (W8.drewN n) m ((S.take k).map slotKey) := by
      intro n
      obtain ⟨es, ck, h1, h2⟩ := HSET.out
      exact ⟨es, ck, (hB8.2.1.block m (Array.getElem?_eq_some_iff.1 h1).1).trans h1, h2⟩
     have hL : ∀ n, (Instr.lookup 97 (.map (some m)) (.agg #[.int .i64 s9.f0, .int .i64 s9.f1, .int .i64 0]) false).run Try.prog (W8.drewN n) = .ok (.bool d) (W8.drewN n) := by
      intro n
      rw [← hd]
      exact run_lookup_set m _ (slotKey s9) _ (hset8 n)
     have y0 := cell_of_heap hB8.2.2.1 (j := 0) rfl
     have y1 := cell_of_heap hB8.2.2.1 (j := 1) rfl
     have z0 := cell_of_heap hB8.2.2.2 (j := 0) rfl
     have z1 := cell_of_heap hB8.2.2.2 (j := 1) rfl
     have z2 := cell_of_heap hB8.2.2.2 (j := 2) rfl
     have j1 := cell_of_heap hbx8 (j := 1) rfl
     have HC8 := Go.Lib.hid (Kd.C_below HR1.out hB8.1)
     have HB8 := Go.Lib.hid hB8
     have HBX8 := Go.Lib.hid hbx8
     have HSET8 := Go.Lib.hid hset8
     have HD := Go.Lib.hid hd
     obtain ⟨b7, hb7⟩ : ∃ b7, w7.heap.size = b7 := ⟨_, rfl⟩
     rw [hW8, hb7]
     rw [hb7] at z0 z1 z2
     clear hb7 hW8 hB8 hbx8 hset8 hd
     cases d with
     | true =>
      have hq : q = 1 := HQ1.out (by unfold slotAt; rw [HS9.out, HD.out]; simp)
      subst hq
      go_quiet (fail)
      go_wp2_with fail
      go_ret
      exact ⟨rfl, (pw_below_drewN HB8.out.1 _)⟩
     | false =>
      have hnk : slotKey s9 ∉ (S.take k).map slotKey := by simpa using HD.out
      obtain ⟨U, hUU⟩ := Classical.axiomOfChoice (fun n => run_update_set m _ (slotKey s9) _ (HSET8.out n) hnk)
      have hU := fun n => (hUU n).1
      have hUs := fun n => (hUU n).2.1
      have hUg := fun n => (hUU n).2.2.1
      have htk : (S.take (k + 1)).map slotKey = (S.take k).map slotKey ++ [slotKey s9] := by
       rw [List.take_succ_eq_append_getElem hlt, List.map_append, ← HS9.out]
       simp [List.getD_eq_getElem?_getD, List.getElem?_eq_getElem hlt]
      have hnext : ∀ n, slotAt S k = true → CbRel S (.slice A0 F.length c0) (.slice (some a9) S.length c1) (.slice A2 T.length c2) m w (k + 1) (U n) := by
       intro n hs
       have hBn := pw_below_drewN HB8.out.1 n
       refine ⟨fun j hj => ?_, ?_, ?_, hBn.grown (hUg n) hBn.size (fun j hj => by cases hj; omega)⟩
       ·
        rcases Nat.lt_succ_iff_lt_or_eq.1 hj with h | h
        ·
         exact HOK.out j h
        ·
         rw [h]; exact hs
       ·
        rw [(hUg n).block w.heap.size (Array.getElem?_eq_some_iff.1 HBX8.out).1 (by simp; omega)]
        exact HBX8.out
       ·
        rw [htk]; exact hUs n
      have hU' : ∀ n, (Instr.mapUpdate 97 (.map (some m)) (.agg #[.int .i64 s9.f0, .int .i64 s9.f1, .int .i64 0]) (.bool true)).run Try.prog (W8.drewN n) = .ok () (U n) := hU
      have NEXT := Go.Lib.hid hnext
      have hsl : slotIn s9 = true := by unfold slotIn; rw [HI0.out, HI1.out, HI2.out]; rfl
      have HSL := Go.Lib.hid hsl
      clear hnk hUU hU hUs hUg htk hnext hsl
      by_cases hk0 : k = 0
      ·
       have g5 : decide ((0 : Int) < (k : Int)) = false := by simp; omega
       go_quiet (fail)
       go_wp2_with fail
       go_roundw
       case rel => exact ⟨k + 1, by omega, by subst hk0; rfl, NEXT.out _ (by unfold slotAt slotBack; rw [HS9.out, HD.out, HSL.out, decide_eq_false (by omega)]; rfl)⟩
       case measure => simp [intOf]; omega
      have g5 : decide ((0 : Int) < (k : Int)) = true := by simp; omega
      have hkp : 0 < k := by omega
      have g6 : IntKind.i64.wrap ((k : Int) - 1) = ((k - 1 : Nat) : Int) := by
       rw [IntKind.wrap_i64]; omega
      have hlt7 : k - 1 < S.length := by omega
      obtain ⟨a7, e7, v0, v1, v2⟩ := at_T50 HC8.out ((k - 1 : Nat) : Int) (by omega) (by omega)
      injection e7 with e7
      subst e7
      rw [Int.toNat_natCast] at v0 v1 v2
      obtain ⟨s7, hs7⟩ : ∃ s7, rd_T50 S ((k - 1 : Nat) : Int) = s7 := ⟨_, rfl⟩
      rw [hs7] at v0 v1 v2
      have hs7' : S.getD (k - 1) z50 = s7 := by rw [← hs7]; simp [rd_T50]
      have HS7 := Go.Lib.hid hs7'
      clear hs7 hs7'
      by_cases hlt0 : s9.f0 < s7.f0
      ·
       have g7 : decide (s9.f0 < s7.f0) = true := by simpa using hlt0
       have hq : q = 1 := HQ1.out (by unfold slotAt slotBack; rw [HS9.out, HS7.out, HD.out, HSL.out, g7, decide_eq_true (show 0 < k from by omega)]; rfl)
       subst hq
       go_quiet (fail)
       go_wp2_with fail
       go_ret
       exact ⟨rfl, (pw_below_drewN HB8.out.1 _)⟩
      have g7 : decide (s9.f0 < s7.f0) = false := by simpa using hlt0
      by_cases heq0 : s9.f0 = s7.f0
      rotate_left
      ·
       have g8 : decide (s9.f0 = s7.f0) = false := by simpa using heq0
       go_quiet (fail)
       go_wp2_with fail
       go_roundw
       case rel => exact ⟨k + 1, by omega, by simp, NEXT.out _ (by unfold slotAt slotBack; rw [HS9.out, HS7.out, HD.out, HSL.out, g7, g8]; simp)⟩
       case measure => simp [intOf]; omega
      have g8 : decide (s9.f0 = s7.f0) = true := by simpa using heq0
      rw [← heq0] at v0
      clear heq0
      by_cases hlt1 : s9.f1 < s7.f1
      rotate_left
      ·
       have g9 : decide (s9.f1 < s7.f1) = false := by simpa using hlt1
       go_quiet (fail)
       go_wp2_with fail
       go_roundw
       case rel => exact ⟨k + 1, by omega, by simp, NEXT.out _ (by unfold slotAt slotBack; rw [HS9.out, HS7.out, HD.out, HSL.out, g7, g8, g9]; simp)⟩
       case measure => simp [intOf]; omega
      have g9 : decide (s9.f1 < s7.f1) = true := by simpa using hlt1
      have hq : q = 1 := HQ1.out (by unfold slotAt slotBack; rw [HS9.out, HS7.out, HD.out, HSL.out, g7, g8, g9, decide_eq_true (show 0 < k from by omega)]; rfl)
      subst hq
      go_quiet (fail)
      go_wp2_with fail
      go_ret
      exact ⟨rfl, (pw_below_drewN HB8.out.1 _)⟩
end Go.Proofs.Ytkmmihadcbfkoaa
end

section
namespace Go.Proofs.Ytkmmihadcbfkoaa
open Go.RowKit Go.Proofs.YtkmmihadcbfkoaaW.PrintWords PM
set_option linter.unusedVariables false
set_option linter.unusedSimpArgs false
/-- A trial that is new since world w0: its block, the row of its finds' slots, the row of its rooms. -/
structure TNew (w0 : World) (t : TL) (T : List (List Int)) (room has : List Int) (w : World) : Prop where
 gb : w.heap[t.g]? = some (.cells #[t.s0, .slice t.A1 t.n1 t.c1, .slice t.A2 T.length t.c2, .slice t.Ar room.length t.cr, .slice (some ⟨t.bh, 0, none⟩) t.nh t.ch] 80 (0, 0))
 row : RowAt w t.bh 3 (Value.int .i64) has
 own : w.ownsRow w0.heap.size 3 1 (.slice t.Ar room.length t.cr) room.length (room.map (Value.int .i64))
 ne : (Value.slice t.Ar room.length t.cr).ownBlock ≠ some t.bh
 B : Below w0.heap.size w0 w
 rows : RowsAt w0 t.A2 t.ra t.rc T
 gl : w0.heap.size ≤ t.g
 hl : w0.heap.size ≤ t.bh
 fit : TFit t T room
 len : has.length = t.nh
theorem TNew.stands {w0 w : World} {t : TL} {T : List (List Int)} {room has : List Int} (h : TNew w0 t T room has w) : TStands t T room w := by
 obtain ⟨Ar, cr, e, hs⟩ := mk_stands h.B h.gb h.hl h.row h.own h.ne h.rows
 injection e with e1 e2 e3
 subst e1; subst e3
 exact hs
theorem tried_calls3 (A0 : Option Addr) (c0 : Nat) (F : List Int) (A1 : Option Addr) (c1 : Nat) (S : List S50) (A2 : Option Addr) (c2 : Nat) (T : List (List Int)) (w : World)
  (hk : BOK F S T) (hr1 : Kd.C k50 w A1 S.length S) (hr2 : Kd.C (Kd.slice 3 (Kd.int .i64)) w A2 T.length T) :
  Calls Try.prog 60 #[.agg #[.slice A0 F.length c0, .slice A1 S.length c1, .slice A2 T.length c2]] w fun e w' => ∃ t : TL, e = .returned (.pointer (some ⟨t.g, 0, none⟩)) ∧ TNew w t T (rooms S) (List.replicate F.length (-1)) w' ∧ t.n1 = S.length ∧ t.nh = F.length := by
 have h1 := hk.nf
 have h2 := hk.ns
 obtain ⟨ra, rc, hra⟩ := RowsAt.of_C hr2
 refine (tried_calls A0 F.length c0 A1 c1 S A2 T.length c2 w (by omega) (by omega) hr1).mono ?_
 rintro e w' ⟨g, bh, vr, rfl, hT, hrow, hB⟩
 have hlr : (rooms S).length = S.length := by simp [rooms]
 obtain ⟨Ar, cr, rfl, hst⟩ := mk_stands hB hT.gb hT.hl hrow hT.room hT.ne hra
 exact ⟨{ g := g, bh := bh, s0 := .slice A0 F.length c0, A1 := A1, n1 := S.length, c1 := c1, A2 := A2, c2 := c2, ra := ra, rc := rc, Ar := Ar, cr := cr, nh := F.length, ch := F.length }, rfl,
  ⟨hT.gb, hrow, hT.room, hT.ne, hB, hra, hT.gl, hT.hl, ⟨hk.slot, hlr, fun i hi => Nat.le_trans (hk.row i hi) (by omega), hk.nt, by show S.length ≤ _; omega, by show F.length ≤ _; omega⟩, by simp⟩, rfl, rfl⟩
theorem setCell_below {B : Nat} {a w : World} (h : Below B a w) {p : Addr} (hp : B ≤ p.block) (u : Value) : Below B a (w.setCell p u) :=
 h.trans ⟨rfl, rfl, rfl, by simp [World.setCell], fun k hk => Below.heap_setCell w p u k (by omega)⟩
/-- A slot's room is written. -/
theorem TNew.set {w0 w : World} {t : TL} {T : List (List Int)} {room has : List Int} (h : TNew w0 t T room has w) (i : Int) (h0 : 0 ≤ i) (h1 : i < room.length) (x : Int) :
  ∃ Ab, t.Ar = some ⟨Ab, 0, none⟩ ∧ w.cell? ⟨Ab, i.toNat, none⟩ = some (.int .i64 (room.getD i.toNat 0)) ∧ w.frozen? ⟨Ab, i.toNat, none⟩ = false ∧ TNew w0 t T (room.set i.toNat x) has (w.setCell ⟨Ab, i.toNat, none⟩ (.int .i64 x)) := by
 have hown := h.own
 rcases hown.2 with ⟨e, hz⟩ | ⟨Ab, cap, cur, e, hb, hh, hle, hmx, hsz, htk⟩
 ·
  omega
 injection e with e1 e2 e3
 have hneb : Ab ≠ t.bh := fun e => h.ne (by rw [e1, e]; rfl)
 have hneg : Ab ≠ t.g := by
  rintro rfl
  rw [h.gb] at hh
  injection hh with hh
  injection hh with _ hh
  exact absurd hh (by decide)
 have hlt : i.toNat < room.length := by omega
 have hc : cur[i.toNat]? = some (.int .i64 (room.getD i.toNat 0)) := by
  have h2 : (cur.toList.take (room.length * 1))[i.toNat]? = (room.map (Value.int .i64))[i.toNat]? := by rw [htk]
  rw [List.getElem?_take_of_lt (by omega), List.getElem?_map, List.getElem?_eq_getElem hlt] at h2
  rw [← Array.getElem?_toList, h2]
  simp [List.getD_eq_getElem?_getD, List.getElem?_eq_getElem hlt]
 refine ⟨Ab, e1, ?_, ?_, ?_⟩
 ·
  simp [World.cell?, hh, hc]
 ·
  simp [World.frozen?, hh]
 have hown2 := Go.Proofs.YtkmmihadcbfkoaaW.PrintWords.own_put (k := .i64) (by rw [e1] at hown; exact hown) i x
 have hlen : (room.set i.toNat x).length = room.length := by simp
 have hfit := h.fit
 refine ⟨?_, h.row.same (Below.heap_setCell _ _ _ _ (Ne.symm hneb)), ?_, ?_, setCell_below h.B hb _, h.rows, h.gl, h.hl, ⟨hfit.slot, by rw [hlen]; exact hfit.room, hfit.row, hfit.finds, hfit.ns, hfit.nh⟩, h.len⟩
 ·
  rw [hlen, Below.heap_setCell _ _ _ _ (Ne.symm hneg)]
  exact h.gb
 ·
  rw [hlen, e1]
  rw [hlen] at hown2
  exact hown2
 rw [hlen]
 exact h.ne
end Go.Proofs.Ytkmmihadcbfkoaa
end

section
namespace Go.Proofs.Ytkmmihadcbfkoaa
open Go.RowKit Go.Proofs.YtkmmihadcbfkoaaW.PrintWords PM
set_option linter.unusedVariables false
set_option linter.unusedSimpArgs false
theorem index_loop (l : List Int) (x : Int) (hl : l.length ≤ 9223372036854775807) (d : Nat) : ∀ (k i : Nat), l.length - i = d → i ≤ l.length → d < k →
  ∃ r, slices_Index_int_int.l0 k l x (l.length : Int) (i : Int) = some r ∧ decide (r ≥ 0) = decide (x ∈ l.drop i) := by
 induction d with
 | zero =>
  intro k i hd hi hk
  obtain ⟨k, rfl⟩ : ∃ m, k = m + 1 := ⟨k - 1, by omega⟩
  simp only [slices_Index_int_int.l0]
  rw [if_neg (by omega), List.drop_of_length_le (by omega)]
  exact ⟨-1, rfl, by simp⟩
 | succ d ih =>
  intro k i hd hi hk
  obtain ⟨k, rfl⟩ : ∃ m, k = m + 1 := ⟨k - 1, by omega⟩
  have hlt : i < l.length := by omega
  simp only [slices_Index_int_int.l0]
  rw [if_pos (by omega), if_pos (by omega), if_pos (by omega), List.drop_eq_getElem_cons hlt]
  have e1 : rd l (i : Int) = l[i] := by simp [rd, List.getD_eq_getElem?_getD, List.getElem?_eq_getElem hlt]
  rw [e1, (wrap_pm (i := (i : Int)) (by omega) (by omega)).1]
  by_cases h : x = l[i]
  ·
   rw [if_pos h]
   exact ⟨(i : Int), rfl, by rw [decide_eq_true (List.mem_cons.2 (Or.inl h)), decide_eq_true (by omega)]⟩
  rw [if_neg h]
  obtain ⟨r, h1, h2⟩ := ih k (i + 1) (by omega) (by omega) (by omega)
  exact ⟨r, by rw [← h1, show (((i + 1 : Nat)) : Int) = (i : Int) + 1 from by omega], by rw [h2]; exact decide_eq_decide.2 ⟨fun hm => List.mem_cons.2 (Or.inr hm), fun hm => (List.mem_cons.1 hm).resolve_left h⟩⟩
theorem contains_f (l : List Int) (x : Int) (hl : l.length ≤ 9223372036854775807) : slices_Contains_int_int.f (l.length + 1) l x = some (decide (x ∈ l)) := by
 obtain ⟨r, h1, h2⟩ := index_loop l x hl l.length (l.length + 1) 0 (by omega) (by omega) (by omega)
 unfold slices_Contains_int_int.f slices_Index_int_int.f
 rw [show ((0 : Nat) : Int) = 0 from rfl] at h1
 rw [h1, Option.bind_some, h2]
 rfl
theorem contains_calls (A : Option Addr) (c : Nat) (l : List Int) (x : Int) (w : World) (hr : Kd.C (Kd.int .i64) w A l.length l) (hc : l.length ≤ c) :
  Calls Try.prog 59 #[.slice A l.length c, .int .i64 x] w fun e w' => e = .returned (.bool (decide (x ∈ l))) ∧ Drawn0 w w' :=
 slices_Contains_int_int.calls (l.length + 1) A c l x _ w hr hc (contains_f l x hr.2.1)
end Go.Proofs.Ytkmmihadcbfkoaa
end

section
namespace Go.Proofs.Ytkmmihadcbfkoaa
open Go.RowKit Go.Proofs.YtkmmihadcbfkoaaW.PrintWords PM
set_option linter.unusedVariables false
set_option linter.unusedSimpArgs false
theorem has_ev (l : List Int) (x : Int) (hl : l.length ≤ 9223372036854775807) (d : Nat) : ∀ i : Nat, l.length - i = d → i ≤ l.length → Ev (fun k => laganref04_Has.l0 k l x (i : Int)) (decide (x ∈ l.drop i)) := by
 induction d with
 | zero =>
  intro i hd hi
  rw [List.drop_of_length_le (by omega)]
  exact (Ev.const false).step fun k => by simp only [laganref04_Has.l0]; rw [if_neg (by omega)]
 | succ d ih =>
  intro i hd hi
  have hlt : i < l.length := by omega
  have hw := wrap_pm (i := (i : Int)) (by omega) (by omega)
  have ih' := ih (i + 1) (by omega) (by omega)
  rw [show (((i + 1 : Nat)) : Int) = (i : Int) + 1 from by omega] at ih'
  have e1 : rd l (i : Int) = l[i] := by simp [rd, List.getD_eq_getElem?_getD, List.getElem?_eq_getElem hlt]
  by_cases h : l[i] = x
  ·
   rw [decide_eq_true (by rw [List.drop_eq_getElem_cons hlt]; exact List.mem_cons.2 (Or.inl h.symm))]
   exact (Ev.const true).step fun k => by
    simp only [laganref04_Has.l0]
    rw [if_pos (by omega), if_pos (by omega), e1, if_pos h]
  have hd : decide (x ∈ l.drop i) = decide (x ∈ l.drop (i + 1)) := by
   rw [List.drop_eq_getElem_cons hlt]
   exact decide_eq_decide.2 ⟨fun hm => (List.mem_cons.1 hm).resolve_left (fun e => h e.symm), fun hm => List.mem_cons.2 (Or.inr hm)⟩
  rw [hd]
  exact Ev.step ih' fun k => by
   simp only [laganref04_Has.l0]
   rw [if_pos (by omega), if_pos (by omega), e1, if_neg h, hw.1]
theorem has_is (l : List Int) (x : Int) (hl : l.length ≤ 9223372036854775807) : Ev (fun k => laganref04_Has.f k l x) (decide (x ∈ l)) :=
 has_ev l x hl l.length 0 (by omega) (by omega)
end Go.Proofs.Ytkmmihadcbfkoaa
end

section
namespace Go.Proofs.Ytkmmihadcbfkoaa
open Go.RowKit Go.Proofs.YtkmmihadcbfkoaaW.PrintWords PM
set_option linter.unusedVariables false
set_option linter.unusedSimpArgs false
/-- The first error of a board, a find and a slot; true: there is no such argument. -/
def askB (F : List Int) (S : List S50) (T : List (List Int)) (find slot : Int) (g0 g1 : Bool) : Int :=
 if checkB F S T ≠ 0 then checkB F S T
 else if (!g0 && !inB find 0 ((F.length : Int) - 1) || !g1 && !inB slot 0 ((S.length : Int) - 1)) = true then 1 else 0
set_option maxRecDepth 100000 in
set_option maxHeartbeats 8000000 in
theorem asked_calls (A0 : Option Addr) (c0 : Nat) (F : List Int) (A1 : Option Addr) (c1 : Nat) (S : List S50) (A2 : Option Addr) (c2 : Nat) (T : List (List Int)) (find slot : Int) (g : Nat) (g0 g1 : Bool) (w : World)
  (hr0 : Kd.C (Kd.int .i64) w A0 F.length F) (hc0 : F.length ≤ c0) (hr1 : Kd.C k50 w A1 S.length S) (hr2 : Kd.C (Kd.slice 3 (Kd.int .i64)) w A2 T.length T)
  (hg0 : w.cell? ⟨g, 0, none⟩ = some (.bool g0)) (hg1 : w.cell? ⟨g, 1, none⟩ = some (.bool g1)) :
  Calls Try.prog 58 #[.agg #[.slice A0 F.length c0, .slice A1 S.length c1, .slice A2 T.length c2], .int .i64 find, .int .i64 slot, .slice (some ⟨g, 0, none⟩) 2 2] w (CbPost (askB F S T find slot g0 g1) w) := by
 have hB0 := (Below.refl w.heap.size w).alloc (Nat.le_refl _) (.cells #[.slice A0 F.length c0, .slice A1 S.length c1, .slice A2 T.length c2] 26)
 have lF : F.length ≤ 9223372036854775807 := hr0.2.1
 have lS : S.length ≤ 9223372036854775807 := hr1.2.1
 have CB := checkboard_calls A0 c0 F A1 c1 S A2 c2 T _ (Kd.C_below hr0 hB0) hc0 (Kd.C_below hr1 hB0) (Kd.C_below hr2 hB0)
 obtain ⟨q, hq⟩ : ∃ q, checkB F S T = q := ⟨_, rfl⟩
 obtain ⟨r, hr⟩ : ∃ r, askB F S T find slot g0 g1 = r := ⟨_, rfl⟩
 rw [hq] at CB
 rw [hr]
 unfold askB at hr
 rw [hq] at hr
 have hgl := World.block_lt_of_cell? w _ hg0
 have HB0 := Go.Lib.hid hB0
 have HR := Go.Lib.hid hr
 have HG := Go.Lib.hid (And.intro hg0 hg1)
 clear hq hr0 hr1 hr2 hB0 hr hg0 hg1
 go_enter Try.func58, Try.ntmps58
 go_wp2_with fail
 refine CB.mono ?_
 clear CB
 rintro e w1 ⟨rfl, hB1⟩
 have b1 : w1.heap[w.heap.size]? = some (.cells #[.slice A0 F.length c0, .slice A1 S.length c1, .slice A2 T.length c2] 26 (0, 0)) := by
  rw [hB1.block w.heap.size (by simp)]
  exact World.alloc_heap_new w _
 have hW1 : Below w.heap.size w w1 := HB0.out.trans (hB1.mono HB0.out.size)
 have y0 := (hW1.cell (p := ⟨g, 0, none⟩) hgl).trans HG.out.1
 have y1 := (hW1.cell (p := ⟨g, 1, none⟩) hgl).trans HG.out.2
 have k0 := cell_of_heap b1 (j := 0) rfl
 have k1 := cell_of_heap b1 (j := 1) rfl
 have HW1 := Go.Lib.hid hW1
 have BX := Go.Lib.hid b1
 clear hB1 b1 hW1
 by_cases hq0 : q = 0
 rotate_left
 ·
  have g9 : decide (q = 0) = false := by simpa using hq0
  have hr0 : r = q := by have := HR.out; rw [if_pos hq0] at this; exact this.symm
  subst hr0
  go_wp2_with fail
  go_ret
  exact ⟨rfl, HW1.out⟩
 subst hq0
 have hr' := HR.out
 rw [if_neg (by simp)] at hr'
 have HR := Go.Lib.hid hr'
 have IC0 := in_calls find 0 ((F.length : Int) - 1) w1
 clear hr'
 cases g0 with
 | true =>
  cases g1 with
  | true =>
   have hr0 : r = 0 := by have := HR.out; simpa [] using this.symm
   subst hr0
   go_wp2_with fail
   go_ret
   exact ⟨rfl, HW1.out⟩
  | false =>
   have IC1 := in_calls slot 0 ((S.length : Int) - 1) w1
   go_wp2_with fail
   refine IC1.mono ?_
   clear IC1
   rintro e w3 ⟨rfl, hd3⟩
   have hW3 : Below w.heap.size w w3 := HW1.out.trans (hd3.below.mono HW1.out.size)
   have HW3 := Go.Lib.hid hW3
   clear hW3 hd3
   cases hi1 : inB slot 0 ((S.length : Int) - 1) with
   | false =>
    have HI1 := Go.Lib.hid hi1
    clear hi1
    have hr0 : r = 1 := by have := HR.out; simpa [HI1.out] using this.symm
    subst hr0
    go_wp2_with fail
    go_ret
    exact ⟨rfl, HW3.out⟩
   | true =>
    have HI1 := Go.Lib.hid hi1
    clear hi1
    have hr0 : r = 0 := by have := HR.out; simpa [HI1.out] using this.symm
    subst hr0
    go_wp2_with fail
    go_ret
    exact ⟨rfl, HW3.out⟩
 | false =>
  go_wp2_with fail
  refine IC0.mono ?_
  clear IC0
  rintro e w2 ⟨rfl, hd2⟩
  have hW2 : Below w.heap.size w w2 := HW1.out.trans (hd2.below.mono HW1.out.size)
  have y1 := (hW2.cell (p := ⟨g, 1, none⟩) hgl).trans HG.out.2
  have k1 := cell_of_heap ((hd2.below.block w.heap.size (Array.getElem?_eq_some_iff.1 BX.out).1).trans BX.out) (j := 1) rfl
  have HW2 := Go.Lib.hid hW2
  clear hW2 hd2
  cases hi0 : inB find 0 ((F.length : Int) - 1) with
  | false =>
   have HI0 := Go.Lib.hid hi0
   clear hi0
   have hr0 : r = 1 := by have := HR.out; simpa [HI0.out] using this.symm
   subst hr0
   go_wp2_with fail
   go_ret
   exact ⟨rfl, HW2.out⟩
  | true =>
   have HI0 := Go.Lib.hid hi0
   clear hi0
   cases g1 with
   | true =>
    have hr0 : r = 0 := by have := HR.out; simpa [HI0.out] using this.symm
    subst hr0
    go_wp2_with fail
    go_ret
    exact ⟨rfl, HW2.out⟩
   | false =>
    have IC1 := in_calls slot 0 ((S.length : Int) - 1) w2
    go_wp2_with fail
    refine IC1.mono ?_
    clear IC1
    rintro e w3 ⟨rfl, hd3⟩
    have hW3 : Below w.heap.size w w3 := HW2.out.trans (hd3.below.mono HW2.out.size)
    have HW3 := Go.Lib.hid hW3
    clear hW3 hd3
    cases hi1 : inB slot 0 ((S.length : Int) - 1) with
    | false =>
     have HI1 := Go.Lib.hid hi1
     clear hi1
     have hr0 : r = 1 := by have := HR.out; simpa [HI0.out, HI1.out] using this.symm
     subst hr0
     go_wp2_with fail
     go_ret
     exact ⟨rfl, HW3.out⟩
    | true =>
     have HI1 := Go.Lib.hid hi1
     clear hi1
     have hr0 : r = 0 := by have := HR.out; simpa [HI0.out, HI1.out] using this.symm
     subst hr0
     go_wp2_with fail
     go_ret
     exact ⟨rfl, HW3.out⟩
/-- asked, the two bools new. -/
theorem asked_new (A0 : Option Addr) (c0 : Nat) (F : List Int) (A1 : Option Addr) (c1 : Nat) (S : List S50) (A2 : Option Addr) (c2 : Nat) (T : List (List Int)) (find slot : Int) (g0 g1 : Bool) (w : World)
  (hr0 : Kd.C (Kd.int .i64) w A0 F.length F) (hc0 : F.length ≤ c0) (hr1 : Kd.C k50 w A1 S.length S) (hr2 : Kd.C (Kd.slice 3 (Kd.int .i64)) w A2 T.length T) :
  Calls Try.prog 58 #[.agg #[.slice A0 F.length c0, .slice A1 S.length c1, .slice A2 T.length c2], .int .i64 find, .int .i64 slot, .slice (some ⟨w.heap.size, 0, none⟩) 2 2] (w.alloc (.cells #[.bool g0, .bool g1] 4)) (CbPost (askB F S T find slot g0 g1) w) := by
 have hB := (Below.refl w.heap.size w).alloc (Nat.le_refl _) (.cells #[.bool g0, .bool g1] 4)
 have b0 := World.alloc_heap_new w (.cells #[.bool g0, .bool g1] 4)
 refine (asked_calls A0 c0 F A1 c1 S A2 c2 T find slot w.heap.size g0 g1 _ (Kd.C_below hr0 hB) hc0 (Kd.C_below hr1 hB) (Kd.C_below hr2 hB) (cell_of_heap b0 rfl) (cell_of_heap b0 rfl)).mono ?_
 rintro e w' ⟨rfl, h⟩
 exact ⟨rfl, hB.trans (h.mono hB.size)⟩
/-- asked, the board boxed ahead and the two bools new: as each caller that has a box calls it. -/
theorem asked_boxed (A0 : Option Addr) (c0 : Nat) (F : List Int) (A1 : Option Addr) (c1 : Nat) (S : List S50) (A2 : Option Addr) (c2 : Nat) (T : List (List Int)) (find slot : Int) (g0 g1 : Bool) (w : World)
  (hr0 : Kd.C (Kd.int .i64) w A0 F.length F) (hc0 : F.length ≤ c0) (hr1 : Kd.C k50 w A1 S.length S) (hr2 : Kd.C (Kd.slice 3 (Kd.int .i64)) w A2 T.length T) (o : Obj) :
  Calls Try.prog 58 #[.agg #[.slice A0 F.length c0, .slice A1 S.length c1, .slice A2 T.length c2], .int .i64 find, .int .i64 slot, .slice (some ⟨w.heap.size + 1, 0, none⟩) 2 2] ((w.alloc o).alloc (.cells #[.bool g0, .bool g1] 4)) (fun e w' => CbPost (askB F S T find slot g0 g1) w e w' ∧ w'.heap[w.heap.size]? = some o) := by
 have hB := (Below.refl w.heap.size w).alloc (Nat.le_refl _) o
 have AN := asked_new A0 c0 F A1 c1 S A2 c2 T find slot g0 g1 (w.alloc o) (Kd.C_below hr0 hB) hc0 (Kd.C_below hr1 hB) (Kd.C_below hr2 hB)
 rw [show (w.alloc o).heap.size = w.heap.size + 1 from by simp] at AN
 refine AN.mono ?_
 rintro e w' ⟨rfl, h⟩
 exact ⟨⟨rfl, hB.trans (h.mono hB.size)⟩, (h.block _ (by simp)).trans (World.alloc_heap_new w o)⟩
set_option maxRecDepth 100000 in
set_option maxHeartbeats 8000000 in
theorem both_calls (A0 : Option Addr) (c0 : Nat) (F : List Int) (A1 : Option Addr) (c1 : Nat) (S : List S50) (A2 : Option Addr) (c2 : Nat) (T : List (List Int)) (find slot : Int) (w : World)
  (hr0 : Kd.C (Kd.int .i64) w A0 F.length F) (hc0 : F.length ≤ c0) (hr1 : Kd.C k50 w A1 S.length S) (hr2 : Kd.C (Kd.slice 3 (Kd.int .i64)) w A2 T.length T) :
  Calls Try.prog 66 #[.agg #[.slice A0 F.length c0, .slice A1 S.length c1, .slice A2 T.length c2], .int .i64 find, .int .i64 slot] w (CbPost (askB F S T find slot false false) w) := by
 have AC := asked_boxed A0 c0 F A1 c1 S A2 c2 T find slot false false w hr0 hc0 hr1 hr2 (.cells #[.slice A0 F.length c0, .slice A1 S.length c1, .slice A2 T.length c2] 26)
 obtain ⟨r, hr⟩ : ∃ r, askB F S T find slot false false = r := ⟨_, rfl⟩
 rw [hr] at AC ⊢
 clear hr hr0 hr1 hr2
 go_enter Try.func66, Try.ntmps66
 go_wp2_with fail
 refine AC.mono ?_
 clear AC
 rintro e w1 ⟨⟨rfl, hB1⟩, _⟩
 have HB1 := Go.Lib.hid hB1
 clear hB1
 go_wp2_with fail
 go_ret
 exact ⟨rfl, HB1.out⟩
end Go.Proofs.Ytkmmihadcbfkoaa
end

section
namespace Go.Proofs.Ytkmmihadcbfkoaa
open PM
theorem ask_parts {F : List Int} {S : List S50} {T : List (List Int)} {find slot : Int} {g0 g1 : Bool} (h : askB F S T find slot g0 g1 = 0) :
  checkB F S T = 0 ∧ (g0 = false → 0 ≤ find ∧ find < F.length) ∧ (g1 = false → 0 ≤ slot ∧ slot < S.length) := by
 unfold askB at h
 split at h
 ·
  rename_i h1; exact absurd h h1
 rename_i h1
 split at h
 ·
  exact absurd h (by decide)
 rename_i h2
 refine ⟨by simpa using h1, fun e => ?_, fun e => ?_⟩
 ·
  have hi : inB find 0 ((F.length : Int) - 1) = true := by
   cases hh : inB find 0 ((F.length : Int) - 1) with
   | false => exact absurd (by rw [hh, e]; rfl) h2
   | true => rfl
  unfold inB at hi
  simp only [Bool.and_eq_true, decide_eq_true_eq] at hi
  omega
 have hi : inB slot 0 ((S.length : Int) - 1) = true := by
  cases hh : inB slot 0 ((S.length : Int) - 1) with
  | false => exact absurd (by rw [hh, e]; cases (!g0 && !inB find 0 ((F.length : Int) - 1)) <;> rfl) h2
  | true => rfl
 unfold inB at hi
 simp only [Bool.and_eq_true, decide_eq_true_eq] at hi
 omega
end Go.Proofs.Ytkmmihadcbfkoaa
end

section
namespace Go.Proofs.Ytkmmihadcbfkoaa
open Go.RowKit Go.Proofs.YtkmmihadcbfkoaaW.PrintWords PM
set_option linter.unusedVariables false
set_option linter.unusedSimpArgs false
theorem Ev.pos {α : Type} {c : Prop} [Decidable c] {f g : Nat → Option α} {r : α} (h : c) (hf : Ev f r) : Ev (fun k => if c then f k else g k) r := hf.congr fun _ => if_pos h
theorem Ev.neg {α : Type} {c : Prop} [Decidable c] {f g : Nat → Option α} {r : α} (h : ¬ c) (hg : Ev g r) : Ev (fun k => if c then f k else g k) r := hg.congr fun _ => if_neg h
theorem Ev.into {α : Type} {f g : Nat → Option α} {r : α} (hs : ∀ k, f (k + 1) = g k) (h : Ev g r) : Ev f r := h.step hs
theorem there_is {F : List Int} {S : List S50} {T : List (List Int)} (hF : F.length ≤ 9223372036854775807) (hS : S.length ≤ 9223372036854775807) (hT : T.length ≤ 9223372036854775807) (hr : ∀ l, l ∈ T → l.length ≤ 9223372036854775807) (find slot : Int) :
  Ev (fun k => laganref04_there.f k F S T find slot) (askB F S T find slot false false) := by
 refine Ev.bind (refcheck_is F S T hF hS hT hr) ?_
 unfold askB
 by_cases hc : checkB F S T = 0
 rotate_left
 ·
  rw [if_pos hc]
  exact Ev.neg hc (Ev.const _)
 rw [if_neg (show ¬ checkB F S T ≠ 0 from fun h => h hc)]
 refine Ev.pos hc ?_
 have hi : ∀ x : Int, ∀ n : Nat, inB x 0 ((n : Int) - 1) = (decide (0 ≤ x) && decide (x < n)) := fun x n => by
  unfold inB
  congr 1
  exact decide_eq_decide.2 ⟨fun h => by omega, fun h => by omega⟩
 rw [hi, hi]
 by_cases a1 : find < 0
 ·
  rw [decide_eq_false (show ¬ 0 ≤ find by omega)]
  exact Ev.pos a1 (by simpa using Ev.const (1 : Int))
 refine Ev.neg a1 ?_
 rw [decide_eq_true (show 0 ≤ find by omega)]
 by_cases a2 : find ≥ (F.length : Int)
 ·
  rw [decide_eq_false (show ¬ find < (F.length : Int) by omega)]
  exact Ev.pos a2 (by simpa using Ev.const (1 : Int))
 refine Ev.neg a2 ?_
 rw [decide_eq_true (show find < (F.length : Int) by omega)]
 by_cases a3 : slot < 0
 ·
  rw [decide_eq_false (show ¬ 0 ≤ slot by omega)]
  exact Ev.pos a3 (by simpa using Ev.const (1 : Int))
 refine Ev.neg a3 ?_
 rw [decide_eq_true (show 0 ≤ slot by omega)]
 by_cases a4 : slot ≥ (S.length : Int)
 ·
  rw [decide_eq_false (show ¬ slot < (S.length : Int) by omega)]
  exact Ev.pos a4 (by simpa using Ev.const (1 : Int))
 refine Ev.neg a4 ?_
 rw [decide_eq_true (show slot < (S.length : Int) by omega), hc]
 simpa using Ev.const (0 : Int)
end Go.Proofs.Ytkmmihadcbfkoaa
end

section
namespace Go.Proofs.Ytkmmihadcbfkoaa
open Go.RowKit Go.Proofs.YtkmmihadcbfkoaaW.PrintWords PM
set_option linter.unusedVariables false
set_option linter.unusedSimpArgs false
theorem same_ev (a b : List Int) (hl : a.length ≤ 9223372036854775807) (he : a.length = b.length) (d : Nat) : ∀ i : Nat, a.length - i = d → i ≤ a.length → Ev (fun k => laganref04_SameInts.l0 k a b (i : Int)) (decide (a.drop i = b.drop i)) := by
 induction d with
 | zero =>
  intro i hd hi
  rw [List.drop_of_length_le (by omega), List.drop_of_length_le (by omega), decide_eq_true (rfl : ([] : List Int) = [])]
  exact Ev.into (fun k => by rw [laganref04_SameInts.l0]) (Ev.neg (by omega) (Ev.const _))
 | succ d ih =>
  intro i hd hi
  have hlt : i < a.length := by omega
  have hlb : i < b.length := by omega
  have hw := wrap_pm (i := (i : Int)) (by omega) (by omega)
  refine Ev.into (fun k => by rw [laganref04_SameInts.l0]) (Ev.pos (by omega) (Ev.pos (by omega) (Ev.pos (by omega) ?_)))
  rw [hw.1, show (i : Int) + 1 = ((i + 1 : Nat) : Int) by omega, List.drop_eq_getElem_cons hlt, List.drop_eq_getElem_cons hlb]
  have e1 : rd a (i : Int) = a[i] := by simp [rd, List.getD_eq_getElem?_getD, List.getElem?_eq_getElem hlt]
  have e2 : rd b (i : Int) = b[i] := by simp [rd, List.getD_eq_getElem?_getD, List.getElem?_eq_getElem hlb]
  rw [e1, e2]
  by_cases e : a[i] = b[i]
  rotate_left
  ·
   refine Ev.neg e ?_
   rw [decide_eq_false (fun h : a[i] :: a.drop (i + 1) = b[i] :: b.drop (i + 1) => e (List.cons.inj h).1)]
   exact Ev.const false
  refine Ev.pos e ?_
  have := ih (i + 1) (by omega) (by omega)
  rw [decide_eq_decide.2 (⟨fun h => (List.cons.inj h).2, fun h => by rw [e, h]⟩ : a[i] :: a.drop (i + 1) = b[i] :: b.drop (i + 1) ↔ a.drop (i + 1) = b.drop (i + 1))]
  exact this
theorem same_is (a b : List Int) (hl : a.length ≤ 9223372036854775807) : Ev (fun k => laganref04_SameInts.f k a b) (decide (a = b)) := by
 by_cases he : a.length = b.length
 rotate_left
 ·
  rw [decide_eq_false (fun e => he (by rw [e]))]
  exact Ev.neg (by omega) (Ev.const _)
 have := same_ev a b hl he a.length 0 (by omega) (by omega)
 exact Ev.pos (by omega) (by simpa using this)
theorem wide_ev {F : List Int} {S : List S50} {T : List (List Int)} (hT : T.length ≤ 9223372036854775807) (d : Nat) : ∀ i : Nat, T.length - i = d → i ≤ T.length → ∃ b, Ev (fun k => laganlaw04_wide.l0 k (i : Int) F S T) b := by
 induction d with
 | zero =>
  intro i hd hi
  have h : ∃ b : Bool, Ev (fun _ => if (F.length : Int) ≤ 30 then (if (S.length : Int) ≤ 40 then (some true) else (if (F.length : Int) > 60 then (some true) else (some (decide ((S.length : Int) > 200))))) else (if (F.length : Int) > 60 then (some true) else (some (decide ((S.length : Int) > 200))))) b := by
   by_cases h1 : (F.length : Int) ≤ 30
   ·
    by_cases h2 : (S.length : Int) ≤ 40
    ·
     exact ⟨_, Ev.pos h1 (Ev.pos h2 (Ev.const _))⟩
    ·
     by_cases h3 : (F.length : Int) > 60
     ·
      exact ⟨_, Ev.pos h1 (Ev.neg h2 (Ev.pos h3 (Ev.const _)))⟩
     ·
      exact ⟨_, Ev.pos h1 (Ev.neg h2 (Ev.neg h3 (Ev.const _)))⟩
   ·
    by_cases h3 : (F.length : Int) > 60
    ·
     exact ⟨_, Ev.neg h1 (Ev.pos h3 (Ev.const _))⟩
    ·
     exact ⟨_, Ev.neg h1 (Ev.neg h3 (Ev.const _))⟩
  obtain ⟨b, hb⟩ := h
  exact ⟨b, Ev.into (fun k => by rw [laganlaw04_wide.l0]) (Ev.neg (by omega) hb)⟩
 | succ d ih =>
  intro i hd hi
  have hw := wrap_pm (i := (i : Int)) (by omega) (by omega)
  obtain ⟨b, hb⟩ := ih (i + 1) (by omega) (by omega)
  rw [show ((i + 1 : Nat) : Int) = (i : Int) + 1 by omega, ← hw.1] at hb
  by_cases h : ((rd_L1 T (i : Int)).length : Int) > 60
  rotate_left
  ·
   exact ⟨b, Ev.into (fun k => by rw [laganlaw04_wide.l0]) (Ev.pos (by omega) (Ev.pos (by omega) (Ev.neg h hb)))⟩
  exact ⟨_, Ev.into (fun k => by rw [laganlaw04_wide.l0]) (Ev.pos (by omega) (Ev.pos (by omega) (Ev.pos h (Ev.const _))))⟩
theorem wide_is (F : List Int) (S : List S50) (T : List (List Int)) (hT : T.length ≤ 9223372036854775807) : ∃ b, Ev (fun k => laganlaw04_wide.f k F S T) b := by
 have hj : ∀ x, ∃ b, Ev (fun k => laganlaw04_wide.j0 k x F S T) b := fun x => by
  cases x with
  | true => exact ⟨_, Ev.into (fun k => by rw [laganlaw04_wide.j0]) (Ev.pos rfl (Ev.const _))⟩
  | false =>
   obtain ⟨b, hb⟩ := wide_ev (F := F) (S := S) hT T.length 0 (by omega) (by omega)
   rw [show ((0 : Nat) : Int) = 0 from rfl] at hb
   exact ⟨b, Ev.into (fun k => by rw [laganlaw04_wide.j0]) (Ev.neg (by simp) hb)⟩
 by_cases h1 : (F.length : Int) > 70
 ·
  obtain ⟨b, hb⟩ := hj true
  exact ⟨b, Ev.pos h1 hb⟩
 by_cases h2 : (S.length : Int) > 210
 ·
  obtain ⟨b, hb⟩ := hj true
  exact ⟨b, Ev.neg h1 (Ev.pos h2 hb)⟩
 obtain ⟨b, hb⟩ := hj (decide ((T.length : Int) > 70))
 exact ⟨b, Ev.neg h1 (Ev.neg h2 hb)⟩
end Go.Proofs.Ytkmmihadcbfkoaa
end

section
namespace Go.Proofs.Ytkmmihadcbfkoaa
open Go.RowKit Go.Proofs.YtkmmihadcbfkoaaW.PrintWords PM
set_option linter.unusedVariables false
set_option linter.unusedSimpArgs false
def bdF : List Int := [10, 20, 30]
def bdS (p : Int) : List S50 := [⟨1, 1, p⟩, ⟨1, 2, 1⟩, ⟨1, 3, 1⟩]
def bdT : List (List Int) := [[0], [0, 1], [0, 1, 2]]
theorem rowC {W : World} {b t : Nat} {cs : Array Value} {fr : Nat × Nat} {l : List Int} (h : W.heap[b]? = some (.cells cs t fr)) (hl : l.length ≤ 9223372036854775807) (hc : ∀ (j : Nat) (v : Int), l[j]? = some v → cs[j]? = some (Value.int .i64 v)) : Kd.C (Kd.int .i64) W (some ⟨b, 0, none⟩) l.length l :=
 Kd.C_of_reads (enc := Value.int .i64) (d := (0 : Int)) (h1 := fun _ => rfl) ⟨rfl, hl, fun _ => ⟨⟨b, 0, none⟩, rfl, fun j hj => by
  rw [add_plain]
  have := hc j l[j] (List.getElem?_eq_getElem hj)
  simp [World.cell?, h, this, List.getD_eq_getElem?_getD, List.getElem?_eq_getElem hj]⟩⟩
theorem rowsC {W : World} {b t : Nat} {cs : Array Value} {fr : Nat × Nat} {T : List (List Int)} (h : W.heap[b]? = some (.cells cs t fr)) (hl : T.length ≤ 9223372036854775807)
  (hc : ∀ (j : Nat) (l : List Int), T[j]? = some l → ∃ A c, cs[j]? = some (Value.slice A l.length c) ∧ l.length ≤ c ∧ Kd.C (Kd.int .i64) W A l.length l) : Kd.C (Kd.slice 3 (Kd.int .i64)) W (some ⟨b, 0, none⟩) T.length T :=
 ⟨rfl, hl, fun _ => ⟨⟨b, 0, none⟩, rfl, fun j l hj => by
  obtain ⟨A, c, h1, h2, h3⟩ := hc j l hj
  refine ⟨[.slice A l.length c], rfl, ⟨A, c, rfl, h2, h3⟩, fun i u hu => ?_⟩
  have hi : i = 0 := by
   have := (List.getElem?_eq_some_iff.1 hu).1
   simpa using this
  subst hi
  have hu : Value.slice A l.length c = u := by simpa using hu
  subst hu
  show W.cell? ((⟨b, 0, none⟩ : Addr).add (j * 1 + 0)) = _
  rw [add_plain]
  simp [World.cell?, h, h1]⟩⟩
theorem slotsC {W : World} {b t : Nat} {cs : Array Value} {fr : Nat × Nat} {S : List S50} (h : W.heap[b]? = some (.cells cs t fr)) (hl : S.length ≤ 9223372036854775807)
  (hc : ∀ (j : Nat) (s : S50), S[j]? = some s → cs[j * 3]? = some (Value.int .i64 s.f0) ∧ cs[j * 3 + 1]? = some (Value.int .i64 s.f1) ∧ cs[j * 3 + 2]? = some (Value.int .i64 s.f2)) : Kd.C k50 W (some ⟨b, 0, none⟩) S.length S :=
 ⟨rfl, hl, fun _ => ⟨⟨b, 0, none⟩, rfl, fun j s hj => by
  obtain ⟨h0, h1, h2⟩ := hc j s hj
  refine ⟨[.int .i64 s.f0, .int .i64 s.f1, .int .i64 s.f2], rfl, k50_mk W s, fun i u hu => ?_⟩
  show W.cell? ((⟨b, 0, none⟩ : Addr).add (j * 3 + i)) = _
  rw [add_plain]
  have hi := (List.getElem?_eq_some_iff.1 hu).1
  match i, hi, hu with
  | 0, _, hu =>
   have hu : Value.int .i64 s.f0 = u := by simpa using hu
   subst hu
   simp [World.cell?, h, h0]
  | 1, _, hu =>
   have hu : Value.int .i64 s.f1 = u := by simpa using hu
   subst hu
   simp [World.cell?, h, h1]
  | 2, _, hu =>
   have hu : Value.int .i64 s.f2 = u := by simpa using hu
   subst hu
   simp [World.cell?, h, h2]⟩⟩
def BoardPost (F : List Int) (S : List S50) (T : List (List Int)) (w : World) (e : Ending) (w' : World) : Prop :=
 ∃ A0 c0 A1 c1 A2 c2, e = .returned (.agg #[.slice A0 F.length c0, .slice A1 S.length c1, .slice A2 T.length c2]) ∧ F.length ≤ c0 ∧ S.length ≤ c1 ∧ T.length ≤ c2 ∧ Kd.C (Kd.int .i64) w' A0 F.length F ∧ Kd.C k50 w' A1 S.length S ∧ Kd.C (Kd.slice 3 (Kd.int .i64)) w' A2 T.length T ∧ Below w.heap.size w w'
set_option maxRecDepth 100000 in
set_option maxHeartbeats 8000000 in
theorem board_calls (p : Int) (w : World) : Calls Try.prog 51 #[.int .i64 p] w (BoardPost bdF (bdS p) bdT w) := by
  go_enter Try.func51, Try.ntmps51
  go_wp2_with fail
  have hB : Below w.heap.size w (((((((w.alloc (.cells #[.slice (some ⟨w.heap.size + 1, 0, none⟩) 3 3, .slice (some ⟨w.heap.size + 1 + 1, 0, none⟩) 3 3, .slice (some ⟨w.heap.size + 1 + 1 + 1 + 1 + 1 + 1, 0, none⟩) 3 3] 26)).alloc (.cells #[.int .i64 10, .int .i64 20, .int .i64 30] 3)).alloc
      (.cells #[.int .i64 1, .int .i64 1, .int .i64 p, .int .i64 1, .int .i64 2, .int .i64 1, .int .i64 1, .int .i64 3, .int .i64 1] 50)).alloc (.cells #[.int .i64 0] 3)).alloc (.cells #[.int .i64 0, .int .i64 1] 3)).alloc (.cells #[.int .i64 0, .int .i64 1, .int .i64 2] 3)).alloc
      (.cells #[.slice (some ⟨w.heap.size + 1 + 1 + 1, 0, none⟩) 1 1, .slice (some ⟨w.heap.size + 1 + 1 + 1 + 1, 0, none⟩) 2 2, .slice (some ⟨w.heap.size + 1 + 1 + 1 + 1 + 1, 0, none⟩) 3 3] 22)) := by
    repeat (first | exact Below.refl _ _ | refine below_alloc ?_ _)
  obtain ⟨W, hW⟩ : ∃ W, (((((((w.alloc (.cells #[.slice (some ⟨w.heap.size + 1, 0, none⟩) 3 3, .slice (some ⟨w.heap.size + 1 + 1, 0, none⟩) 3 3, .slice (some ⟨w.heap.size + 1 + 1 + 1 + 1 + 1 + 1, 0, none⟩) 3 3] 26)).alloc (.cells #[.int .i64 10, .int .i64 20, .int .i64 30] 3)).alloc
      (.cells #[.int .i64 1, .int .i64 1, .int .i64 p, .int .i64 1, .int .i64 2, .int .i64 1, .int .i64 1, .int .i64 3, .int .i64 1] 50)).alloc (.cells #[.int .i64 0] 3)).alloc (.cells #[.int .i64 0, .int .i64 1] 3)).alloc (.cells #[.int .i64 0, .int .i64 1, .int .i64 2] 3)).alloc
      (.cells #[.slice (some ⟨w.heap.size + 1 + 1 + 1, 0, none⟩) 1 1, .slice (some ⟨w.heap.size + 1 + 1 + 1 + 1, 0, none⟩) 2 2, .slice (some ⟨w.heap.size + 1 + 1 + 1 + 1 + 1, 0, none⟩) 3 3] 22)) = W := ⟨_, rfl⟩
  have e0 : W.heap[w.heap.size]? = some (.cells #[.slice (some ⟨w.heap.size + 1, 0, none⟩) 3 3, .slice (some ⟨w.heap.size + 1 + 1, 0, none⟩) 3 3, .slice (some ⟨w.heap.size + 1 + 1 + 1 + 1 + 1 + 1, 0, none⟩) 3 3] 26 (0, 0)) := by
    rw [← hW]
    repeat (first | exact blk_new _ _ | (refine (congrArg _ ?_).trans (blk_new _ _); simp only [World.size_alloc]; done) | refine blk_alloc ?_ _)
  have e1 : W.heap[w.heap.size + 1]? = some (.cells #[.int .i64 10, .int .i64 20, .int .i64 30] 3 (0, 0)) := by
    rw [← hW]
    repeat (first | exact blk_new _ _ | (refine (congrArg _ ?_).trans (blk_new _ _); simp only [World.size_alloc]; done) | refine blk_alloc ?_ _)
  have e2 : W.heap[w.heap.size + 1 + 1]? = some (.cells #[.int .i64 1, .int .i64 1, .int .i64 p, .int .i64 1, .int .i64 2, .int .i64 1, .int .i64 1, .int .i64 3, .int .i64 1] 50 (0, 0)) := by
    rw [← hW]
    repeat (first | exact blk_new _ _ | (refine (congrArg _ ?_).trans (blk_new _ _); simp only [World.size_alloc]; done) | refine blk_alloc ?_ _)
  have e3 : W.heap[w.heap.size + 1 + 1 + 1]? = some (.cells #[.int .i64 0] 3 (0, 0)) := by
    rw [← hW]
    repeat (first | exact blk_new _ _ | (refine (congrArg _ ?_).trans (blk_new _ _); simp only [World.size_alloc]; done) | refine blk_alloc ?_ _)
  have e4 : W.heap[w.heap.size + 1 + 1 + 1 + 1]? = some (.cells #[.int .i64 0, .int .i64 1] 3 (0, 0)) := by
    rw [← hW]
    repeat (first | exact blk_new _ _ | (refine (congrArg _ ?_).trans (blk_new _ _); simp only [World.size_alloc]; done) | refine blk_alloc ?_ _)
  have e5 : W.heap[w.heap.size + 1 + 1 + 1 + 1 + 1]? = some (.cells #[.int .i64 0, .int .i64 1, .int .i64 2] 3 (0, 0)) := by
    rw [← hW]
    repeat (first | exact blk_new _ _ | (refine (congrArg _ ?_).trans (blk_new _ _); simp only [World.size_alloc]; done) | refine blk_alloc ?_ _)
  have e6 : W.heap[w.heap.size + 1 + 1 + 1 + 1 + 1 + 1]? = some (.cells #[.slice (some ⟨w.heap.size + 1 + 1 + 1, 0, none⟩) 1 1, .slice (some ⟨w.heap.size + 1 + 1 + 1 + 1, 0, none⟩) 2 2, .slice (some ⟨w.heap.size + 1 + 1 + 1 + 1 + 1, 0, none⟩) 3 3] 22 (0, 0)) := by
    rw [← hW]
    repeat (first | exact blk_new _ _ | (refine (congrArg _ ?_).trans (blk_new _ _); simp only [World.size_alloc]; done) | refine blk_alloc ?_ _)
  rw [hW] at hB ⊢
  refine bodyPost_ret (results_cell_row rfl _ _ w.heap.size 26 _ (0, 0) _ rfl e0 Try.underlying26 rfl (by kernel_rfl)) rfl ?_
  have r0 := rowC (l := [0]) e3 (by decide) (fun j v hv => by
    match j, hv with
    | 0, hv => have : (0 : Int) = v := by simpa using hv
               subst this; rfl)
  have r1 := rowC (l := [0, 1]) e4 (by decide) (fun j v hv => by
    match j, hv with
    | 0, hv => have : (0 : Int) = v := by simpa using hv
               subst this; rfl
    | 1, hv => have : (1 : Int) = v := by simpa using hv
               subst this; rfl)
  have r2 := rowC (l := [0, 1, 2]) e5 (by decide) (fun j v hv => by
    match j, hv with
    | 0, hv => have : (0 : Int) = v := by simpa using hv
               subst this; rfl
    | 1, hv => have : (1 : Int) = v := by simpa using hv
               subst this; rfl
    | 2, hv => have : (2 : Int) = v := by simpa using hv
               subst this; rfl)
  refine ⟨_, _, _, _, _, _, rfl, by decide, by simp [bdS], by decide, rowC (l := bdF) e1 (by decide) (fun j v hv => ?_), slotsC e2 (by simp [bdS]) (fun j v hv => ?_), rowsC e6 (by decide) (fun j v hv => ?_), hB⟩
  · match j, hv with
    | 0, hv => have : (10 : Int) = v := by simpa [bdF] using hv
               subst this; rfl
    | 1, hv => have : (20 : Int) = v := by simpa [bdF] using hv
               subst this; rfl
    | 2, hv => have : (30 : Int) = v := by simpa [bdF] using hv
               subst this; rfl
    | n + 3, hv => simp [bdF] at hv
  · match j, hv with
    | 0, hv => have : (⟨1, 1, p⟩ : S50) = v := by simpa [bdS] using hv
               subst this; exact ⟨rfl, rfl, rfl⟩
    | 1, hv => have : (⟨1, 2, 1⟩ : S50) = v := by simpa [bdS] using hv
               subst this; exact ⟨rfl, rfl, rfl⟩
    | 2, hv => have : (⟨1, 3, 1⟩ : S50) = v := by simpa [bdS] using hv
               subst this; exact ⟨rfl, rfl, rfl⟩
    | n + 3, hv => simp [bdS] at hv
  · match j, hv with
    | 0, hv => have : ([0] : List Int) = v := by simpa [bdT] using hv
               subst this; exact ⟨_, _, rfl, by decide, r0⟩
    | 1, hv => have : ([0, 1] : List Int) = v := by simpa [bdT] using hv
               subst this; exact ⟨_, _, rfl, by decide, r1⟩
    | 2, hv => have : ([0, 1, 2] : List Int) = v := by simpa [bdT] using hv
               subst this; exact ⟨_, _, rfl, by decide, r2⟩
    | n + 3, hv => simp [bdT] at hv
end Go.Proofs.Ytkmmihadcbfkoaa
end

section
namespace Go.Proofs.Ytkmmihadcbfkoaa
open Go.RowKit Go.Proofs.YtkmmihadcbfkoaaW.PrintWords PM
set_option linter.unusedVariables false
set_option linter.unusedSimpArgs false
/-- The slots of one find are tried one after another. -/
def tryRow (F : List Int) (S : List S50) (f : Nat) : List Int → List (List Int) → List Int → List (List Int) × List Int
 | [], T, out => (T, out)
 | s :: ss, T, out => if isF F S (T.set f [s]) = true then (T.set f [s], out.set f s) else tryRow F S f ss (T.set f [s]) out
def nextF (F : List Int) (S : List S50) (T0 : List (List Int)) : Nat → Nat → List (List Int) → List Int → List Int
 | 0, _, _, out => out
 | n + 1, f, T, out => nextF F S T0 n (f + 1) (tryRow F S f (T0.getD f []) T out).1 (tryRow F S f (T0.getD f []) T out).2
/-- Apart from the rows of the fits and of the slots found, what lay lies as it lay. -/
structure AG (Cf Bo : Nat) (w w' : World) : Prop where
 os : w'.os = w.os
 tape : w'.tape = w.tape
 output : w'.output = w.output
 size : w.heap.size ≤ w'.heap.size
 block : ∀ k, k < w.heap.size → k ≠ Cf → k ≠ Bo → w'.heap[k]? = w.heap[k]?
 cells : szOf (w'.heap[Bo]?) = szOf (w.heap[Bo]?)
theorem AG.refl (Cf Bo : Nat) (w : World) : AG Cf Bo w w := ⟨rfl, rfl, rfl, Nat.le_refl _, fun _ _ _ _ => rfl, rfl⟩
theorem AG.trans {Cf Bo : Nat} {a b c : World} (h : AG Cf Bo a b) (k : AG Cf Bo b c) : AG Cf Bo a c :=
 ⟨k.os.trans h.os, k.tape.trans h.tape, k.output.trans h.output, Nat.le_trans h.size k.size, fun i hi h1 h2 => (k.block i (Nat.lt_of_lt_of_le hi h.size) h1 h2).trans (h.block i hi h1 h2), k.cells.trans h.cells⟩
theorem AG.of_below {Cf Bo : Nat} {w w' : World} (h : Below w.heap.size w w') (hB : Bo < w.heap.size) : AG Cf Bo w w' := ⟨h.os, h.tape, h.output, h.size, fun k hk _ _ => h.block k hk, by rw [h.block Bo hB]⟩
theorem AG.of_grown {Cf Bo : Nat} {w w' : World} (h : w.grownBy w' (some Cf)) (hB : Bo < w.heap.size) (hne : Bo ≠ Cf) : AG Cf Bo w w' := ⟨h.os, h.tape, h.output, h.size, fun k hk h1 _ => h.block k hk (by simpa using h1), by rw [h.block Bo hB (by simpa using hne)]⟩
theorem AG.put {Cf Bo : Nat} (w : World) (o : Nat) (v : Value) : AG Cf Bo w (w.setCell ⟨Bo, o, none⟩ v) := ⟨rfl, rfl, rfl, by simp [World.setCell], fun k _ _ h => Below.heap_setCell _ _ _ _ h, szOf_setCell _ _ _ _⟩
structure AL where
 A0 : Option Addr
 c0 : Nat
 A1 : Option Addr
 c1 : Nat
 A2 : Option Addr
 c2 : Nat
 Bc : Nat
 Bb : Nat
 Bq : Nat
 Bn : Nat
 Cf : Nat
 cf : Nat
 Bo : Nat
 base : Nat
 ra : Nat → Option Addr
 rc : Nat → Nat
structure AStill (L : AL) (F : List Int) (S : List S50) (T : List (List Int)) (w : World) : Prop where
 cb : w.heap[L.Bb]? = some (.cells #[.slice L.A0 F.length L.c0, .slice L.A1 S.length L.c1, .slice L.A2 T.length L.c2] 26 (0, 0))
 cc : w.heap[L.Bc]? = some (.cells #[.slice L.A0 F.length L.c0, .slice L.A1 S.length L.c1, .slice (some ⟨L.Cf, 0, none⟩) T.length L.cf] 26 (0, 0))
 cq : w.heap[L.Bq]? = some (.cells #[.slice (some ⟨L.Bo, 0, none⟩) F.length F.length] 22 (0, 0))
 cn : w.heap[L.Bn]? = some (.cells #[.func (.func 55) #[] #[.pointer (some ⟨L.Bc, 0, none⟩), .pointer (some ⟨L.Bb, 0, none⟩), .pointer (some ⟨L.Bq, 0, none⟩), .pointer (some ⟨L.Bn, 0, none⟩)]] 73 (0, 0))
 slots : Kd.C k50 w L.A1 S.length S
 fits : RowsAt w L.A2 L.ra L.rc T
def AStands (L : AL) (F : List Int) (S : List S50) (T : List (List Int)) (w : World) : Prop := ∀ w', AG L.Cf L.Bo w w' → AStill L F S T w'
theorem AStands.still {L : AL} {F : List Int} {S : List S50} {T : List (List Int)} {w : World} (h : AStands L F S T w) : AStill L F S T w := h w (AG.refl _ _ _)
theorem AStands.later {L : AL} {F : List Int} {S : List S50} {T : List (List Int)} {w w' : World} (h : AStands L F S T w) (a : AG L.Cf L.Bo w w') : AStands L F S T w' := fun w2 k => h w2 (a.trans k)
/-- The fits as they stand now, and the slots found. -/
structure ATurn (L : AL) (F : List Int) (S : List S50) (T0 T : List (List Int)) (out : List Int) (w : World) : Prop where
 fits : Kd.N (Kd.slice 3 (Kd.int .i64)) 22 w L.base (fun k => k ≠ L.Bo) (.slice (some ⟨L.Cf, 0, none⟩) T0.length L.cf) T
 row : RowAt w L.Bo 3 (Value.int .i64) out
 lt : T.length = T0.length
 lo : out.length = F.length
 ok : BOK F S T
theorem BOK.set {F : List Int} {S : List S50} {T : List (List Int)} (h : BOK F S T) (f : Nat) (s : Int) (h0 : 0 ≤ s) (h1 : s < S.length) : BOK F S (T.set f [s]) := by
 have hg : ∀ i : Nat, i < T.length → (T.set f [s]).getD i [] = if f = i then [s] else T.getD i [] := fun i hi => by
  rw [List.getD_eq_getElem?_getD, List.getElem?_set]
  by_cases e : f = i
  ·
   rw [if_pos e, if_pos e, if_pos (by omega)]; rfl
  ·
   rw [if_neg e, if_neg e, List.getD_eq_getElem?_getD]
 refine ⟨h.nf, h.ns, by rw [List.length_set]; exact h.nt, fun i hi => ?_, fun i hi j hj => ?_⟩
 ·
  rw [List.length_set] at hi
  rw [hg i hi]
  split
  ·
   simp
  exact h.row i hi
 rw [List.length_set] at hi
 rw [hg i hi] at hj ⊢
 split at hj
 ·
  rename_i e
  rw [if_pos e]
  have : j = 0 := by simpa using hj
  subst this
  exact ⟨h0, h1⟩
 rename_i e
 rw [if_neg e]
 exact h.slot i hi j hj
theorem C_of_row' {w : World} {b n : Nat} {xs : List Int} (h : RowAt w b 3 (Value.int .i64) xs) (hl : xs.length = n) (hn : n ≤ 9223372036854775807) : Kd.C (Kd.int .i64) w (some ⟨b, 0, none⟩) n xs :=
 Kd.C_of_reads (enc := Value.int .i64) (d := (0 : Int)) (h1 := fun _ => rfl) ⟨hl, hn, fun _ => ⟨⟨b, 0, none⟩, rfl, fun j hj => by
  rw [add_plain, h.cell j (by omega)]
  simp [List.getD_eq_getElem?_getD, List.getElem?_eq_getElem (show j < xs.length by omega)]⟩⟩
theorem ATurn.below {L : AL} {F : List Int} {S : List S50} {T0 T : List (List Int)} {out : List Int} {w w' : World} (h : ATurn L F S T0 T out w) (hb : Below w.heap.size w w') : ATurn L F S T0 T out w' :=
 ⟨Kd.N_below h.fits hb, h.row.below hb, h.lt, h.lo, h.ok⟩
theorem ATurn.put {L : AL} {F : List Int} {S : List S50} {T0 T : List (List Int)} {out : List Int} {w : World} (h : ATurn L F S T0 T out w) (f : Nat) (s : Int) : ATurn L F S T0 T (out.set f s) (w.setCell ⟨L.Bo, f, none⟩ (.int .i64 s)) :=
 ⟨Kd.N_far (p := ⟨L.Bo, f, none⟩) h.fits (fun k hk => hk) _, h.row.set f s, h.lt, by rw [List.length_set]; exact h.lo, h.ok⟩
def NextPost (L : AL) (F : List Int) (S : List S50) (r : List Int) (w : World) (e : Ending) (w' : World) : Prop := e = .returned (.tuple #[]) ∧ AG L.Cf L.Bo w w' ∧ RowAt w' L.Bo 3 (Value.int .i64) r
set_option maxRecDepth 100000 in
set_option maxHeartbeats 8000000 in
theorem next_calls (L : AL) (F : List Int) (S : List S50) (T0 : List (List Int)) (hne : L.Bo ≠ L.Cf) (hk0 : BOK F S T0) (n : Nat) : ∀ (f : Nat) (T : List (List Int)) (out : List Int) (w : World), f + n = T0.length → AStands L F S T0 w → ATurn L F S T0 T out w →
  Calls Try.prog 55 #[.int .i64 f, .pointer (some ⟨L.Bc, 0, none⟩), .pointer (some ⟨L.Bb, 0, none⟩), .pointer (some ⟨L.Bq, 0, none⟩), .pointer (some ⟨L.Bn, 0, none⟩)] w (NextPost L F S (nextF F S T0 n f T out) w) := by
 induction n with
 | zero =>
  intro f T out w hfn hS hT
  have hst := hS.still
  have d2 := cell_of_heap hst.cc (j := 2) rfl
  obtain rfl : f = T0.length := by omega
  have HT := Go.Lib.hid hT
  clear hst hS hT hfn
  unfold nextF
  go_enter Try.func55, Try.ntmps55
  go_wp2_with fail
  go_step3
  go_wp2_with fail
  rw [Exit.noGoto_ret]
  go_end0
  exact ⟨rfl, AG.refl _ _ _, HT.out.row⟩
 | succ n ih =>
  intro f T out w hfn hS hT
  have hst := hS.still
  have d2 := cell_of_heap hst.cc (j := 2) rfl
  have b2 := cell_of_heap hst.cb (j := 2) rfl
  have hft : f < T0.length := by omega
  have g1 : ((f : Int) == (T0.length : Int)) = false := by
   rw [beq_eq_false_iff_ne]; omega
  obtain ⟨a8, e8, hx8, hC⟩ := hst.fits f hft
  obtain ⟨res, hres⟩ : ∃ res, nextF F S T0 (n + 1) f T out = res := ⟨_, rfl⟩
  rw [hres]
  unfold nextF at hres
  have hslot := hk0.slot f hft
  have hrl := hk0.row f hft
  have hno := hk0.nt
  have lT0 : T0.length ≤ 60 := by rw [hno]; exact hk0.nf
  obtain ⟨row, hrw⟩ : ∃ row, T0.getD f [] = row := ⟨_, rfl⟩
  rw [hrw] at hx8 hC hslot hres hrl
  rw [e8] at b2
  have hSt : ∀ w', AG L.Cf L.Bo w w' → Kd.C (Kd.int .i64) w' (L.ra f) row.length row := by
   intro w' a
   obtain ⟨_, _, _, hC'⟩ := (hS w' a).fits f hft
   rwa [hrw] at hC'
  have HT := Go.Lib.hid hT
  have HS := Go.Lib.hid hS
  have HRES := Go.Lib.hid hres
  have HSL := Go.Lib.hid hslot
  have HST := Go.Lib.hid hSt
  have IH := Go.Lib.hid ih
  have HK0 := Go.Lib.hid hk0
  have HFN := Go.Lib.hid hfn
  have HNO := Go.Lib.hid hno
  have hfn1 : f + 1 ≤ T0.length := by omega
  clear hst hS hT hfn hres hslot ih hk0 hC hrw e8 hno hSt
  go_enter Try.func55, Try.ntmps55
  go_wp2_with fail
  go_step3
  go_wp2_with fail
  go_step3
  go_wp2_with fail
  go_loopw [21] (fun i wr => ∃ k : Nat, k ≤ row.length ∧ i = .int .i64 k ∧ Hid (∃ T' out', nextF F S T0 n (f + 1) (tryRow F S f (row.drop k) T' out').1 (tryRow F S f (row.drop k) T' out').2 = res ∧ ATurn L F S T0 T' out' wr ∧ AG L.Cf L.Bo w wr)) (fun i _ => row.length - (intOf i).toNat)
  case atStart => exact ⟨0, Nat.zero_le _, rfl, T, out, HRES.out, HT.out, AG.refl _ _ _⟩
  obtain ⟨k, hk, rfl, HID⟩ := hrel
  obtain ⟨T', out', hre, hT, hag⟩ := HID.out
  by_cases hlt : k < row.length
  rotate_left
  ·
   obtain rfl : k = row.length := by omega
   rw [List.drop_length] at hre
   have hst := (HS.out.later hag).still
   have q4 := cell_of_heap hst.cn (j := 0) rfl
   have NC := IH.out (f + 1) T' out' wr (by have := HFN.out; omega) (HS.out.later hag) hT
   rw [show nextF F S T0 n (f + 1) T' out' = res from hre, show ((f + 1 : Nat) : Int) = (f : Int) + 1 from by omega] at NC
   have HAG := Go.Lib.hid hag
   clear hre hT hag hst HID
   go_wp2_with fail
   refine NC.mono ?_
   clear NC
   rintro e w5 ⟨rfl, hag5, hrow5⟩
   have HX5 := Go.Lib.hid (And.intro hag5 hrow5)
   clear hag5 hrow5
   go_wp2_with fail
   change bodyPost Try.prog Try.f55 (NextPost L F S res w) Exit.normal _ _
   go_end0
   exact ⟨rfl, HAG.out.trans HX5.out.1, HX5.out.2⟩
  obtain ⟨a9, e9, x9⟩ := Kd.at_int (HST.out wr hag) (k : Int) (by omega) (by omega)
  rw [Int.toNat_natCast, show rd row (k : Int) = row.getD k 0 from by simp [rd]] at x9
  rw [show row.drop k = row.getD k 0 :: row.drop (k + 1) from by rw [List.drop_eq_getElem_cons hlt]; simp [List.getD_eq_getElem?_getD, List.getElem?_eq_getElem hlt]] at hre
  have hsb := HSL.out k hlt
  obtain ⟨s9, hs9⟩ : ∃ s9, row.getD k 0 = s9 := ⟨_, rfl⟩
  rw [hs9] at x9 hre hsb
  obtain ⟨hs0, hs1⟩ := hsb
  unfold tryRow at hre
  have hst := (HS.out.later hag).still
  have d2 := cell_of_heap hst.cc (j := 2) rfl
  have hBl := hT.row.lt
  have hal := (Below.refl wr.heap.size wr).alloc (Nat.le_refl _) (.cells #[.int .i64 s9] 3)
  have dd2 := pw_cell_below hal d2
  have hN1 := Kd.N_alloc hT.fits (.cells #[.int .i64 s9] 3)
  have hbase : L.base ≤ wr.heap.size := Nat.le_trans (Kd.N_base hT.fits L.Cf rfl) (Nat.le_of_lt (Kd.N_lt hT.fits L.Cf rfl))
  obtain ⟨c, hcl, _, hcc⟩ := Kd.N_get hN1 ([] : List Int) (f : Int) (by omega) (by omega)
  have hcl : c.length = 1 := hcl
  obtain ⟨c0, rfl⟩ : ∃ c0, c = [c0] := List.length_eq_one_iff.1 hcl
  have hcc : ∀ j u, [c0][j]? = some u → (wr.alloc (.cells #[.int .i64 s9] 3)).cell? ⟨L.Cf, (f : Int).toNat * (Kd.slice 3 (Kd.int .i64)).sz + j, none⟩ = some u := fun j u hu => by
   have := hcc j u hu
   rwa [add_plain] at this
  have hrow1 : RowAt (wr.alloc (.cells #[.int .i64 s9] 3)) wr.heap.size 3 (Value.int .i64) [s9] := ⟨_, World.alloc_heap_new _ _, fun j hj => by
   have : j = 0 := by simpa using hj
   subst this; rfl⟩
  have hM : Kd.FK (Kd.slice 3 (Kd.int .i64)) (wr.alloc (.cells #[.int .i64 s9] 3)) (fun q => q = wr.heap.size) [s9] [.slice (some ⟨wr.heap.size, 0, none⟩) 1 1] :=
   Kd.FK_slice_mk (c := 1) (by simp) (fun W' hW => C_of_row' (hrow1.same (hW wr.heap.size rfl (by simp))) rfl (by simp))
  have HP := Go.Lib.hid (And.intro hN1 (And.intro hM (And.intro hcc hbase)))
  have HRE := Go.Lib.hid hre
  have HT' := Go.Lib.hid hT
  have HAG := Go.Lib.hid hag
  have HAL := Go.Lib.hid hal
  have hclf : L.Cf < wr.heap.size := Kd.N_lt hT.fits L.Cf rfl
  have PREP : ∀ w2, Kd.N (Kd.slice 3 (Kd.int .i64)) 22 w2 L.base (fun k => k ≠ L.Bo) (.slice (some ⟨L.Cf, 0, none⟩) T0.length L.cf) (T'.set f [s9]) → (wr.alloc (.cells #[.int .i64 s9] 3)).grownBy w2 (some L.Cf) →
    w2.cell? ⟨L.Bc, 0, none⟩ = some (.slice L.A0 F.length L.c0) ∧ w2.cell? ⟨L.Bc, 1, none⟩ = some (.slice L.A1 S.length L.c1) ∧ w2.cell? ⟨L.Bc, 2, none⟩ = some (.slice (some ⟨L.Cf, 0, none⟩) T0.length L.cf) ∧
    Calls Try.prog 52 #[.agg #[.slice L.A0 F.length L.c0, .slice L.A1 S.length L.c1, .slice (some ⟨L.Cf, 0, none⟩) T0.length L.cf]] w2 (SomePost F S (T'.set f [s9]) (.slice L.A0 F.length L.c0) w2) ∧
    Hid (ATurn L F S T0 (T'.set f [s9]) out' w2 ∧ AG L.Cf L.Bo wr w2) := by
   intro w2 hN2 hg2
   have hag2 : AG L.Cf L.Bo wr w2 := (AG.of_below hal hBl).trans (AG.of_grown hg2 (by simp; omega) hne)
   have hst2 := (HS.out.later (hag.trans hag2)).still
   have hbok := BOK.set hT.ok f s9 hs0 hs1
   have hlen2 : (T'.set f [s9]).length = T0.length := by rw [List.length_set, hT.lt]
   have hC2 := (Kd.N_reads' hN2).2.2
   have SC := some_calls L.A0 L.c0 F L.A1 L.c1 S (some ⟨L.Cf, 0, none⟩) L.cf (T'.set f [s9]) w2 hbok hst2.slots hC2
   rw [hlen2] at SC
   exact ⟨cell_of_heap hst2.cc rfl, cell_of_heap hst2.cc rfl, cell_of_heap hst2.cc rfl, SC, ⟨hN2, hT.row.same ((hg2.block L.Bo (by simp; omega) (by simpa using hne)).trans (hal.block L.Bo hBl)), hlen2, hT.lo, hbok⟩, hag2⟩
  clear hre hT hag hst hal hN1 hM hcc hrow1 hs9 hbase HID hcl
  rw [e9] at *
  go_wp2_with (first | (refine Kd.N_store (Kd.slice 3 (Kd.int .i64)) (w0 := wr) L.base rfl rfl 22 (.tmp 30) (.tmp 29) rfl 22 (g := L.Cf) (n := T0.length) (cap := L.cf) (o' := f) (f : Int) 0 T' [s9] (.slice (some ⟨wr.heap.size, 0, none⟩) 1 1) [.slice (some ⟨wr.heap.size, 0, none⟩) 1 1] [c0] (fun q => q ≠ L.Bo) (fun q => q = wr.heap.size) rfl (by show f = (f : Int).toNat * 1 + 0; omega) rfl rfl rfl (by intro q hq; rw [List.mem_singleton.1 hq]; rfl) HP.out.1 (by omega) (by omega) rfl HP.out.2.2.1 (by show 0 + 1 ≤ 1; omega) HP.out.2.1 (fun q hq => ⟨by omega, by omega⟩) (HAL.out.mono HP.out.2.2.2) ?_; intro w2 hN2 hb2 hg2; obtain ⟨p0, p1, p2, SC, HX2⟩ := PREP w2 hN2 hg2; clear hN2 hb2 hg2))
  refine SC.mono ?_
  clear SC
  rintro e w3 ⟨t, rfl, _, _, _, _, hb3⟩
  have hT3 := HX2.out.1.below hb3
  have hbo2 : L.Bo < w2.heap.size := HX2.out.1.row.lt
  have hag3 := HAG.out.trans (HX2.out.2.trans (AG.of_below hb3 hbo2))
  have hst3 := (HS.out.later hag3).still
  have q0 := cell_of_heap hst3.cq (j := 0) rfl
  have q1 := cell_of_heap hst3.cn (j := 0) rfl
  obtain ⟨ok, hok⟩ : ∃ ok, (fillF (T'.set f [s9]) (rooms S) S.length (-1) (List.replicate F.length (-1))).ok = ok := ⟨_, rfl⟩
  rw [hok]
  have hre := HRE.out
  rw [show isF F S (T'.set f [s9]) = ok from hok] at hre
  have HAG3 := Go.Lib.hid hag3
  have HT3 := Go.Lib.hid hT3
  clear hok hT3 hag3 hst3 hb3 p0 p1 p2 PREP HX2 HRE
  cases ok with
  | false =>
   rw [if_neg (by simp)] at hre
   have HRE2 := Go.Lib.hid hre
   clear hre
   go_wp2_with fail
   go_roundw
   case rel => exact ⟨k + 1, by omega, by simp, _, _, HRE2.out, HT3.out, HAG3.out⟩
   case measure => simp [intOf]; omega
  | true =>
   rw [if_pos rfl] at hre
   have HRE2 := Go.Lib.hid hre
   clear hre
   have hfF : (f : Int) < (F.length : Int) := by have := HNO.out; omega
   have fz := HT3.out.row.frozen f
   have cf := HT3.out.row.cellD 0 (f : Int) (by omega) (by rw [HT3.out.lo]; exact hfF)
   rw [Int.toNat_natCast] at cf
   have hT4 := HT3.out.put f s9
   have hag4 : AG L.Cf L.Bo w3 (w3.setCell ⟨L.Bo, f, none⟩ (.int .i64 s9)) := AG.put _ _ _
   have hst4 := (HS.out.later (HAG3.out.trans hag4)).still
   have q4 := cell_of_heap hst4.cn (j := 0) rfl
   have NC := IH.out (f + 1) _ _ _ (by have := HFN.out; omega) (HS.out.later (HAG3.out.trans hag4)) hT4
   rw [HRE2.out, show ((f + 1 : Nat) : Int) = (f : Int) + 1 from by omega] at NC
   have HAG4 := Go.Lib.hid (HAG3.out.trans hag4)
   clear hT4 hag4 hst4
   go_wp2_with fail
   refine NC.mono ?_
   clear NC
   rintro e w5 ⟨rfl, hag5, hrow5⟩
   have HX5 := Go.Lib.hid (And.intro hag5 hrow5)
   clear hag5 hrow5
   go_wp2_with fail
   change bodyPost Try.prog Try.f55 (NextPost L F S res w) Exit.normal _ _
   go_end0
   exact ⟨rfl, HAG4.out.trans HX5.out.1, HX5.out.2⟩
end Go.Proofs.Ytkmmihadcbfkoaa
end

section
namespace Go.Proofs.Ytkmmihadcbfkoaa
open Go.RowKit Go.Proofs.YtkmmihadcbfkoaaW.PrintWords PM
set_option linter.unusedVariables false
set_option linter.unusedSimpArgs false
/-- A row of ints of the call's own, as cells of a block, and back. -/
theorem row_of_own {w : World} {b n c g : Nat} {xs : List Int} (h : w.ownsRow b 3 1 (.slice (some ⟨g, 0, none⟩) n c) n (xs.map (Value.int .i64))) :
  RowAt w g 3 (Value.int .i64) xs ∧ szOf (w.heap[g]?) = c ∧ xs.length = n ∧ n ≤ c ∧ c ≤ maxLen ∧ b ≤ g := by
 have hl : xs.length = n := by have := h.1; simpa using this
 rcases h.2 with ⟨e, _⟩ | ⟨g', cap, cur, e, hb, hh, hle, hmx, hsz, htk⟩
 ·
  cases e
 injection e with e1 e2 e3
 injection e1 with e1
 injection e1 with e1
 subst e1; subst e3
 refine ⟨⟨cur, hh, fun j hj => ?_⟩, by rw [hh]; simpa [szOf] using hsz, hl, hle, hmx, hb⟩
 have h2 : (cur.toList.take (n * 1))[j]? = (xs.map (Value.int .i64))[j]? := by rw [htk]
 rw [List.getElem?_take_of_lt (by omega), List.getElem?_map, List.getElem?_eq_getElem hj] at h2
 rw [← Array.getElem?_toList, h2]
 rfl
theorem own_of_row {w : World} {b n c g : Nat} {xs : List Int} (h : RowAt w g 3 (Value.int .i64) xs) (hsz : szOf (w.heap[g]?) = c) (hl : xs.length = n) (hle : n ≤ c) (hmx : c ≤ maxLen) (hb : b ≤ g) :
  w.ownsRow b 3 1 (.slice (some ⟨g, 0, none⟩) n c) n (xs.map (Value.int .i64)) := by
 obtain ⟨cs, hh, hc⟩ := h
 rw [hh] at hsz
 have hsz : cs.size = c := hsz
 refine ⟨by simpa using hl, Or.inr ⟨g, c, cs, rfl, hb, hh, hle, hmx, by omega, ?_⟩⟩
 apply List.ext_getElem?
 intro j
 by_cases hj : j < n
 rotate_left
 ·
  rw [List.getElem?_eq_none (by simp; omega), List.getElem?_eq_none (by simp; omega)]
 rw [List.getElem?_take_of_lt (by omega), List.getElem?_map, List.getElem?_eq_getElem (show j < xs.length by omega), Array.getElem?_toList]
 exact hc j (by omega)
theorem C_of_row {w : World} {b n : Nat} {xs : List Int} (h : RowAt w b 3 (Value.int .i64) xs) (hl : xs.length = n) (hn : n ≤ 9223372036854775807) : Kd.C (Kd.int .i64) w (some ⟨b, 0, none⟩) n xs :=
 Kd.C_of_reads (enc := Value.int .i64) (d := (0 : Int)) (h1 := fun _ => rfl) ⟨hl, hn, fun _ => ⟨⟨b, 0, none⟩, rfl, fun j hj => by
  rw [add_plain, h.cell j (by omega)]
  simp [List.getD_eq_getElem?_getD, List.getElem?_eq_getElem (show j < xs.length by omega)]⟩⟩
structure WR where
 ok : Bool
 has : List Int
/-- What 'with' comes to: is there an assignment that gives the find the slot, and which. -/
def withF (fits : List (List Int)) (room : List Int) (ns : Nat) (has : List Int) (find : Nat) (slot : Int) : WR :=
 if slot ∉ fits.getD find [] then ⟨false, []⟩
 else if has.getD find 0 = slot then ⟨true, has⟩
 else if (room.set slot.toNat (room.getD slot.toNat 0 - 1)).getD slot.toNat 0 < ld (has.set find (-1)) slot then
  if (giveR fits (room.set slot.toNat (room.getD slot.toNat 0 - 1)) ns ((atOf (has.set find (-1)) slot).getD 0 0) ((has.set find (-1)).set ((atOf (has.set find (-1)) slot).getD 0 0).toNat (-1))).ok then
   ⟨true, (giveR fits (room.set slot.toNat (room.getD slot.toNat 0 - 1)) ns ((atOf (has.set find (-1)) slot).getD 0 0) ((has.set find (-1)).set ((atOf (has.set find (-1)) slot).getD 0 0).toNat (-1))).has.set find slot⟩
  else ⟨false, []⟩
 else ⟨true, (has.set find (-1)).set find slot⟩
def WithPost (r : WR) (w : World) (e : Ending) (w' : World) : Prop :=
 ∃ v, e = .returned (.tuple #[v, .bool r.ok]) ∧ Kd.R (Kd.int .i64) 3 w' w.heap.size (fun _ => True) v r.has ∧ Below w.heap.size w w'
theorem copied_calls (A : Option Addr) (c : Nat) (l : List Int) (w : World) (hr : Kd.C (Kd.int .i64) w A l.length l) (hc : l.length ≤ c) (hl : l.length ≤ 1000) :
  Calls Try.prog 88 #[.slice A l.length c] w fun e w' => ∃ v, e = .returned v ∧ Kd.R (Kd.int .i64) 3 w' w.heap.size (fun _ => True) v l ∧ Below w.heap.size w w' :=
 match_copied_int_88.calls A c l l w hr hc (by
  unfold match_copied_int_88.f
  rw [Option.bind_some, if_pos (by simp; omega)]
  rfl)
/-- What the walk of 'with' is told of the trial: its row of slots is whole, its rooms have their lengths. -/
structure TGood (t : TL) (fits : List (List Int)) (room has : List Int) (w : World) : Prop where
 fit : TFit t fits room
 st : TStands t fits room w
 row : RowAt w t.bh 3 (Value.int .i64) has
 len : has.length = t.nh
 capr : room.length ≤ t.cr
 caph : t.nh ≤ t.ch
 rooms : ∀ i : Nat, i < t.n1 → 1 ≤ room.getD i 0 ∧ room.getD i 0 ≤ 20
 s0 : ∃ A n c, t.s0 = .slice A n c
 caps : ∀ i : Nat, i < fits.length → (fits.getD i []).length ≤ t.rc i
theorem copied_new {t : TL} {fits : List (List Int)} {room has : List Int} {w w2 w3 : World} {a2 : Addr} {As : Option Addr} {ns cs find b2 cv ch : Nat} {Av Ah : Option Addr} (fit : TFit t fits room) (rows : RowsAt w (some a2) t.ra t.rc fits) (len : has.length = t.nh) (hfd : find < t.nh)
  (hb2 : Below w.heap.size w w2) (hb2s : w.heap.size ≤ b2) (hRr : Kd.R (Kd.int .i64) 3 w2 b2 (fun _ => True) (.slice Av room.length cv) room) (hbh : Below w2.heap.size w2 w3) (hRh : Kd.R (Kd.int .i64) 3 w3 w2.heap.size (fun _ => True) (.slice Ah has.length ch) has) :
  ∃ Bh, Ah = some ⟨Bh, 0, none⟩ ∧ has.length ≤ ch ∧ ch ≤ maxLen ∧ szOf ((w3.alloc (.cells #[.slice As ns cs, .slice t.A1 t.n1 t.c1, .slice (some a2) fits.length t.c2, .slice Av room.length cv, .slice (some ⟨Bh, 0, none⟩) t.nh ch] 80)).heap[Bh]?) = ch ∧
   TNew w { g := w3.heap.size, bh := Bh, s0 := .slice As ns cs, A1 := t.A1, n1 := t.n1, c1 := t.c1, A2 := some a2, c2 := t.c2, ra := t.ra, rc := t.rc, Ar := Av, cr := cv, nh := t.nh, ch := ch } fits room has
    (w3.alloc (.cells #[.slice As ns cs, .slice t.A1 t.n1 t.c1, .slice (some a2) fits.length t.c2, .slice Av room.length cv, .slice (some ⟨Bh, 0, none⟩) t.nh ch] 80)) := by
 have hoh := Kd.own_of_R hRh
 have hor := Kd.own_of_R hRr
 obtain ⟨Bh, rfl⟩ : ∃ Bh, Ah = some ⟨Bh, 0, none⟩ := by
  rcases hoh.2 with ⟨_, hz⟩ | ⟨g, _, _, e, _⟩
  ·
   omega
  ·
   injection e with e1
   exact ⟨g, e1⟩
 obtain ⟨hrow, hsz, _, hle, hmx, hbl⟩ := row_of_own hoh
 have hal := (Below.refl w3.heap.size w3).alloc (Nat.le_refl _) (.cells #[.slice As ns cs, .slice t.A1 t.n1 t.c1, .slice (some a2) fits.length t.c2, .slice Av room.length cv, .slice (some ⟨Bh, 0, none⟩) t.nh ch] 80)
 refine ⟨Bh, rfl, hle, hmx, ?_, World.alloc_heap_new _ _, hrow.below hal, ?_, ?_, ?_, rows, ?_, ?_, ⟨fit.slot, fit.room, fit.row, fit.finds, fit.ns, fit.nh⟩, len⟩
 ·
  rw [hal.block Bh hrow.lt]; exact hsz
 ·
  exact pw_own_below (pw_own_below (own_weaken hor hb2s) hbh) hal
 ·
  intro e
  have := own_lt hor Bh e
  omega
 ·
  exact (hb2.trans (hbh.mono hb2.size)).trans (hal.mono (Nat.le_trans hb2.size hbh.size))
 ·
  exact Nat.le_trans hb2.size hbh.size
 exact Nat.le_trans hb2.size hbl
theorem TNew.later {w0 w w' : World} {t : TL} {T : List (List Int)} {room has : List Int} (h : TNew w0 t T room has w) (hb : Below w.heap.size w w') : TNew w0 t T room has w' :=
 ⟨(hb.block t.g (Array.getElem?_eq_some_iff.1 h.gb).1).trans h.gb, h.row.below hb, pw_own_below h.own hb, h.ne, h.B.trans (hb.mono h.B.size), h.rows, h.gl, h.hl, h.fit, h.len⟩
/-- A find's slot is written. -/
theorem TNew.put {w0 w : World} {t : TL} {T : List (List Int)} {room has : List Int} (h : TNew w0 t T room has w) (i : Nat) (x : Int) :
  TNew w0 t T room (has.set i x) (w.setCell ⟨t.bh, i, none⟩ (.int .i64 x)) ∧ szOf ((w.setCell ⟨t.bh, i, none⟩ (.int .i64 x)).heap[t.bh]?) = szOf (w.heap[t.bh]?) := by
 have hgb : t.g ≠ t.bh := by
  intro e
  obtain ⟨cs, hc, _⟩ := h.row
  rw [← e, h.gb] at hc
  injection hc with hc
  injection hc with _ hc
  exact absurd hc (by decide)
 refine ⟨⟨(Below.heap_setCell _ _ _ _ hgb).trans h.gb, h.row.set i x, own_move h.own (fun k hk => Below.heap_setCell _ _ _ _ (fun e => h.ne (by rw [hk, e]))), h.ne, setCell_below h.B h.hl _, h.rows, h.gl, h.hl, h.fit, by rw [List.length_set]; exact h.len⟩, szOf_setCell _ _ _ _⟩
/-- The row of the finds' slots, as what is returned. -/
theorem row_result {w0 w : World} {bh nh ch : Nat} {has : List Int} (hrow : RowAt w bh 3 (Value.int .i64) has) (hsz : szOf (w.heap[bh]?) = ch) (hl : has.length = nh) (hle : nh ≤ ch) (hmx : ch ≤ maxLen) (hb : w0.heap.size ≤ bh) :
  Kd.R (Kd.int .i64) 3 w w0.heap.size (fun _ => True) (.slice (some ⟨bh, 0, none⟩) nh ch) has := by
 have := own_of_row hrow hsz hl hle hmx hb
 subst hl
 exact Kd.R_of_own (enc := Value.int .i64) (h1 := fun _ => rfl) (ok := fun _ => True) this (fun _ _ => trivial)
set_option maxRecDepth 100000 in
set_option maxHeartbeats 8000000 in
theorem with_calls (t : TL) (fits : List (List Int)) (room has : List Int) (find : Nat) (slot : Int) (w : World) (hfd : find < t.nh) (hG : TGood t fits room has w) :
  Calls Try.prog 67 #[.pointer (some ⟨t.g, 0, none⟩), .int .i64 find, .int .i64 slot] w (WithPost (withF fits room t.n1 has find slot) w) := by
 have hst := hG.st.still
 have f0 := hst.f0
 have f1 := hst.f1
 have f2 := hst.f2
 have f3 := hst.f3
 have f4 := hst.f4
 have hft : find < fits.length := by rw [hG.fit.finds]; exact hfd
 obtain ⟨a2, e2, hx, hC⟩ := hst.fits find hft
 have hcap := hG.caps find hft
 obtain ⟨rr, hrr⟩ : ∃ rr, withF fits room t.n1 has find slot = rr := ⟨_, rfl⟩
 rw [hrr]
 unfold withF at hrr
 obtain ⟨row, hrw⟩ : ∃ row, fits.getD find [] = row := ⟨_, rfl⟩
 have hslot := hG.fit.slot find hft
 rw [hrw] at hx hC hcap hrr hslot
 have CC := contains_calls (t.ra find) (t.rc find) row slot w hC hcap
 have HRR := Go.Lib.hid hrr
 have HG := Go.Lib.hid hG
 have HSL := Go.Lib.hid hslot
 rw [e2] at f2
 have HE2 := Go.Lib.hid e2
 have HF := Go.Lib.hid (And.intro f0 (And.intro f1 (And.intro f2 (And.intro f3 f4))))
 have hlf : (find : Int) < (fits.length : Int) := by omega
 have lFi : fits.length ≤ 1000 := by rw [hG.fit.finds]; exact hG.fit.nh
 clear hrr hG hC hst hrw hslot e2
 go_enter Try.func67, Try.ntmps67
 go_wp2_with fail
 refine CC.mono ?_
 clear CC
 rintro e w1 ⟨rfl, hd1⟩
 by_cases hin : slot ∈ row
 rotate_left
 ·
  rw [decide_eq_false hin]
  have hrr := HRR.out
  rw [if_pos hin] at hrr
  subst hrr
  have HB := Go.Lib.hid hd1.below
  clear hin hd1 HRR
  go_wp2_with fail
  go_ret2
  exact ⟨_, rfl, Kd.R_nil _ _ _ _ _, HB.out⟩
 rw [decide_eq_true hin]
 have hrr := HRR.out
 rw [if_neg (by simpa using hin)] at hrr
 have hb1 := hd1.below
 have g0 := pw_cell_below hb1 HF.out.1
 have g1 := pw_cell_below hb1 HF.out.2.1
 have g2 := pw_cell_below hb1 HF.out.2.2.1
 have g3 := pw_cell_below hb1 HF.out.2.2.2.1
 have g4 := pw_cell_below hb1 HF.out.2.2.2.2
 have hG := HG.out
 have hlr : room.length ≤ 1000 := by rw [hG.fit.room]; exact hG.fit.ns
 have hlh : t.nh ≤ 1000 := hG.fit.nh
 obtain ⟨As, ns, cs, es0⟩ := hG.s0
 rw [es0] at g0
 have HF0 := HF.out.1
 rw [es0] at HF0
 have HF0 := Go.Lib.hid HF0
 have HS0 := Go.Lib.hid es0
 clear es0
 have CR : ∀ W, Below w.heap.size w W → Calls Try.prog 88 #[.slice t.Ar room.length t.cr] W fun e w' => ∃ v, e = .returned v ∧ Kd.R (Kd.int .i64) 3 w' W.heap.size (fun _ => True) v room ∧ Below W.heap.size W w' := fun W hb =>
  copied_calls t.Ar t.cr room W (Kd.C_below hG.st.still.room hb) hG.capr hlr
 have CH : ∀ W, Below w.heap.size w W → Calls Try.prog 88 #[.slice (some ⟨t.bh, 0, none⟩) t.nh t.ch] W fun e w' => ∃ v, e = .returned v ∧ Kd.R (Kd.int .i64) 3 w' W.heap.size (fun _ => True) v has ∧ Below W.heap.size W w' := fun W hb => by
  have hC := C_of_row (hG.row.below hb) rfl (by rw [hG.len]; omega)
  have := copied_calls (some ⟨t.bh, 0, none⟩) t.ch has W hC (by rw [hG.len]; exact hG.caph) (by rw [hG.len]; exact hlh)
  rw [hG.len] at this
  exact this
 have hb0 : Below w.heap.size w w1.drew := hb1.drew
 have HRR := Go.Lib.hid hrr
 have HIN := Go.Lib.hid hin
 clear hrr hin hd1 hb1 hG f0 f1 f2 f3 f4 hx
 go_wp2_with fail
 go_region_held3 (fun w' => w'.cell? ⟨t.g, 0, none⟩ = some (.slice As ns cs) ∧ w'.cell? ⟨t.g, 1, none⟩ = some (.slice t.A1 t.n1 t.c1) ∧ w'.cell? ⟨t.g, 2, none⟩ = some (.slice (some a2) fits.length t.c2) ∧ w'.cell? ⟨t.g, 3, none⟩ = some (.slice t.Ar room.length t.cr) ∧ w'.cell? ⟨t.g, 4, none⟩ = some (.slice (some ⟨t.bh, 0, none⟩) t.nh t.ch) ∧ Below w.heap.size w w')
  (go_keep)
  (first
   | (go_at_call 88; refine (CR _ (by assumption)).mono ?_; rintro e w' ⟨vr, rfl, hRr, hbr⟩; obtain ⟨Av, cv, rfl, lv, _⟩ := Kd.R_reads hRr; have hb := Below.trans (‹Below w.heap.size w _›) (hbr.mono (Below.size ‹Below w.heap.size w _›)); have q0 := pw_cell_below hb HF0.out; have q1 := pw_cell_below hb HF.out.2.1; have q2 := pw_cell_below hb HF.out.2.2.1; have q3 := pw_cell_below hb HF.out.2.2.2.1; have q4 := pw_cell_below hb HF.out.2.2.2.2)
   | (go_at_call 88; refine (CH _ (by assumption)).mono ?_; rintro e w' ⟨vh, rfl, hRh, hbh⟩; obtain ⟨Ah, ch, rfl, lh, _⟩ := Kd.R_reads hRh; have hb := Below.trans (‹Below w.heap.size w _›) (hbh.mono (Below.size ‹Below w.heap.size w _›)); have hba : ∀ o, Below w.heap.size w (w'.alloc o) := fun o => hb.alloc hb.size o; have q0 := pw_cell_below hb HF0.out; have q1 := pw_cell_below hb HF.out.2.1; have q2 := pw_cell_below hb HF.out.2.2.1; have q3 := pw_cell_below hb HF.out.2.2.2.1; have q4 := pw_cell_below hb HF.out.2.2.2.2))
 obtain ⟨Bh, rfl, hle, hmx, hsz5, hN⟩ := copied_new (As := As) (ns := ns) (cs := cs) HG.out.fit (by rw [← HE2.out]; exact HG.out.st.still.fits) HG.out.len hfd (Below.trans (Below.drew (Below.refl _ _)) hbr |> fun h => hb0.trans (hbr.mono hb0.size)) hb0.size hRr hbh hRh
 have hlen := HG.out.len
 rw [hlen]
 have hlf1 : (find : Int) < (t.nh : Int) := by omega
 obtain ⟨W5, hW5⟩ : ∃ W5, w'.alloc (.cells #[.slice As ns cs, .slice t.A1 t.n1 t.c1, .slice (some a2) fits.length t.c2, .slice Av room.length cv, .slice (some ⟨Bh, 0, none⟩) t.nh ch] 80) = W5 := ⟨_, rfl⟩
 rw [hW5] at hN hsz5 ⊢
 obtain ⟨u, hug, hubh, hun1, hunh, huch, huAr, hucr, hNu⟩ : ∃ u : TL, u.g = w'.heap.size ∧ u.bh = Bh ∧ u.n1 = t.n1 ∧ u.nh = t.nh ∧ u.ch = ch ∧ u.Ar = Av ∧ u.cr = cv ∧ TNew w u fits room has W5 :=
  ⟨{ g := w'.heap.size, bh := Bh, s0 := .slice As ns cs, A1 := t.A1, n1 := t.n1, c1 := t.c1, A2 := some a2, c2 := t.c2, ra := t.ra, rc := t.rc, Ar := Av, cr := cv, nh := t.nh, ch := ch }, rfl, rfl, rfl, rfl, rfl, rfl, rfl, hN⟩
 obtain ⟨wg, hwg⟩ : ∃ wg, w'.heap.size = wg := ⟨_, rfl⟩
 rw [hwg] at hug ⊢
 clear hN
 have hN := hNu
 clear hNu
 subst hug hubh huch huAr hucr
 have c4 := cell_of_heap hN.gb (j := 4) rfl
 rw [hunh] at c4
 have cf := hN.row.cellD 0 (find : Int) (by omega) (by omega)
 rw [Int.toNat_natCast] at cf
 rw [hlen] at hle
 have hrm := HG.out.rooms slot.toNat
 have hrr := HRR.out
 obtain ⟨z, hz⟩ : ∃ z, has.getD find 0 = z := ⟨_, rfl⟩
 rw [hz] at hrr cf
 obtain ⟨jj, hjj, hje⟩ := List.getElem_of_mem HIN.out
 have hsb := HSL.out jj hjj
 rw [show row.getD jj 0 = slot from by rw [List.getD_eq_getElem?_getD, List.getElem?_eq_getElem hjj]; exact hje] at hsb
 obtain ⟨hs0, hs1⟩ := hsb
 have hrm := hrm (by omega)
 have hlr2 : (room.length : Int) = (t.n1 : Int) := by rw [HG.out.fit.room]
 have HN := Go.Lib.hid hN
 have HRR2 := Go.Lib.hid hrr
 have HSZ := Go.Lib.hid (And.intro hsz5 (And.intro hle (And.intro hmx (And.intro hun1 (And.intro hunh hlen)))))
 clear HRR hrr hN hsz5 hle hmx hun1 hunh hlen hz hwg hW5 hbr hbh hRr hRh lv lh hba hje hjj hb CR CH hb0
 clear q0 q1 q2 q3 q4 g0 g1 g2 g3 g4
 by_cases heq : z = slot
 ·
  have hrr := HRR2.out
  rw [if_pos heq] at hrr
  have HR0 := Go.Lib.hid hrr
  subst heq
  clear hrr hrm
  go_wp2_with fail
  go_ret2
  rw [← HR0.out]
  exact ⟨_, rfl, row_result HN.out.row HSZ.out.1 HSZ.out.2.2.2.2.2 HSZ.out.2.1 HSZ.out.2.2.1 HN.out.hl, HN.out.B⟩
 have g5 : (z == slot) = false := by simpa using heq
 have hrr := HRR2.out
 rw [if_neg heq] at hrr
 have fz := HN.out.row.frozen find
 obtain ⟨hN6, hsz6⟩ := HN.out.put find (-1)
 obtain ⟨Ab, eA, hc, hfz, hN7⟩ := hN6.set slot hs0 (by rw [hlr2]; exact hs1) (room.getD slot.toNat 0 - 1)
 have c3 := cell_of_heap hN6.gb (j := 3) rfl
 rw [eA] at c3
 have c46 := cell_of_heap hN6.gb (j := 4) rfl
 obtain ⟨v, hv⟩ : ∃ v, room.getD slot.toNat 0 = v := ⟨_, rfl⟩
 rw [hv] at hrm hc hN7 hrr
 obtain ⟨hv1, hv2⟩ := hrm
 have HRR3 := Go.Lib.hid hrr
 have HEA := Go.Lib.hid eA
 have hs2 : slot < (room.length : Int) := by rw [hlr2]; exact hs1
 have HN7 := Go.Lib.hid hN7
 have HSZ6 := Go.Lib.hid (hsz6.trans HSZ.out.1)
 clear heq hrr hN6 hN7 hsz6 eA hv hlr2
 go_wp2_with fail
 obtain ⟨W7, hW7⟩ : ∃ W7, (W5.setCell ⟨u.bh, find, none⟩ (.int .i64 (-1))).setCell ⟨Ab, slot.toNat, none⟩ (.int .i64 (v - 1)) = W7 := ⟨_, rfl⟩
 have hsz7 : szOf (W7.heap[u.bh]?) = u.ch := by rw [← hW7, szOf_setCell]; exact HSZ6.out
 have hN7 := HN7.out
 rw [hW7] at hN7 ⊢
 obtain ⟨h1, hh1⟩ : ∃ h1, has.set find (-1) = h1 := ⟨_, rfl⟩
 obtain ⟨room1, hro1⟩ : ∃ room1, room.set slot.toNat (v - 1) = room1 := ⟨_, rfl⟩
 have hlr1 : room1.length = room.length := by rw [← hro1]; simp
 have hrv : room1.getD slot.toNat 0 = v - 1 := by rw [← hro1]; simp [List.getD_eq_getElem?_getD, show slot.toNat < room.length by omega]
 have hrr := HRR3.out
 rw [hh1, hro1] at hN7
 rw [hh1, hro1, hrv] at hrr
 have hh1l : h1.length = t.nh := by rw [← hh1, List.length_set]; exact HSZ.out.2.2.2.2.2
 obtain ⟨Ab2, eA2, hc2, _, _⟩ := hN7.set slot hs0 (by rw [hlr1]; exact hs2) 0
 rw [HEA.out] at eA2
 injection eA2 with eA2
 injection eA2 with eA2
 subst eA2
 rw [hrv] at hc2
 have c3 := cell_of_heap hN7.gb (j := 3) rfl
 rw [HEA.out, hlr1] at c3
 have c4 := cell_of_heap hN7.gb (j := 4) rfl
 rw [HSZ.out.2.2.2.2.1] at c4
 have hz := hN7.row.ints
 have LC : ∀ W, Below W7.heap.size W7 W → Calls Try.prog 74 #[.pointer (some ⟨u.g, 0, none⟩), .int .i64 slot] W fun e w' => e = .returned (.int .i64 ((atOf h1 slot).length : Int)) ∧ Below W7.heap.size W7 w' := fun W hb => by
  refine (load_calls u.g (some ⟨u.bh, 0, none⟩) u.ch slot h1 (by rw [hh1l]; have := HG.out.fit.nh; omega) W (by rw [hh1l]; exact pw_cell_below hb c4) (hz.below hb)).mono ?_
  rintro e w' ⟨rfl, hb2⟩
  exact ⟨rfl, hb.trans (hb2.mono hb.size)⟩
 have hb0 : Below W7.heap.size W7 W7.drew := (Below.refl _ _).drew
 have HC7 := Go.Lib.hid (And.intro c3 hc2)
 have HN7' := Go.Lib.hid hN7
 have HSZ7 := Go.Lib.hid hsz7
 have HRO1 := Go.Lib.hid (And.intro hro1 (And.intro hh1l hlr1))
 have HZ := Go.Lib.hid hz
 rw [show ld h1 slot = ((atOf h1 slot).length : Int) from rfl] at hrr
 have HRR4 := Go.Lib.hid hrr
 clear hrr hh1 hro1 hlr1 hrv hh1l hN7 hsz7 hW7 c4 hz HN7 HSZ6 HRR3 HRR2 hc fz hfz c46
 by_cases hgt : v - 1 < ((atOf h1 slot).length : Int)
 rotate_left
 ·
  have g8 : decide (v - 1 < ((atOf h1 slot).length : Int)) = false := by simpa using hgt
  have hrr := HRR4.out
  rw [if_neg hgt] at hrr
  have HRR5 := Go.Lib.hid hrr
  clear hrr hgt HRR4
  go_region_held3 (fun w' => w'.cell? ⟨u.g, 3, none⟩ = some (.slice (some ⟨Ab, 0, none⟩) room.length u.cr) ∧ w'.cell? ⟨Ab, slot.toNat, none⟩ = some (.int .i64 (v - 1)) ∧ Below W7.heap.size W7 w')
   (go_keep)
   (first
    | (go_at_call 74; refine (LC _ (by assumption)).mono ?_; rintro e w8 ⟨rfl, hb8⟩; have f3 := pw_cell_below hb8 HC7.out.1; have f4 := pw_cell_below hb8 HC7.out.2))
  have hN8 := HN7'.out.later hb8
  have c4 := cell_of_heap hN8.gb (j := 4) rfl
  rw [HSZ.out.2.2.2.2.1] at c4
  have fz := hN8.row.frozen find
  have hlh1 : (find : Int) < (h1.length : Int) := by rw [HRO1.out.2.1]; exact hlf1
  obtain ⟨hN9, hsz9⟩ := hN8.put find slot
  have c49 := cell_of_heap hN9.gb (j := 4) rfl
  rw [HSZ.out.2.2.2.2.1] at c49
  have cf8 := hN8.row.cellD 0 (find : Int) (by omega) hlh1
  rw [Int.toNat_natCast] at cf8
  have hsz10 := hsz9.trans ((by rw [hb8.block u.bh HN7'.out.row.lt]; exact HSZ7.out : szOf (w8.heap[u.bh]?) = u.ch))
  have HN9 := Go.Lib.hid hN9
  have HSZ10 := Go.Lib.hid hsz10
  clear hN8 hN9 hsz9 hsz10 hb8 f3 f4
  go_wp2_with fail
  go_ret2
  rw [← HRR5.out]
  exact ⟨_, rfl, row_result HN9.out.row HSZ10.out (by rw [List.length_set]; exact HRO1.out.2.1) HSZ.out.2.1 HSZ.out.2.2.1 HN9.out.hl, HN9.out.B⟩
 have g8 : decide (v - 1 < ((atOf h1 slot).length : Int)) = true := by simpa using hgt
 have hrr := HRR4.out
 rw [if_pos hgt] at hrr
 have HRR5 := Go.Lib.hid hrr
 have HGT := Go.Lib.hid hgt
 clear hrr hgt HRR4
 go_region_held3 (fun w' => w'.cell? ⟨u.g, 3, none⟩ = some (.slice (some ⟨Ab, 0, none⟩) room.length u.cr) ∧ w'.cell? ⟨Ab, slot.toNat, none⟩ = some (.int .i64 (v - 1)) ∧ Below W7.heap.size W7 w')
  (go_keep)
  (first
   | (go_at_call 74; refine (LC _ (by assumption)).mono ?_; rintro e w8 ⟨rfl, hb8⟩; have f3 := pw_cell_below hb8 HC7.out.1; have f4 := pw_cell_below hb8 HC7.out.2))
 have hN8 := HN7'.out.later hb8
 have c4 := cell_of_heap hN8.gb (j := 4) rfl
 rw [HSZ.out.2.2.2.2.1] at c4
 have hsz8 : szOf (w8.heap[u.bh]?) = u.ch := by rw [hb8.block u.bh HN7'.out.row.lt]; exact HSZ7.out
 have AC := at_calls (some ⟨u.g, 0, none⟩) slot w8
 have hB9 : Below w8.heap.size w8 ((w8.alloc (.cells #[.pointer (some ⟨u.g, 0, none⟩)] 68)).alloc (.cells #[.int .i64 slot] 3)) := ((Below.refl _ w8).alloc (Nat.le_refl _) _).alloc (by simp) _
 have bT := ((Boxed.new w8 68 (.pointer (some ⟨u.g, 0, none⟩))).alloc (.cells #[.int .i64 slot] 3)).cell
 have bS := (Boxed.new (w8.alloc (.cells #[.pointer (some ⟨u.g, 0, none⟩)] 68)) 3 (.int .i64 slot)).cell
 simp only [World.size_alloc] at bS
 have CO := collect_in w8.heap.size (w8.heap.size + 1) u.g (some ⟨u.bh, 0, none⟩) u.ch slot h1 (by rw [HRO1.out.2.1]; have := HG.out.fit.nh; omega) _ bT bS (by rw [HRO1.out.2.1]; exact pw_cell_below hB9 c4) (hN8.row.below hB9).ints
 have HN8 := Go.Lib.hid hN8
 have HB9 := Go.Lib.hid hB9
 have HSZ8 := Go.Lib.hid hsz8
 clear hN8 c4 hsz8 hB9 bT bS hb8 f3 f4 LC hb0
 go_wp2_with fail
 refine AC.mono ?_
 clear AC
 rintro e w9 ⟨rfl, rfl⟩
 go_wp2_with fail
 refine CO.mono ?_
 clear CO
 rintro e w10 ⟨vl, rfl, ho, hb10⟩
 generalize (w8.alloc (.cells #[.pointer (some ⟨u.g, 0, none⟩)] 68)).alloc (.cells #[.int .i64 slot] 3) = w9 at *
 have hN10 := (HN8.out.later HB9.out).later hb10
 have hsz10 : szOf (w10.heap[u.bh]?) = u.ch := by
  rw [hb10.block u.bh (HN8.out.later HB9.out).row.lt, HB9.out.block u.bh HN8.out.row.lt]
  exact HSZ8.out
 obtain ⟨gs, hgs⟩ : ∃ gs, atOf h1 slot = gs := ⟨_, rfl⟩
 rw [hgs] at ho
 have hgt := HGT.out
 rw [hgs] at hgt
 have hrr := HRR5.out
 rw [hgs] at hrr
 obtain ⟨gn, rest, hgr, hgl⟩ : ∃ (gn : Nat) (rest : List Int), gs = (gn : Int) :: rest ∧ gn < h1.length := by
  cases hgc : gs with
  | nil => rw [hgc] at hgt; simp at hgt; omega
  | cons a rest =>
   have hm : a ∈ atOf h1 slot := by rw [hgs, hgc]; simp
   have := mem_atOf.1 hm
   exact ⟨a.toNat, rest, by rw [show ((a.toNat : Nat) : Int) = a by omega], by omega⟩
 rw [hgr] at ho hrr
 have hrr : (if (giveR fits room1 t.n1 (gn : Int) (h1.set gn (-1))).ok = true then (⟨true, (giveR fits room1 t.n1 (gn : Int) (h1.set gn (-1))).has.set find slot⟩ : WR) else ⟨false, []⟩) = rr := by
  simpa using hrr
 obtain ⟨Al, cl, rfl, _, hCl⟩ := Kd.R_reads (Kd.R_of_own (enc := Value.int .i64) (h1 := fun _ => rfl) (ok := fun _ => True) ho (fun _ _ => trivial))
 obtain ⟨al, eal, xl⟩ := Kd.at_int hCl (0 : Int) (by omega) (by simp)
 have xl : w10.cell? al = some (.int .i64 (gn : Int)) := by
  have : w10.cell? (al.add (0 : Int).toNat) = some (.int .i64 (gn : Int)) := xl
  simpa [Addr.add] using this
 have hlen0 : (0 : Int) < (((gn : Int) :: rest).length : Int) := by simp
 have c4 := cell_of_heap hN10.gb (j := 4) rfl
 rw [HSZ.out.2.2.2.2.1] at c4
 have fzg := hN10.row.frozen gn
 have cfg := hN10.row.cellD 0 (gn : Int) (by omega) (by omega)
 rw [Int.toNat_natCast] at cfg
 have hgl2 : (gn : Int) < (t.nh : Int) := by rw [HRO1.out.2.1] at hgl; omega
 obtain ⟨hN11, hsz11⟩ := hN10.put gn (-1)
 have GC := give_calls u fits room1 hN11.fit gn (by rw [HSZ.out.2.2.2.2.1]; omega) (h1.set gn (-1)) hN11.len _ hN11.stands hN11.row
 rw [HSZ.out.2.2.2.1] at GC
 obtain ⟨r, hr⟩ : ∃ r, giveR fits room1 t.n1 (gn : Int) (h1.set gn (-1)) = r := ⟨_, rfl⟩
 rw [hr] at GC hrr
 have hrl : r.has.length = t.nh := by rw [← hr, giveR_len, List.length_set]; exact HRO1.out.2.1
 have HRL := Go.Lib.hid hrl
 have HRR6 := Go.Lib.hid hrr
 have HN11 := Go.Lib.hid hN11
 have HSZ11 := Go.Lib.hid (hsz11.trans hsz10)
 subst eal
 clear hrr HRR5 hgt HGT hgs hgr ho hCl hN10 hsz10 hN11 hsz11 hr hrl hb10 HB9 HN8 HSZ8
 go_wp2_with fail
 unfold GivePost at GC
 obtain ⟨ok, hok⟩ : ∃ ok, r.ok = ok := ⟨_, rfl⟩
 rw [hok] at GC
 have hrr := HRR6.out
 rw [hok] at hrr
 clear hok
 cases ok with
 | false =>
  rw [if_neg (by simp)] at hrr
  subst hrr
  refine GC.mono ?_
  clear GC
  rintro e w12 ⟨vh, rfl, hag, _, _⟩
  have hB12 := hag.below HN11.out.B HN11.out.B.size HN11.out.hl HN11.out.hl
  have HB12 := Go.Lib.hid hB12
  clear hag hB12
  go_wp2_with fail
  go_ret2
  exact ⟨_, rfl, Kd.R_nil _ _ _ _ _, HB12.out⟩
 | true =>
  rw [if_pos rfl] at hrr
  have HRR7 := Go.Lib.hid hrr
  clear hrr
  refine GC.mono ?_
  clear GC
  rintro e w12 ⟨vh, rfl, hag, hrow12, _⟩
  have hB12 := hag.below HN11.out.B HN11.out.B.size HN11.out.hl HN11.out.hl
  have hst12 := (HN11.out.stands.later hag).still
  have c4 := hst12.f4
  rw [HSZ.out.2.2.2.2.1] at c4
  have fz := hrow12.frozen find
  have cf12 := hrow12.cellD 0 (find : Int) (by omega) (by rw [HRL.out]; exact hlf1)
  rw [Int.toNat_natCast] at cf12
  have hag13 : Agree u.bh u.bh w12 (w12.setCell ⟨u.bh, find, none⟩ (.int .i64 slot)) := Agree.set1 _ _ _
  have c413 := ((HN11.out.stands.later hag).later hag13).still.f4
  rw [HSZ.out.2.2.2.2.1] at c413
  have hrow13 := hrow12.set find slot
  have hsz13 : szOf ((w12.setCell ⟨u.bh, find, none⟩ (.int .i64 slot)).heap[u.bh]?) = u.ch := by
   rw [szOf_setCell, hag.cells u.bh HN11.out.row.lt]
   exact HSZ11.out
  have hB13 := setCell_below hB12 HN11.out.hl (p := ⟨u.bh, find, none⟩) (.int .i64 slot)
  have HROW13 := Go.Lib.hid hrow13
  have HSZ13 := Go.Lib.hid hsz13
  have HB13 := Go.Lib.hid hB13
  clear hag hB12 hst12 hag13 hrow13 hsz13 hB13 hrow12
  go_wp2_with fail
  go_ret2
  rw [← HRR7.out]
  exact ⟨_, rfl, row_result HROW13.out HSZ13.out (by rw [List.length_set]; exact HRL.out) HSZ.out.2.1 HSZ.out.2.2.1 HN11.out.hl, HB13.out⟩
end Go.Proofs.Ytkmmihadcbfkoaa
end

section
namespace Go.Proofs.Ytkmmihadcbfkoaa
open Go.RowKit Go.Proofs.YtkmmihadcbfkoaaW.PrintWords PM
set_option linter.unusedVariables false
set_option linter.unusedSimpArgs false
/-- What filling from nothing comes to, the board being as said. -/
def hallR (F : List Int) (S : List S50) (T : List (List Int)) (out : Int) (room : List Int) : FR := fillF T room S.length out (List.replicate F.length (-1))
def PM.match_Hall.f (F : List Int) (S : List S50) (T : List (List Int)) : Option (List Int × Bool × Int) :=
 if checkB F S T ≠ 0 then some ([], false, checkB F S T) else some ((hallR F S T (-1) (rooms S)).hall, !(hallR F S T (-1) (rooms S)).ok, 0)
theorem R_nil (w : World) (b : Nat) : Kd.R (Kd.int .i64) 3 w b (fun _ => True) (.slice none 0 0) [] :=
 Kd.R_of_own (enc := Value.int .i64) (h1 := fun _ => rfl) (ok := fun _ => True) (World.ownsRow_nil w b 3 1) (fun _ _ => trivial)
/-- What is new memory of list, bool and error, of world w. -/
def LBE (l : List Int) (b : Bool) (e : Int) (w : World) (en : Ending) (w' : World) : Prop :=
 ∃ v0_ : Value, en = .returned (.tuple #[v0_, .bool b, .int .i64 e]) ∧ Kd.R (Kd.int .i64) 3 w' w.heap.size (fun _ => True) v0_ l ∧ Below w.heap.size w w'
set_option maxRecDepth 100000 in
set_option maxHeartbeats 8000000 in
theorem hall_walk (A0 : Option Addr) (c0 : Nat) (F : List Int) (A1 : Option Addr) (c1 : Nat) (S : List S50) (A2 : Option Addr) (c2 : Nat) (T : List (List Int)) (r1 : List Int) (r2 : Bool) (r3 : Int) (w : World)
  (hr0 : Kd.C (Kd.int .i64) w A0 F.length F) (hc0 : F.length ≤ c0) (hr1 : Kd.C k50 w A1 S.length S) (hr2 : Kd.C (Kd.slice 3 (Kd.int .i64)) w A2 T.length T) (h : match_Hall.f F S T = some (r1, r2, r3)) :
  Calls Try.prog 38 #[.agg #[.slice A0 F.length c0, .slice A1 S.length c1, .slice A2 T.length c2]] w (LBE r1 r2 r3 w) := by
 have hB0 := (Below.refl w.heap.size w).alloc (Nat.le_refl _) (.cells #[.slice A0 F.length c0, .slice A1 S.length c1, .slice A2 T.length c2] 26)
 have CB := checkboard_calls A0 c0 F A1 c1 S A2 c2 T _ (Kd.C_below hr0 hB0) hc0 (Kd.C_below hr1 hB0) (Kd.C_below hr2 hB0)
 unfold match_Hall.f at h
 obtain ⟨q, hq⟩ : ∃ q, checkB F S T = q := ⟨_, rfl⟩
 rw [hq] at h CB
 have HB0 := Go.Lib.hid hB0
 have HR := Go.Lib.hid (And.intro hr1 hr2)
 have HQ := Go.Lib.hid hq
 have HH := Go.Lib.hid h
 clear hr0 hr1 hr2 hB0 hq h
 go_enter Try.func38, Try.ntmps38
 go_wp2_with fail
 refine CB.mono ?_
 clear CB
 rintro e w1 ⟨rfl, hB1⟩
 have b1 : w1.heap[w.heap.size]? = some (.cells #[.slice A0 F.length c0, .slice A1 S.length c1, .slice A2 T.length c2] 26 (0, 0)) := by
  rw [hB1.block w.heap.size (by simp)]
  exact World.alloc_heap_new w _
 have hW1 : Below w.heap.size w w1 := HB0.out.trans (hB1.mono HB0.out.size)
 have k0 := cell_of_heap b1 (j := 0) rfl
 have k1 := cell_of_heap b1 (j := 1) rfl
 have k2 := cell_of_heap b1 (j := 2) rfl
 have HW1 := Go.Lib.hid hW1
 clear hB1 b1 hW1
 by_cases hq0 : q = 0
 rotate_left
 ·
  have g9 : decide (q = 0) = false := by simpa using hq0
  have hf := HH.out
  rw [if_pos hq0] at hf
  injection hf with hf
  injection hf with hf1 hf
  injection hf with hf2 hf3
  subst hf1 hf2 hf3
  go_wp2_with fail
  go_ret3
  exact ⟨_, rfl, R_nil _ _, HW1.out⟩
 subst hq0
 have hk := bok_of_check HQ.out
 have TC := tried_calls2 A0 c0 F A1 c1 S A2 c2 T w1 hk (Kd.C_below HR.out.1 HW1.out) (Kd.C_below HR.out.2 HW1.out)
 have hf := HH.out
 rw [if_neg (by simp)] at hf
 injection hf with hf
 obtain ⟨rr, hrr⟩ : ∃ rr, hallR F S T (-1) (rooms S) = rr := ⟨_, rfl⟩
 rw [hrr] at hf
 injection hf with hf1 hf
 injection hf with hf2 hf3
 subst hf2 hf3
 have HRR := Go.Lib.hid hrr
 have HF1 := Go.Lib.hid hf1
 clear hk hrr hf1 HH HQ
 go_wp2_with fail
 refine TC.mono ?_
 clear TC
 rintro e w2 ⟨t, rfl, e1, e2, e3, hT, hB, _⟩
 have FC := fill_calls t T (rooms S) hT.fit (-1) _ hT.len w2 hT.st hT.row
 rw [e1, show fillF T (rooms S) S.length (-1) (List.replicate F.length (-1)) = rr from HRR.out] at FC
 have HT := Go.Lib.hid hT
 have HB := Go.Lib.hid hB
 clear hT hB e1 e2 e3
 go_wp2_with fail
 refine FC.mono ?_
 clear FC
 rintro e w3 ⟨v, rfl, hag, _, how⟩
 have HAG := Go.Lib.hid hag
 have HOW := Go.Lib.hid how
 clear hag how
 go_wp2_with fail
 go_ret3
 have hb2 : Below w.heap.size w w2 := HW1.out.trans (HB.out.mono HW1.out.size)
 have hbl : w.heap.size ≤ t.bh := Nat.le_trans HW1.out.size HT.out.bl
 refine ⟨v, rfl, ?_, HAG.out.below hb2 hb2.size hbl hbl⟩
 rw [← HF1.out]
 exact Kd.R_of_own (enc := Value.int .i64) (h1 := fun _ => rfl) (ok := fun _ => True) (own_weaken HOW.out hb2.size) (fun _ _ => trivial)
theorem PM.match_Hall.calls (A0 : Option Addr) (c0 : Nat) (F : List Int) (A1 : Option Addr) (c1 : Nat) (S : List S50) (A2 : Option Addr) (c2 : Nat) (T : List (List Int)) (r1 : List Int) (r2 : Bool) (r3 : Int) (w : World)
  (hr0 : Kd.C (Kd.int .i64) w A0 F.length F) (hc0 : F.length ≤ c0) (hr1 : Kd.C k50 w A1 S.length S) (hc1 : S.length ≤ c1) (hr2 : Kd.C (Kd.slice 3 (Kd.int .i64)) w A2 T.length T) (hc2 : T.length ≤ c2) (h : match_Hall.f F S T = some (r1, r2, r3)) :
  Calls Try.prog 38 #[.agg #[.slice A0 F.length c0, .slice A1 S.length c1, .slice A2 T.length c2]] w (LBE r1 r2 r3 w) := hall_walk A0 c0 F A1 c1 S A2 c2 T r1 r2 r3 w hr0 hc0 hr1 hr2 h
end Go.Proofs.Ytkmmihadcbfkoaa
end

section
namespace Go.Proofs.Ytkmmihadcbfkoaa
open Go.RowKit Go.Proofs.YtkmmihadcbfkoaaW.PrintWords PM
set_option linter.unusedVariables false
set_option linter.unusedSimpArgs false
theorem tryRow_len (F : List Int) (S : List S50) (f : Nat) : ∀ (row : List Int) (T : List (List Int)) (out : List Int), (tryRow F S f row T out).2.length = out.length
 | [], _, _ => rfl
 | s :: ss, T, out => by
  unfold tryRow
  split
  ·
   simp
  ·
   exact tryRow_len F S f ss _ out
theorem nextF_len (F : List Int) (S : List S50) (T0 : List (List Int)) : ∀ (n f : Nat) (T : List (List Int)) (out : List Int), (nextF F S T0 n f T out).length = out.length
 | 0, _, _, _ => rfl
 | n + 1, f, T, out => by
  unfold nextF
  rw [nextF_len F S T0 n, tryRow_len]
def firstF (F : List Int) (S : List S50) (T : List (List Int)) : List Int := nextF F S T T.length 0 T (List.replicate F.length (-1))
def PM.match_Assign.f (F : List Int) (S : List S50) (T : List (List Int)) : Option (List Int × Bool × Int) :=
 if checkB F S T ≠ 0 then some ([], false, checkB F S T) else if isF F S T = false then some ([], false, 0) else some (firstF F S T, true, 0)
theorem AG.below {Cf Bo B : Nat} {w0 w w' : World} (h0 : Below B w0 w) (hB : B ≤ w.heap.size) (h : AG Cf Bo w w') (h1 : B ≤ Cf) (h2 : B ≤ Bo) : Below B w0 w' :=
 h0.trans ⟨h.os, h.tape, h.output, h.size, fun k hk => h.block k (by omega) (by omega) (by omega)⟩
set_option maxRecDepth 100000 in
theorem next_zero (Bc Bb Bq Bn c : Nat) (A : Option Addr) (w : World) (h : w.cell? ⟨Bc, 2, none⟩ = some (.slice A 0 c)) :
  Calls Try.prog 55 #[.int .i64 0, .pointer (some ⟨Bc, 0, none⟩), .pointer (some ⟨Bb, 0, none⟩), .pointer (some ⟨Bq, 0, none⟩), .pointer (some ⟨Bn, 0, none⟩)] w fun e w' => e = .returned (.tuple #[]) ∧ w' = w := by
 go_enter Try.func55, Try.ntmps55
 go_wp2_with fail
 go_step3
 go_wp2_with fail
 rw [Exit.noGoto_ret]
 refine bodyPost_ret (results_none rfl _ _ _) rfl ?_
 exact ⟨rfl, rfl⟩
theorem copiedT_calls (B : Nat) (A : Option Addr) (c : Nat) (T : List (List Int)) (w : World) (hr : Kd.F (Kd.slice 3 (Kd.int .i64)) w (fun k => k < B) A T.length T) (hc : T.length ≤ c) (hl : T.length ≤ 1000) :
  Calls Try.prog 53 #[.slice A T.length c] w fun e w' => ∃ v, e = .returned v ∧ Kd.N (Kd.slice 3 (Kd.int .i64)) 22 w' w.heap.size (fun k => k < B ∨ w.heap.size ≤ k) v T ∧ Below w.heap.size w w' :=
 match_copied_int_53.calls (fun k => k < B) A c T T w (Kd.V_mk hc hr) (by
  unfold match_copied_int_53.f
  rw [Option.bind_some, if_pos (by simp; omega)]
  rfl)
theorem box3_set {w : World} {b t : Nat} {a0 a1 a2 : Value} (h : w.heap[b]? = some (.cells #[a0, a1, a2] t (0, 0))) (u0 u1 u2 : Value) :
  (((w.setCell ⟨b, 0, none⟩ u0).setCell ⟨b, 1, none⟩ u1).setCell ⟨b, 2, none⟩ u2).heap[b]? = some (.cells #[u0, u1, u2] t (0, 0)) := by
 simp [World.setCell, Array.getElem?_modify, h]
def StartPost (F : List Int) (S : List S50) (T : List (List Int)) (Bo Bq : Nat) (w : World) (e : Ending) (w' : World) : Prop :=
 e = .returned (.tuple #[]) ∧ w'.cell? ⟨Bq, 0, none⟩ = some (.slice (some ⟨Bo, 0, none⟩) F.length F.length) ∧ Kd.R (Kd.int .i64) 3 w' w.heap.size (fun _ => True) (.slice (some ⟨Bo, 0, none⟩) F.length F.length) (firstF F S T) ∧ Below w.heap.size w w'
/-- The first call of 'next', in the world in which Assign calls it. -/
theorem start_next {A0 : Option Addr} {c0 : Nat} {F : List Int} {A1 : Option Addr} {c1 : Nat} {S : List S50} {A2 : Option Addr} {c2 : Nat} {T : List (List Int)} {w w2 W4 w6 : World} {Ac : Option Addr} {cf Bc Bo : Nat}
  (hk : BOK F S T) (hr1 : Kd.C k50 w A1 S.length S) (hr2 : Kd.C (Kd.slice 3 (Kd.int .i64)) w A2 T.length T) (hW2 : Below w.heap.size w w2)
  (b2 : w2.heap[w.heap.size]? = some (.cells #[.slice A0 F.length c0, .slice A1 S.length c1, .slice A2 T.length c2] 26 (0, 0)))
  (hBc : W4.heap[Bc]? = some (.cells #[.slice A0 F.length c0, .slice A1 S.length c1, .slice Ac T.length cf] 26 (0, 0)))
  (hN : Kd.N (Kd.slice 3 (Kd.int .i64)) 22 W4 w2.heap.size (fun _ => True) (.slice Ac T.length cf) T) (hb4 : Below w2.heap.size w2 W4)
  (hbo : (W4.alloc (.cells #[.int .i64 (-1)] 3)).heap.size ≤ Bo) (hrow6 : w6.heap[Bo]? = some (.cells (List.replicate F.length (Value.int .i64 (-1))).toArray 3 (0, 0))) (hb6 : Below (W4.alloc (.cells #[.int .i64 (-1)] 3)).heap.size (W4.alloc (.cells #[.int .i64 (-1)] 3)) w6) :
  Calls Try.prog 55 #[.int .i64 0, .pointer (some ⟨Bc, 0, none⟩), .pointer (some ⟨w.heap.size, 0, none⟩), .pointer (some ⟨w6.heap.size, 0, none⟩), .pointer (some ⟨w6.heap.size + 1, 0, none⟩)]
   ((w6.alloc (.cells #[.slice (some ⟨Bo, 0, none⟩) F.length F.length] 22)).alloc (.cells #[.func (.func 55) #[] #[.pointer (some ⟨Bc, 0, none⟩), .pointer (some ⟨w.heap.size, 0, none⟩), .pointer (some ⟨w6.heap.size, 0, none⟩), .pointer (some ⟨w6.heap.size + 1, 0, none⟩)]] 73))
   (StartPost F S T Bo w6.heap.size w) := by
 have hal := (Below.refl W4.heap.size W4).alloc (Nat.le_refl _) (.cells #[.int .i64 (-1)] 3)
 have hb46 : Below W4.heap.size W4 w6 := hal.trans (hb6.mono hal.size)
 have ha1 := (Below.refl w6.heap.size w6).alloc (Nat.le_refl _) (.cells #[.slice (some ⟨Bo, 0, none⟩) F.length F.length] 22)
 have n1 := World.alloc_heap_new w6 (.cells #[.slice (some ⟨Bo, 0, none⟩) F.length F.length] 22)
 have n2 := World.alloc_heap_new (w6.alloc (.cells #[.slice (some ⟨Bo, 0, none⟩) F.length F.length] 22)) (.cells #[.func (.func 55) #[] #[.pointer (some ⟨Bc, 0, none⟩), .pointer (some ⟨w.heap.size, 0, none⟩), .pointer (some ⟨w6.heap.size, 0, none⟩), .pointer (some ⟨w6.heap.size + 1, 0, none⟩)]] 73)
 have ha2 := (Below.refl (w6.alloc (.cells #[.slice (some ⟨Bo, 0, none⟩) F.length F.length] 22)).heap.size (w6.alloc (.cells #[.slice (some ⟨Bo, 0, none⟩) F.length F.length] 22))).alloc (Nat.le_refl _) (.cells #[.func (.func 55) #[] #[.pointer (some ⟨Bc, 0, none⟩), .pointer (some ⟨w.heap.size, 0, none⟩), .pointer (some ⟨w6.heap.size, 0, none⟩), .pointer (some ⟨w6.heap.size + 1, 0, none⟩)]] 73)
 generalize hW8 : ((w6.alloc (.cells #[.slice (some ⟨Bo, 0, none⟩) F.length F.length] 22)).alloc (.cells #[.func (.func 55) #[] #[.pointer (some ⟨Bc, 0, none⟩), .pointer (some ⟨w.heap.size, 0, none⟩), .pointer (some ⟨w6.heap.size, 0, none⟩), .pointer (some ⟨w6.heap.size + 1, 0, none⟩)]] 73)) = W8 at *
 have s1 : (w6.alloc (.cells #[.slice (some ⟨Bo, 0, none⟩) F.length F.length] 22)).heap.size = w6.heap.size + 1 := by simp
 rw [s1] at n2 ha2
 have n1 := (ha2.block w6.heap.size (by omega)).trans n1
 have hb68 : Below w6.heap.size w6 W8 := ha1.trans (ha2.mono (by omega))
 have hb48 : Below W4.heap.size W4 W8 := hb46.trans (hb68.mono hb46.size)
 have hb28 : Below w2.heap.size w2 W8 := hb4.trans (hb48.mono hb4.size)
 have hb8 : Below w.heap.size w W8 := hW2.trans (hb28.mono hW2.size)
 have hBol : Bo < w6.heap.size := (Array.getElem?_eq_some_iff.1 hrow6).1
 have hbo' : W4.heap.size < Bo := by
  have : (W4.alloc (.cells #[.int .i64 (-1)] 3)).heap.size = W4.heap.size + 1 := by simp
  omega
 have row8 := (hb68.block Bo hBol).trans hrow6
 have hR8 : RowAt W8 Bo 3 (Value.int .i64) (List.replicate F.length (-1)) := ⟨_, row8, fun j hj => by
  simp at hj
  simp [hj]⟩
 have hS8 : szOf (W8.heap[Bo]?) = F.length := by rw [row8]; simp [szOf]
 have hwBo : w.heap.size ≤ Bo := Nat.le_trans hW2.size (Nat.le_trans hb4.size (Nat.le_of_lt hbo'))
 have lF := hk.nf
 by_cases hT0 : T.length = 0
 ·
  have hF0 : F.length = 0 := by rw [← hk.nt]; exact hT0
  have hc := pw_cell_below hb48 (cell_of_heap hBc (j := 2) rfl)
  have hc : W8.cell? ⟨Bc, 2, none⟩ = some (.slice Ac 0 cf) := by
   rw [← hT0]; exact hc
  refine (next_zero Bc w.heap.size w6.heap.size (w6.heap.size + 1) cf Ac W8 hc).mono ?_
  rintro e w' ⟨rfl, rfl⟩
  refine ⟨rfl, cell_of_heap n1 rfl, ?_, hb8⟩
  have : firstF F S T = List.replicate F.length (-1) := by unfold firstF; rw [hT0]; rfl
  rw [this]
  exact row_result hR8 hS8 (by simp) (Nat.le_refl _) (by rw [hF0]; exact Nat.zero_le _) hwBo
 obtain ⟨Cf, cap, e, hCb, hCl, cells, hCh⟩ := Kd.N_form hN (by omega)
 injection e with e1 e2 e3
 subst e1
 have hne : Bo ≠ Cf := by omega
 have hBcf : Bc ≠ Cf := by
  rintro rfl
  rw [hBc] at hCh
  injection hCh with hCh
  injection hCh with _ hCh
  exact absurd hCh (by decide)
 obtain ⟨ra, rc, hra⟩ := RowsAt.of_C hr2
 have hBcl := (Array.getElem?_eq_some_iff.1 hBc).1
 have hwl := (Array.getElem?_eq_some_iff.1 b2).1
 have h48 := hb48.size
 have h68 := hb68.size
 have h24 := hb4.size
 have h46 := hb46.size
 have hlast : w6.heap.size + 1 < W8.heap.size := (Array.getElem?_eq_some_iff.1 n2).1
 have NC := next_calls { A0 := A0, c0 := c0, A1 := A1, c1 := c1, A2 := A2, c2 := c2, Bc := Bc, Bb := w.heap.size, Bq := w6.heap.size, Bn := w6.heap.size + 1, Cf := Cf, cf := cf, Bo := Bo, base := w2.heap.size, ra := ra, rc := rc } F S T hne hk T.length 0 T (List.replicate F.length (-1)) W8 (by omega)
  (fun w' a => by
   have hb' : Below w.heap.size w w' := AG.below hb8 hb8.size a (Nat.le_trans hW2.size hCb) hwBo
   exact ⟨((a.block w.heap.size (by omega) (by show w.heap.size ≠ Cf; omega) (by show w.heap.size ≠ Bo; omega)).trans (hb28.block _ hwl)).trans b2,
    ((a.block Bc (by omega) hBcf (by show Bc ≠ Bo; omega)).trans (hb48.block _ hBcl)).trans hBc,
    (a.block w6.heap.size (by omega) (by show w6.heap.size ≠ Cf; omega) (by show w6.heap.size ≠ Bo; omega)).trans n1,
    (a.block (w6.heap.size + 1) (by omega) (by show w6.heap.size + 1 ≠ Cf; omega) (by show w6.heap.size + 1 ≠ Bo; omega)).trans n2,
    Kd.C_below hr1 hb', hra.below hb'⟩)
  ⟨Kd.N_mono (Kd.N_old hN hb48) (fun q hq => by show q ≠ Bo; have := hq.2; omega), hR8, rfl, by simp, hk⟩
 refine Calls.mono NC ?_
 rintro e w' ⟨rfl, a, hrow⟩
 refine ⟨rfl, cell_of_heap ((a.block w6.heap.size (by omega) (by show w6.heap.size ≠ Cf; omega) (by show w6.heap.size ≠ Bo; omega)).trans n1) rfl, ?_, AG.below hb8 hb8.size a (Nat.le_trans hW2.size hCb) hwBo⟩
 exact row_result hrow (a.cells.trans hS8) (by unfold firstF; rw [nextF_len]; simp) (Nat.le_refl _) (by show F.length ≤ maxLen; unfold maxLen; omega) hwBo
set_option maxRecDepth 100000 in
set_option maxHeartbeats 8000000 in
theorem PM.match_Assign.calls (A0 : Option Addr) (c0 : Nat) (F : List Int) (A1 : Option Addr) (c1 : Nat) (S : List S50) (A2 : Option Addr) (c2 : Nat) (T : List (List Int)) (r1 : List Int) (r2 : Bool) (r3 : Int) (w : World)
    (hr0 : Kd.C (Kd.int .i64) w A0 F.length F) (hc0 : F.length ≤ c0) (hr1 : Kd.C k50 w A1 S.length S) (hc1 : S.length ≤ c1) (hr2 : Kd.C (Kd.slice 3 (Kd.int .i64)) w A2 T.length T) (hc2 : T.length ≤ c2) (h : match_Assign.f F S T = some (r1, r2, r3)) :
    Calls Try.prog 15 #[.agg #[.slice A0 F.length c0, .slice A1 S.length c1, .slice A2 T.length c2]] w (LBE r1 r2 r3 w) := by
  have hB0 := (Below.refl w.heap.size w).alloc (Nat.le_refl _) (.cells #[.slice A0 F.length c0, .slice A1 S.length c1, .slice A2 T.length c2] 26)
  have CB := checkboard_calls A0 c0 F A1 c1 S A2 c2 T _ (Kd.C_below hr0 hB0) hc0 (Kd.C_below hr1 hB0) (Kd.C_below hr2 hB0)
  unfold match_Assign.f at h
  obtain ⟨q, hq⟩ : ∃ q, checkB F S T = q := ⟨_, rfl⟩
  rw [hq] at h CB
  have HB0 := Go.Lib.hid hB0
  have HR := Go.Lib.hid (And.intro hr1 hr2)
  have HQ := Go.Lib.hid hq
  have HH := Go.Lib.hid h
  clear hr0 hr1 hr2 hB0 hq h
  go_enter Try.func15, Try.ntmps15
  go_wp2_with fail
  refine CB.mono ?_
  clear CB
  rintro e w1 ⟨rfl, hB1⟩
  have b1 : w1.heap[w.heap.size]? = some (.cells #[.slice A0 F.length c0, .slice A1 S.length c1, .slice A2 T.length c2] 26 (0, 0)) := by
    rw [hB1.block w.heap.size (by simp)]
    exact World.alloc_heap_new w _
  have hW1 : Below w.heap.size w w1 := HB0.out.trans (hB1.mono HB0.out.size)
  have k0 := cell_of_heap b1 (j := 0) rfl
  have k1 := cell_of_heap b1 (j := 1) rfl
  have k2 := cell_of_heap b1 (j := 2) rfl
  have HW1 := Go.Lib.hid hW1
  have BX1 := Go.Lib.hid b1
  clear hB1 b1 hW1
  by_cases hq0 : q = 0
  · subst hq0
    have hk := bok_of_check HQ.out
    have SC := some_calls A0 c0 F A1 c1 S A2 c2 T w1 hk (Kd.C_below HR.out.1 HW1.out) (Kd.C_below HR.out.2 HW1.out)
    have hf := HH.out
    rw [if_neg (by simp)] at hf
    have lT : T.length ≤ 60 := by rw [hk.nt]; exact hk.nf
    have lF : F.length ≤ 60 := hk.nf
    have HK := Go.Lib.hid hk
    unfold SomePost at SC
    obtain ⟨ok, hok⟩ : ∃ ok, (fillF T (rooms S) S.length (-1) (List.replicate F.length (-1))).ok = ok := ⟨_, rfl⟩
    rw [hok] at SC
    rw [show isF F S T = ok from hok] at hf
    clear hk hok HH HQ
    cases ok with
    | false =>
      rw [if_pos rfl] at hf
      injection hf with hf
      injection hf with hf1 hf
      injection hf with hf2 hf3
      subst hf1 hf2 hf3
      go_wp2_with fail
      refine SC.mono ?_
      clear SC
      rintro e w2 ⟨t, rfl, _, _, _, _, hB2⟩
      have HB2 := Go.Lib.hid (HW1.out.trans (hB2.mono HW1.out.size))
      clear hB2
      go_wp2_with fail
      go_ret3
      exact ⟨_, rfl, R_nil _ _, HB2.out⟩
    | true =>
      rw [if_neg (by simp)] at hf
      injection hf with hf
      injection hf with hf1 hf
      injection hf with hf2 hf3
      subst hf2 hf3
      have HF1 := Go.Lib.hid hf1
      clear hf1
      go_wp2_with fail
      refine SC.mono ?_
      clear SC
      rintro e w2 ⟨t, rfl, _, _, _, _, hB2⟩
      have hW2 := HW1.out.trans (hB2.mono HW1.out.size)
      have b2 := (hB2.block w.heap.size (Array.getElem?_eq_some_iff.1 BX1.out).1).trans BX1.out
      have hFT := Kd.C_F (Kd.heap_slice 3 (Kd.heap_int .i64)) (Kd.C_below HR.out.2 hW2)
      have CT : ∀ W, Below w2.heap.size w2 W → Calls Try.prog 53 #[.slice A2 T.length c2] W fun e w' => ∃ v, e = .returned v ∧ Kd.N (Kd.slice 3 (Kd.int .i64)) 22 w' W.heap.size (fun k => k < w2.heap.size ∨ W.heap.size ≤ k) v T ∧ Below W.heap.size W w' ∧ Below w2.heap.size w2 w' := fun W hb => by
        refine (copiedT_calls w2.heap.size A2 c2 T W (Kd.F_below hFT hb) hc2 (by omega)).mono ?_
        rintro e w' ⟨v, rfl, hN, h1⟩
        exact ⟨v, rfl, hN, h1, hb.trans (h1.mono hb.size)⟩
      have hb0 : Below w2.heap.size w2 w2.drew := (Below.refl _ _).drew
      have hb1 : ∀ o, Below w2.heap.size w2 (w2.alloc o).drew := fun o => ((Below.refl _ _).alloc (Nat.le_refl _) o).drew
      have k0 : w2.cell? ⟨w.heap.size, 0, none⟩ = some (.slice A0 F.length c0) := cell_of_heap b2 (j := 0) rfl
      have k1 : w2.cell? ⟨w.heap.size, 1, none⟩ = some (.slice A1 S.length c1) := cell_of_heap b2 (j := 1) rfl
      have k2 : w2.cell? ⟨w.heap.size, 2, none⟩ = some (.slice A2 T.length c2) := cell_of_heap b2 (j := 2) rfl
      have E := World.alloc_heap_new w2 (.cells #[.slice none 0 0, .slice none 0 0, .slice none 0 0] 26)
      have E0 : (w2.alloc (.cells #[.slice none 0 0, .slice none 0 0, .slice none 0 0] 26)).drew.cell? ⟨w2.heap.size, 0, none⟩ = some (.slice none 0 0) := cell_of_heap E (j := 0) rfl
      have E1 : (w2.alloc (.cells #[.slice none 0 0, .slice none 0 0, .slice none 0 0] 26)).drew.cell? ⟨w2.heap.size, 1, none⟩ = some (.slice none 0 0) := cell_of_heap E (j := 1) rfl
      have E2 : (w2.alloc (.cells #[.slice none 0 0, .slice none 0 0, .slice none 0 0] 26)).drew.cell? ⟨w2.heap.size, 2, none⟩ = some (.slice none 0 0) := cell_of_heap E (j := 2) rfl
      have Z0 : (w2.alloc (.cells #[.slice none 0 0, .slice none 0 0, .slice none 0 0] 26)).drew.frozen? ⟨w2.heap.size, 0, none⟩ = false := frozen_of_heap E
      have Z1 : (w2.alloc (.cells #[.slice none 0 0, .slice none 0 0, .slice none 0 0] 26)).drew.frozen? ⟨w2.heap.size, 1, none⟩ = false := frozen_of_heap E
      have Z2 : (w2.alloc (.cells #[.slice none 0 0, .slice none 0 0, .slice none 0 0] 26)).drew.frozen? ⟨w2.heap.size, 2, none⟩ = false := frozen_of_heap E
      have hne1 : w2.heap.size ≠ w.heap.size := by have := World.block_lt_of_cell? w2 _ k0; exact Nat.ne_of_gt this
      have hne2 : w.heap.size ≠ w2.heap.size := Ne.symm hne1
      have HK2 := Go.Lib.hid (And.intro k0 (And.intro k1 k2))
      have HW2 := Go.Lib.hid hW2
      have BX2 := Go.Lib.hid b2
      have HE := Go.Lib.hid E
      clear hB2 hW2 b2 E hFT
      go_wp2_with fail
      go_region_held3 (fun w' => w'.cell? ⟨w.heap.size, 0, none⟩ = some (.slice A0 F.length c0) ∧ w'.cell? ⟨w.heap.size, 1, none⟩ = some (.slice A1 S.length c1) ∧ w'.cell? ⟨w.heap.size, 2, none⟩ = some (.slice A2 T.length c2) ∧ Below w2.heap.size w2 w')
        (go_keep)
        (first
          | (go_at_call 53; refine (CT _ (by first | assumption | exact hb1 _)).mono ?_; rintro e w3 ⟨vc, rfl, hN, hbc, hb⟩; obtain ⟨Ac, cf, rfl⟩ := Kd.N_slice hN; have hba : ∀ o, Below w2.heap.size w2 (w3.alloc o) := fun o => hb.alloc hb.size o; have hbs : ∀ j u, Below w2.heap.size w2 (w3.setCell ⟨w2.heap.size, j, none⟩ u) := fun j u => setCell_below hb (Nat.le_refl _) u; have hbs3 : ∀ u1 u2 u3, Below w2.heap.size w2 (((w3.setCell ⟨w2.heap.size, 0, none⟩ u1).setCell ⟨w2.heap.size, 1, none⟩ u2).setCell ⟨w2.heap.size, 2, none⟩ u3) := fun u1 u2 u3 => setCell_below (setCell_below (setCell_below hb (Nat.le_refl _) u1) (Nat.le_refl _) u2) (Nat.le_refl _) u3; have f0 := pw_cell_below hb HK2.out.1; have f1 := pw_cell_below hb HK2.out.2.1; have f2 := pw_cell_below hb HK2.out.2.2; (try (have e0 := pw_cell_below hbc E0; have e1 := pw_cell_below hbc E1; have e2 := pw_cell_below hbc E2; have z0 := (hbc.frozen (p := ⟨w2.heap.size, 0, none⟩) (by simp)).trans Z0; have z1 := (hbc.frozen (p := ⟨w2.heap.size, 1, none⟩) (by simp)).trans Z1; have z2 := (hbc.frozen (p := ⟨w2.heap.size, 2, none⟩) (by simp)).trans Z2))))
      all_goals (first
        | (have hX4 : ∃ Bc W4, w2.heap.size = Bc ∧ (((w3.setCell ⟨w2.heap.size, 0, none⟩ (.slice A0 F.length c0)).setCell ⟨w2.heap.size, 1, none⟩ (.slice A1 S.length c1)).setCell ⟨w2.heap.size, 2, none⟩ (.slice Ac T.length cf)) = W4 ∧ W4.heap[Bc]? = some (.cells #[.slice A0 F.length c0, .slice A1 S.length c1, .slice Ac T.length cf] 26 (0, 0)) ∧ Kd.N (Kd.slice 3 (Kd.int .i64)) 22 W4 w2.heap.size (fun _ => True) (.slice Ac T.length cf) T ∧ Below w2.heap.size w2 W4 :=
            ⟨_, _, rfl, rfl, box3_set ((hbc.block w2.heap.size (by simp)).trans HE.out) _ _ _, Kd.N_mono (Kd.N_lower (Kd.N_far (p := ⟨w2.heap.size, 2, none⟩) (Kd.N_far (p := ⟨w2.heap.size, 1, none⟩) (Kd.N_far (p := ⟨w2.heap.size, 0, none⟩) hN (fun k hk => by simp at hk; show k ≠ w2.heap.size; omega) _) (fun k hk => by simp at hk; show k ≠ w2.heap.size; omega) _) (fun k hk => by simp at hk; show k ≠ w2.heap.size; omega) _) (by simp)) (fun _ _ => trivial), hbs3 _ _ _⟩
           obtain ⟨Bc, W4, hBc, hW4, hX4⟩ := hX4
           rw [hW4, hBc]
           clear hbs3 hbs hba hW4 hBc E0 E1 E2 Z0 Z1 Z2)
        | (have hX4 : ∃ Bc W4, w3.heap.size = Bc ∧ w3.alloc (.cells #[.slice A0 F.length c0, .slice A1 S.length c1, .slice Ac T.length cf] 26) = W4 ∧ W4.heap[Bc]? = some (.cells #[.slice A0 F.length c0, .slice A1 S.length c1, .slice Ac T.length cf] 26 (0, 0)) ∧ Kd.N (Kd.slice 3 (Kd.int .i64)) 22 W4 w2.heap.size (fun _ => True) (.slice Ac T.length cf) T ∧ Below w2.heap.size w2 W4 :=
            ⟨_, _, rfl, rfl, World.alloc_heap_new _ _, Kd.N_alloc (Kd.N_mono (Kd.N_lower hN (by simp)) (fun _ _ => trivial)) _, hba _⟩
           obtain ⟨Bc, W4, hBc, hW4, hX4⟩ := hX4
           rw [hW4, hBc]
           clear hbs3 hbs hba hW4 hBc E0 E1 E2 Z0 Z1 Z2))
      all_goals (
        have hb4 := hX4.2.2
        have j0 := pw_cell_below hb4 HK2.out.1
        have hal := (Below.refl W4.heap.size W4).alloc (Nat.le_refl _) (.cells #[.int .i64 (-1)] 3)
        have j1 := pw_cell_below hal j0
        have RP := repeat_calls W4.heap.size (-1) F.length (by omega) _ (cell_of_heap (World.alloc_heap_new W4 (.cells #[.int .i64 (-1)] 3)) (j := 0) rfl)
        have HX4 := Go.Lib.hid hX4
        have HAL := Go.Lib.hid hal
        clear hX4 hb4 hal k0 k1 k2 hN hbc hb f0 f1 f2 CT
        go_wp2_with fail
        refine RP.mono ?_
        clear RP
        rintro e w6 ⟨Bo, rfl, hbo, hrow6, hb6⟩
        have HR6 := Go.Lib.hid (And.intro hbo (And.intro hrow6 hb6))
        clear hbo hrow6 hb6
        go_wp2_with fail)
      all_goals (
        have SN := start_next HK.out HR.out.1 HR.out.2 HW2.out BX2.out HX4.out.1 HX4.out.2.1 HX4.out.2.2 HR6.out.1 HR6.out.2.1 HR6.out.2.2
        refine SN.mono ?_
        clear SN
        rintro e w9 ⟨rfl, hq9, hR9, hB9⟩
        have HX9 := Go.Lib.hid (And.intro hR9 hB9)
        clear hR9 hB9
        go_wp2_with fail
        go_ret3
        exact ⟨_, rfl, by rw [← HF1.out]; exact HX9.out.1, HX9.out.2⟩)
  · have g9 : decide (q = 0) = false := by simpa using hq0
    have hf := HH.out
    rw [if_pos hq0] at hf
    injection hf with hf
    injection hf with hf1 hf
    injection hf with hf2 hf3
    subst hf1 hf2 hf3
    go_wp2_with fail
    go_ret3
    exact ⟨_, rfl, R_nil _ _, HW1.out⟩
end Go.Proofs.Ytkmmihadcbfkoaa
end

section
namespace Go.Proofs.Ytkmmihadcbfkoaa
open Go.RowKit Go.Proofs.YtkmmihadcbfkoaaW.PrintWords PM
set_option linter.unusedVariables false
set_option linter.unusedSimpArgs false
/-- The rooms, one slot having one less. -/
def roomsLess (S : List S50) (slot : Int) : List Int := (rooms S).set slot.toNat ((rooms S).getD slot.toNat 0 - 1)
def PM.match_Refuse.f (F : List Int) (S : List S50) (T : List (List Int)) (find slot : Int) : Option (List Int × Bool × Int) :=
 if askB F S T find slot false false ≠ 0 then some ([], false, askB F S T find slot false false)
 else if isF F S T = false then some ([], false, 40)
 else if slot ∉ T.getD find.toNat [] then some ([], true, 0)
 else some ((hallR F S T find (roomsLess S slot)).hall, !(hallR F S T find (roomsLess S slot)).ok, 0)
set_option maxRecDepth 100000 in
set_option maxHeartbeats 8000000 in
theorem refuse_walk (A0 : Option Addr) (c0 : Nat) (F : List Int) (A1 : Option Addr) (c1 : Nat) (S : List S50) (A2 : Option Addr) (c2 : Nat) (T : List (List Int)) (find slot : Int) (r1 : List Int) (r2 : Bool) (r3 : Int) (w : World)
  (hr0 : Kd.C (Kd.int .i64) w A0 F.length F) (hc0 : F.length ≤ c0) (hr1 : Kd.C k50 w A1 S.length S) (hr2 : Kd.C (Kd.slice 3 (Kd.int .i64)) w A2 T.length T) (h : match_Refuse.f F S T find slot = some (r1, r2, r3)) :
  Calls Try.prog 31 #[.agg #[.slice A0 F.length c0, .slice A1 S.length c1, .slice A2 T.length c2], .int .i64 find, .int .i64 slot] w (LBE r1 r2 r3 w) := by
 have hB0 := (Below.refl w.heap.size w).alloc (Nat.le_refl _) (.cells #[.slice A0 F.length c0, .slice A1 S.length c1, .slice A2 T.length c2] 26)
 have CB := both_calls A0 c0 F A1 c1 S A2 c2 T find slot _ (Kd.C_below hr0 hB0) hc0 (Kd.C_below hr1 hB0) (Kd.C_below hr2 hB0)
 unfold match_Refuse.f at h
 obtain ⟨q, hq⟩ : ∃ q, askB F S T find slot false false = q := ⟨_, rfl⟩
 rw [hq] at h CB
 have HB0 := Go.Lib.hid hB0
 have HR := Go.Lib.hid (And.intro hr1 hr2)
 have HQ := Go.Lib.hid hq
 have HH := Go.Lib.hid h
 clear hr0 hr1 hr2 hB0 hq h
 go_enter Try.func31, Try.ntmps31
 go_wp2_with fail
 refine CB.mono ?_
 clear CB
 rintro e w1 ⟨rfl, hB1⟩
 have b1 : w1.heap[w.heap.size]? = some (.cells #[.slice A0 F.length c0, .slice A1 S.length c1, .slice A2 T.length c2] 26 (0, 0)) := by
  rw [hB1.block w.heap.size (by simp)]
  exact World.alloc_heap_new w _
 have hW1 : Below w.heap.size w w1 := HB0.out.trans (hB1.mono HB0.out.size)
 have k0 := cell_of_heap b1 (j := 0) rfl
 have k1 := cell_of_heap b1 (j := 1) rfl
 have k2 := cell_of_heap b1 (j := 2) rfl
 have HW1 := Go.Lib.hid hW1
 have BX1 := Go.Lib.hid b1
 clear hB1 b1 hW1
 by_cases hq0 : q = 0
 rotate_left
 ·
  have g9 : decide (q = 0) = false := by simpa using hq0
  have hf := HH.out
  rw [if_pos hq0] at hf
  injection hf with hf
  injection hf with hf1 hf
  injection hf with hf2 hf3
  subst hf1 hf2 hf3
  go_wp2_with fail
  go_ret3
  exact ⟨_, rfl, R_nil _ _, HW1.out⟩
 subst hq0
 obtain ⟨hcb, hfd, hsl⟩ := ask_parts HQ.out
 obtain ⟨hfd0, hfd1⟩ := hfd rfl
 obtain ⟨hsl0, hsl1⟩ := hsl rfl
 have hk := bok_of_check hcb
 have hfd2 : find < (T.length : Int) := by rw [hk.nt]; exact hfd1
 have hf := HH.out
 rw [if_neg (by simp)] at hf
 have HK := Go.Lib.hid hk
 have HCB := Go.Lib.hid hcb
 clear HH HQ hk hcb
 cases hok : isF F S T with
 | false =>
  have MC := matched_no A0 c0 F A1 c1 S A2 c2 T w1 HK.out (Kd.C_below HR.out.1 HW1.out) (Kd.C_below HR.out.2 HW1.out) hok
  rw [if_pos hok] at hf
  injection hf with hf
  injection hf with hf1 hf
  injection hf with hf2 hf3
  subst hf1 hf2 hf3
  clear hok
  go_wp2_with fail
  refine MC.mono ?_
  clear MC
  rintro e w2 ⟨rfl, hB2⟩
  have HB2 := Go.Lib.hid (HW1.out.trans (hB2.mono HW1.out.size))
  clear hB2
  go_wp2_with fail
  go_ret3
  exact ⟨_, rfl, R_nil _ _, HB2.out⟩
 | true =>
  have MC := matched_yes A0 c0 F A1 c1 S A2 c2 T w1 HK.out (Kd.C_below HR.out.1 HW1.out) (Kd.C_below HR.out.2 HW1.out) hok
  rw [if_neg (by rw [hok]; simp)] at hf
  have HF := Go.Lib.hid hf
  clear hok hf
  go_wp2_with fail
  refine MC.mono ?_
  clear MC
  rintro e w2 ⟨tm, rfl, _, _, _, _, hB2⟩
  have hW2 := HW1.out.trans (hB2.mono HW1.out.size)
  have b2 := (hB2.block w.heap.size (Array.getElem?_eq_some_iff.1 BX1.out).1).trans BX1.out
  have k0 := cell_of_heap b2 (j := 0) rfl
  have k1 := cell_of_heap b2 (j := 1) rfl
  have k2 := cell_of_heap b2 (j := 2) rfl
  obtain ⟨a, Ar, cr, e2, hx, hlc, hC⟩ := rows_at (Kd.C_below HR.out.2 hW2) find hfd0 hfd2
  obtain ⟨row, hrw⟩ : ∃ row, T.getD find.toNat [] = row := ⟨_, rfl⟩
  rw [hrw] at hx hlc hC
  have CC := contains_calls Ar cr row slot w2 hC hlc
  have HF2 := HF.out
  rw [hrw] at HF2
  have HF := Go.Lib.hid HF2
  have HW2 := Go.Lib.hid hW2
  have BX2 := Go.Lib.hid b2
  have e2' := e2
  clear hB2 hW2 b2 hC hrw HF2 e2
  subst e2'
  go_wp2_with fail
  refine CC.mono ?_
  clear CC
  rintro e w3 ⟨rfl, hd⟩
  have hW3 := HW2.out.trans (hd.below.mono HW2.out.size)
  have b3 := (hd.below.block w.heap.size (Array.getElem?_eq_some_iff.1 BX2.out).1).trans BX2.out
  have k0 := cell_of_heap b3 (j := 0) rfl
  have k1 := cell_of_heap b3 (j := 1) rfl
  have k2 := cell_of_heap b3 (j := 2) rfl
  have HW3 := Go.Lib.hid hW3
  clear hW3 b3 hd
  by_cases hin : slot ∈ row
  rotate_left
  ·
   rw [decide_eq_false hin]
   have hf := HF.out
   rw [if_pos hin] at hf
   injection hf with hf
   injection hf with hf1 hf
   injection hf with hf2 hf3
   subst hf1 hf2 hf3
   clear hin
   go_wp2_with fail
   go_ret3
   exact ⟨_, rfl, R_nil _ _, HW3.out⟩
  rw [decide_eq_true hin]
  have hf := HF.out
  rw [if_neg (by simpa using hin)] at hf
  injection hf with hf
  obtain ⟨rr, hrr⟩ : ∃ rr, hallR F S T find (roomsLess S slot) = rr := ⟨_, rfl⟩
  rw [hrr] at hf
  injection hf with hf1 hf
  injection hf with hf2 hf3
  subst hf2 hf3
  have HRR := Go.Lib.hid hrr
  have HF1 := Go.Lib.hid hf1
  have TC := tried_calls3 A0 c0 F A1 c1 S (some a) c2 T w3 HK.out (Kd.C_below HR.out.1 HW3.out) (Kd.C_below HR.out.2 HW3.out)
  have hrb := room_bound HCB.out slot.toNat (by omega)
  clear hrr hf1 hin
  go_wp2_with fail
  refine TC.mono ?_
  clear TC
  rintro e w4 ⟨t, rfl, hN, en1, en2⟩
  have hlr : (rooms S).length = S.length := by simp [rooms]
  obtain ⟨Ab, eA, hc, hfz, hN2⟩ := hN.set slot hsl0 (by omega) ((rooms S).getD slot.toNat 0 - 1)
  have y3 := cell_of_heap hN.gb (j := 3) rfl
  rw [eA, hlr] at y3
  have FC := fill_calls t T _ hN2.fit find _ hN2.len _ hN2.stands hN2.row
  rw [en1, show fillF T ((rooms S).set slot.toNat ((rooms S).getD slot.toNat 0 - 1)) S.length find (List.replicate F.length (-1)) = rr from HRR.out] at FC
  obtain ⟨v, hv⟩ : ∃ v, (rooms S).getD slot.toNat 0 = v := ⟨_, rfl⟩
  rw [hv] at hrb hc FC hN2
  obtain ⟨hv1, hv2⟩ := hrb
  have HB2 := Go.Lib.hid hN2.B
  have HL2 := Go.Lib.hid hN2.hl
  clear hN hN2 en1 en2 hlr hv eA
  go_wp2_with fail
  refine FC.mono ?_
  clear FC
  rintro e w5 ⟨vh, rfl, hag, _, how⟩
  have hsz := HW3.out.size
  have hb5 := hag.below (HW3.out.trans (HB2.out.mono hsz)) (Nat.le_trans hsz HB2.out.size) (Nat.le_trans hsz HL2.out) (Nat.le_trans hsz HL2.out)
  have hR := Kd.R_of_own (enc := Value.int .i64) (h1 := fun _ => rfl) (ok := fun _ => True) (own_weaken how (Nat.le_trans hsz HB2.out.size)) (fun _ _ => trivial)
  rw [HF1.out] at hR
  have HB5 := Go.Lib.hid hb5
  have HR5 := Go.Lib.hid hR
  clear hag how hb5 hR hsz
  go_wp2_with fail
  go_ret3
  exact ⟨vh, rfl, HR5.out, HB5.out⟩
theorem PM.match_Refuse.calls (A0 : Option Addr) (c0 : Nat) (F : List Int) (A1 : Option Addr) (c1 : Nat) (S : List S50) (A2 : Option Addr) (c2 : Nat) (T : List (List Int)) (find slot : Int) (r1 : List Int) (r2 : Bool) (r3 : Int) (w : World)
  (hr0 : Kd.C (Kd.int .i64) w A0 F.length F) (hc0 : F.length ≤ c0) (hr1 : Kd.C k50 w A1 S.length S) (hc1 : S.length ≤ c1) (hr2 : Kd.C (Kd.slice 3 (Kd.int .i64)) w A2 T.length T) (hc2 : T.length ≤ c2) (h : match_Refuse.f F S T find slot = some (r1, r2, r3)) :
  Calls Try.prog 31 #[.agg #[.slice A0 F.length c0, .slice A1 S.length c1, .slice A2 T.length c2], .int .i64 find, .int .i64 slot] w (LBE r1 r2 r3 w) := refuse_walk A0 c0 F A1 c1 S A2 c2 T find slot r1 r2 r3 w hr0 hc0 hr1 hr2 h
end Go.Proofs.Ytkmmihadcbfkoaa
end

section
namespace Go.Proofs.Ytkmmihadcbfkoaa
open Go.RowKit Go.Proofs.YtkmmihadcbfkoaaW.PrintWords PM
set_option linter.unusedVariables false
set_option linter.unusedSimpArgs false
/-- The least number of finds that a slot must take, from l on. -/
def lowL (F : List Int) (S : List S50) (T : List (List Int)) (slot : Nat) : Nat → Nat → Nat
 | 0, l => l
 | n + 1, l => if (hallR F S T (-1) ((rooms S).set slot (l : Int))).ok then l else lowL F S T slot n (l + 1)
def fitCount (T : List (List Int)) (slot : Int) : Nat := T.countP fun l => decide (slot ∈ l)
def highN (S : List S50) (T : List (List Int)) (slot : Int) : Nat := min (fitCount T slot) ((rooms S).getD slot.toNat 0).toNat
def PM.match_Load.f (F : List Int) (S : List S50) (T : List (List Int)) (slot : Int) : Option (Int × Int × Int) :=
 if askB F S T 0 slot true false ≠ 0 then some (0, 0, askB F S T 0 slot true false)
 else if isF F S T = false then some (0, 0, 40)
 else some ((lowL F S T slot.toNat (highN S T slot) 0 : Nat), (highN S T slot : Nat), 0)
set_option maxRecDepth 100000 in
set_option maxHeartbeats 8000000 in
theorem PM.match_Load.calls (A0 : Option Addr) (c0 : Nat) (F : List Int) (A1 : Option Addr) (c1 : Nat) (S : List S50) (A2 : Option Addr) (c2 : Nat) (T : List (List Int)) (slot : Int) (r1 : Int) (r2 : Int) (r3 : Int) (w : World)
  (hr0 : Kd.C (Kd.int .i64) w A0 F.length F) (hc0 : F.length ≤ c0) (hr1 : Kd.C k50 w A1 S.length S) (hc1 : S.length ≤ c1) (hr2 : Kd.C (Kd.slice 3 (Kd.int .i64)) w A2 T.length T) (hc2 : T.length ≤ c2) (h : match_Load.f F S T slot = some (r1, r2, r3)) :
  Calls Try.prog 18 #[.agg #[.slice A0 F.length c0, .slice A1 S.length c1, .slice A2 T.length c2], .int .i64 slot] w fun e w' => e = .returned (.tuple #[.int .i64 r1, .int .i64 r2, .int .i64 r3]) ∧ Below w.heap.size w w' := by
 have CB := asked_boxed A0 c0 F A1 c1 S A2 c2 T 0 slot true false w hr0 hc0 hr1 hr2 (.cells #[.slice A0 F.length c0, .slice A1 S.length c1, .slice A2 T.length c2] 26)
 unfold match_Load.f at h
 obtain ⟨q, hq⟩ : ∃ q, askB F S T 0 slot true false = q := ⟨_, rfl⟩
 rw [hq] at h CB
 have HR := Go.Lib.hid (And.intro hr1 hr2)
 have HQ := Go.Lib.hid hq
 have HH := Go.Lib.hid h
 clear hr0 hr1 hr2 hq h
 go_enter Try.func18, Try.ntmps18
 go_wp2_with fail
 refine CB.mono ?_
 clear CB
 rintro e w1 ⟨⟨rfl, hW1⟩, b1⟩
 have k0 := cell_of_heap b1 (j := 0) rfl
 have k1 := cell_of_heap b1 (j := 1) rfl
 have k2 := cell_of_heap b1 (j := 2) rfl
 have HW1 := Go.Lib.hid hW1
 have BX1 := Go.Lib.hid b1
 clear b1 hW1
 by_cases hq0 : q = 0
 rotate_left
 ·
  have g9 : decide (q = 0) = false := by simpa using hq0
  have hf := HH.out
  rw [if_pos hq0] at hf
  injection hf with hf
  injection hf with hf1 hf
  injection hf with hf2 hf3
  subst hf1 hf2 hf3
  go_wp2_with fail
  go_ret3
  exact ⟨rfl, HW1.out⟩
 subst hq0
 obtain ⟨hcb, _, hsl⟩ := ask_parts HQ.out
 obtain ⟨hsl0, hsl1⟩ := hsl rfl
 have hk := bok_of_check hcb
 have hf := HH.out
 rw [if_neg (by simp)] at hf
 have lT : T.length ≤ 60 := by rw [hk.nt]; exact hk.nf
 have HK := Go.Lib.hid hk
 have HCB := Go.Lib.hid hcb
 clear HH HQ hk hcb
 cases hok : isF F S T with
 | false =>
  have MC := matched_no A0 c0 F A1 c1 S A2 c2 T w1 HK.out (Kd.C_below HR.out.1 HW1.out) (Kd.C_below HR.out.2 HW1.out) hok
  rw [if_pos hok] at hf
  injection hf with hf
  injection hf with hf1 hf
  injection hf with hf2 hf3
  subst hf1 hf2 hf3
  clear hok
  go_wp2_with fail
  refine MC.mono ?_
  clear MC
  rintro e w2 ⟨rfl, hB2⟩
  have HB2 := Go.Lib.hid (HW1.out.trans (hB2.mono HW1.out.size))
  clear hB2
  go_wp2_with fail
  go_ret3
  exact ⟨rfl, HB2.out⟩
 | true =>
  have MC := matched_yes A0 c0 F A1 c1 S A2 c2 T w1 HK.out (Kd.C_below HR.out.1 HW1.out) (Kd.C_below HR.out.2 HW1.out) hok
  rw [if_neg (by rw [hok]; simp)] at hf
  injection hf with hf
  obtain ⟨hi, hhi⟩ : ∃ hi, highN S T slot = hi := ⟨_, rfl⟩
  rw [hhi] at hf
  injection hf with hf1 hf
  injection hf with hf2 hf3
  subst hf2 hf3
  have HF1 := Go.Lib.hid hf1
  have HHI := Go.Lib.hid hhi
  clear hok hf1 hhi
  go_wp2_with fail
  refine MC.mono ?_
  clear MC
  rintro e w2 ⟨t, rfl, _, _, _, _, hB2⟩
  have hW2 := HW1.out.trans (hB2.mono HW1.out.size)
  have b2 := (hB2.block w.heap.size (Array.getElem?_eq_some_iff.1 BX1.out).1).trans BX1.out
  have k2 := cell_of_heap b2 (j := 2) rfl
  have HW2 := Go.Lib.hid hW2
  have BX2 := Go.Lib.hid b2
  clear hB2 hW2 b2
  go_wp2_with fail
  go_loopw [5, 33] (fun n i wr => ∃ k : Nat, k ≤ T.length ∧ i = .int .i64 k ∧ n = .int .i64 ((fitCount (T.take k) slot : Nat) : Int) ∧ Hid (Below w2.heap.size w2 wr)) (fun _ i _ => T.length - (intOf i).toNat)
  case atStart => exact ⟨0, Nat.zero_le _, rfl, rfl, Below.refl _ _⟩
  obtain ⟨k, hk, rfl, rfl, HID⟩ := hrel
  by_cases hlt : k < T.length
  ·
   have hW := HW2.out.trans (HID.out.mono HW2.out.size)
   obtain ⟨a8, Ar, cr, e8, hx8, hlc, hC⟩ := rows_at (Kd.C_below HR.out.2 hW) (k : Int) (by omega) (by omega)
   rw [Int.toNat_natCast] at hx8 hlc hC
   have hcnt : fitCount (T.take (k + 1)) slot = fitCount (T.take k) slot + if slot ∈ T.getD k [] then 1 else 0 := by
    unfold fitCount
    rw [List.take_succ_eq_append_getElem hlt, List.countP_append]
    simp [List.getD_eq_getElem?_getD, List.getElem?_eq_getElem hlt, List.countP_cons]
   have hcl : fitCount (T.take k) slot ≤ k := Nat.le_trans List.countP_le_length (by simp; omega)
   obtain ⟨row, hrw⟩ : ∃ row, T.getD k [] = row := ⟨_, rfl⟩
   rw [hrw] at hx8 hlc hC hcnt
   obtain ⟨n9, hn9⟩ : ∃ n9, fitCount (T.take k) slot = n9 := ⟨_, rfl⟩
   rw [hn9] at hcnt hcl ⊢
   have CC := contains_calls Ar cr row slot wr hC hlc
   have HCNT := Go.Lib.hid hcnt
   clear hW hC hcnt hrw hn9
   rw [e8] at *
   go_wp2_with fail
   refine CC.mono ?_
   clear CC
   rintro e w3 ⟨rfl, hd⟩
   have HB3 := Go.Lib.hid (HID.out.trans (hd.below.mono HID.out.size))
   clear hd
   by_cases hin : slot ∈ row
   ·
    rw [decide_eq_true hin]
    have hcnt := HCNT.out
    rw [if_pos hin] at hcnt
    have HCN := Go.Lib.hid hcnt
    clear hcnt hin
    go_wp2_with fail
    go_roundw
    case rel => exact ⟨k + 1, by omega, by simp, by rw [HCN.out]; simp, HB3.out⟩
    case measure => simp [intOf]; omega
   rw [decide_eq_false hin]
   have hcnt := HCNT.out
   rw [if_neg hin] at hcnt
   have HCN := Go.Lib.hid hcnt
   clear hcnt hin
   go_wp2_with fail
   go_roundw
   case rel => exact ⟨k + 1, by omega, by simp, by rw [HCN.out]; simp, HB3.out⟩
   case measure => simp [intOf]; omega
  obtain rfl : k = T.length := by omega
  rw [List.take_length]
  have hW := HW2.out.trans (HID.out.mono HW2.out.size)
  have b3 := (HID.out.block w.heap.size (Array.getElem?_eq_some_iff.1 BX2.out).1).trans BX2.out
  have k1 := cell_of_heap b3 (j := 1) rfl
  obtain ⟨a7, e7, x0, x1, x2⟩ := at_T50 (Kd.C_below HR.out.1 hW) slot hsl0 hsl1
  have hpb := room_bound HCB.out slot.toNat (by omega)
  have hfc : fitCount T slot ≤ 60 := Nat.le_trans List.countP_le_length lT
  have hro : (rooms S).getD slot.toNat 0 = (rd_T50 S slot).f2 := by
   simp [rooms, rd_T50, List.getD_eq_getElem?_getD, List.getElem?_eq_getElem (show slot.toNat < S.length by omega)]
  rw [hro] at hpb
  have hh : highN S T slot = min (fitCount T slot) (rd_T50 S slot).f2.toNat := by unfold highN; rw [hro]
  rw [HHI.out] at hh
  obtain ⟨p9, hp9⟩ : ∃ p9, (rd_T50 S slot).f2 = p9 := ⟨_, rfl⟩
  obtain ⟨n9, hn9⟩ : ∃ n9, fitCount T slot = n9 := ⟨_, rfl⟩
  rw [hp9] at x2 hpb hh
  rw [hn9] at hfc hh ⊢
  obtain ⟨hp1, hp2⟩ := hpb
  have HHH := Go.Lib.hid hh
  have HW := Go.Lib.hid hW
  have BX3 := Go.Lib.hid b3
  clear hW b3 hro hh hn9 hp9 HID
  subst e7
  go_wp2_with fail
  have hmin : min (n9 : Int) p9 = (hi : Int) := by have := HHH.out; omega
  rw [hmin]
  have hhi60 : hi ≤ 60 := by omega
  have hlow := HF1.out
  obtain ⟨lo, hlo⟩ : ∃ lo, lowL F S T slot.toNat hi 0 = lo := ⟨_, rfl⟩
  rw [hlo] at hlow
  subst hlow
  have HLO := Go.Lib.hid hlo
  clear hmin hlo HF1 x0 x1 x2 k0 k1 k2
  go_loopw [4] (fun l wr => ∃ k : Nat, k ≤ hi ∧ l = .int .i64 k ∧ Hid (lowL F S T slot.toNat (hi - k) k = lo ∧ Below w.heap.size w wr ∧ wr.heap[w.heap.size]? = some (.cells #[.slice A0 F.length c0, .slice (some a7) S.length c1, .slice A2 T.length c2] 26 (0, 0)))) (fun l _ => hi - (intOf l).toNat)
  case atStart => exact ⟨0, Nat.zero_le _, rfl, HLO.out, HW.out, BX3.out⟩
  obtain ⟨k, hk, rfl, HID⟩ := hrel
  obtain ⟨hlk, hbl, hbx⟩ := HID.out
  by_cases hlt : k < hi
  rotate_left
  ·
   obtain rfl : k = hi := by omega
   rw [Nat.sub_self] at hlk
   have hl : k = lo := hlk
   subst hl
   have HBL := Go.Lib.hid hbl
   clear hlk hbl hbx HID
   go_wp2_with fail
   go_ret3
   exact ⟨rfl, HBL.out⟩
  have k0 := cell_of_heap hbx (j := 0) rfl
  have k1 := cell_of_heap hbx (j := 1) rfl
  have k2 := cell_of_heap hbx (j := 2) rfl
  have TC := tried_calls3 A0 c0 F (some a7) c1 S A2 c2 T _ HK.out (Kd.C_below HR.out.1 hbl) (Kd.C_below HR.out.2 hbl)
  obtain ⟨n, hn⟩ : ∃ n, hi - k = n + 1 := ⟨hi - k - 1, by omega⟩
  rw [hn] at hlk
  unfold lowL at hlk
  have HLK := Go.Lib.hid hlk
  have HN := Go.Lib.hid hn
  have HBL := Go.Lib.hid hbl
  have HBX := Go.Lib.hid hbx
  clear hlk hn hbl hbx HID
  go_wp2_with fail
  refine TC.mono ?_
  clear TC
  rintro e w4 ⟨t, rfl, hN, en1, en2⟩
  have hlr : (rooms S).length = S.length := by simp [rooms]
  obtain ⟨Ab, eA, hc, hfz, hN2⟩ := hN.set slot hsl0 (by omega) (k : Int)
  have y3 := cell_of_heap hN.gb (j := 3) rfl
  rw [eA, hlr] at y3
  have FC := fill_calls t T _ hN2.fit (-1) _ hN2.len _ hN2.stands hN2.row
  obtain ⟨rr, hrr⟩ : ∃ rr, hallR F S T (-1) ((rooms S).set slot.toNat (k : Int)) = rr := ⟨_, rfl⟩
  rw [en1, show fillF T ((rooms S).set slot.toNat (k : Int)) S.length (-1) (List.replicate F.length (-1)) = rr from hrr] at FC
  have hlk := HLK.out
  rw [hrr] at hlk
  have HLK := Go.Lib.hid hlk
  unfold FillPost at FC
  obtain ⟨ok, hok⟩ : ∃ ok, rr.ok = ok := ⟨_, rfl⟩
  rw [hok] at FC
  have HOK := Go.Lib.hid hok
  have HB2 := Go.Lib.hid hN2.B
  have HL2 := Go.Lib.hid hN2.hl
  clear hN hN2 en1 en2 hlr eA hrr hlk hok
  go_wp2_with fail
  refine FC.mono ?_
  clear FC
  rintro e w5 ⟨vh, rfl, hag, _, how⟩
  have hsz := HBL.out.size
  have hb5 := hag.below HB2.out HB2.out.size HL2.out HL2.out
  have hbw := HBL.out.trans (hb5.mono hsz)
  have hbx5 := (hb5.block w.heap.size (Array.getElem?_eq_some_iff.1 HBX.out).1).trans HBX.out
  have HB5 := Go.Lib.hid (And.intro hbw hbx5)
  clear hag how hb5 hsz hbw hbx5
  cases ok with
  | true =>
   have hl : k = lo := by have := HLK.out; rw [HOK.out, if_pos rfl] at this; exact this
   subst hl
   go_wp2_with fail
   go_ret3
   exact ⟨rfl, HB5.out.1⟩
  | false =>
   have hl : lowL F S T slot.toNat n (k + 1) = lo := by have := HLK.out; rw [HOK.out, if_neg (by simp)] at this; exact this
   have HL := Go.Lib.hid hl
   clear hl
   go_wp2_with fail
   go_roundw
   case rel => exact ⟨k + 1, by omega, by simp, by rw [show hi - (k + 1) = n from by have := HN.out; omega]; exact HL.out, HB5.out.1, HB5.out.2⟩
   case measure => simp [intOf]; omega
end Go.Proofs.Ytkmmihadcbfkoaa
end

section
namespace Go.Proofs.Ytkmmihadcbfkoaa
open Go.RowKit Go.Proofs.YtkmmihadcbfkoaaW.PrintWords PM
set_option linter.unusedVariables false
set_option linter.unusedSimpArgs false
def chancesF (fits : List (List Int)) (room : List Int) (ns : Nat) (has : List Int) (find : Nat) : List Int := (fits.getD find []).filter fun s => (withF fits room ns has find s).ok
theorem TGood.later {t : TL} {fits : List (List Int)} {room has : List Int} {w w' : World} (h : TGood t fits room has w) (hb : Below w.heap.size w w') : TGood t fits room has w' :=
 ⟨h.fit, h.st.later (Agree.of_below hb), h.row.below hb, h.len, h.capr, h.caph, h.rooms, h.s0, h.caps⟩
def OneList (l : List Int) (w : World) (e : Ending) (w' : World) : Prop := ∃ v, e = .returned v ∧ Kd.R (Kd.int .i64) 3 w' w.heap.size (fun _ => True) v l ∧ Below w.heap.size w w'
set_option maxRecDepth 100000 in
set_option maxHeartbeats 8000000 in
theorem chances_calls (t : TL) (fits : List (List Int)) (room has : List Int) (find : Nat) (w : World) (hfd : find < t.nh) (hG : TGood t fits room has w) :
  Calls Try.prog 57 #[.pointer (some ⟨t.g, 0, none⟩), .int .i64 find] w (OneList (chancesF fits room t.n1 has find) w) := by
 have hst := hG.st.still
 have f2 := hst.f2
 have hft : find < fits.length := by rw [hG.fit.finds]; exact hfd
 obtain ⟨a2, e2, hx, hC⟩ := hst.fits find hft
 have hcap := hG.caps find hft
 have hrl := hG.fit.row find hft
 have WC : ∀ (s : Int) (W : World), Below w.heap.size w W → Calls Try.prog 67 #[.pointer (some ⟨t.g, 0, none⟩), .int .i64 find, .int .i64 s] W (WithPost (withF fits room t.n1 has find s) W) := fun s W hb => with_calls t fits room has find s W hfd (hG.later hb)
 unfold chancesF
 obtain ⟨row, hrw⟩ : ∃ row, fits.getD find [] = row := ⟨_, rfl⟩
 rw [hrw] at hx hC hcap hrl ⊢
 obtain ⟨p, hp⟩ : ∃ p : Int → WR, (fun s => withF fits room t.n1 has find s) = p := ⟨_, rfl⟩
 have WC : ∀ (s : Int) (W : World), Below w.heap.size w W → Calls Try.prog 67 #[.pointer (some ⟨t.g, 0, none⟩), .int .i64 find, .int .i64 s] W (WithPost (p s) W) := by rw [← hp]; exact WC
 rw [show (fun s => (withF fits room t.n1 has find s).ok) = fun s => (p s).ok from by rw [← hp]]
 rw [e2] at f2
 have lFi : fits.length ≤ 1000 := by rw [hG.fit.finds]; exact hG.fit.nh
 have hlf : (find : Int) < (fits.length : Int) := by omega
 have HC := Go.Lib.hid hC
 clear hG hst hrw hC hp e2
 go_enter Try.func57, Try.ntmps57
 go_wp2_with fail
 go_loopw [5, 22] (fun o i wr => ∃ k : Nat, k ≤ row.length ∧ i = .int .i64 k ∧ Hid (Kd.R (Kd.int .i64) 3 wr w.heap.size (fun _ => True) o ((row.take k).filter fun s => (p s).ok) ∧ Below w.heap.size w wr)) (fun _ i _ => row.length - (intOf i).toNat)
 case atStart => exact ⟨0, Nat.zero_le _, rfl, Kd.R_nil _ _ _ _ _, Below.refl _ _⟩
 obtain ⟨k, hk, rfl, HID⟩ := hrel
 obtain ⟨hR, hbl⟩ := HID.out
 by_cases hlt : k < row.length
 rotate_left
 ·
  obtain rfl : k = row.length := by omega
  rw [List.take_length] at hR
  have HR := Go.Lib.hid (And.intro hR hbl)
  clear hR hbl HID
  go_wp2_with fail
  go_ret
  exact ⟨_, rfl, HR.out.1, HR.out.2⟩
 obtain ⟨a9, e9, x9⟩ := Kd.at_int (Kd.C_below HC.out hbl) (k : Int) (by omega) (by omega)
 rw [Int.toNat_natCast, show rd row (k : Int) = row.getD k 0 from by simp [rd]] at x9
 have htk : row.take (k + 1) = row.take k ++ [row.getD k 0] := by
  rw [List.take_succ_eq_append_getElem hlt]
  simp [List.getD_eq_getElem?_getD, List.getElem?_eq_getElem hlt]
 obtain ⟨s9, hs9⟩ : ∃ s9, row.getD k 0 = s9 := ⟨_, rfl⟩
 rw [hs9] at x9 htk
 have WC9 := WC s9 wr hbl
 unfold WithPost at WC9
 obtain ⟨ok, hok⟩ : ∃ ok, (p s9).ok = ok := ⟨_, rfl⟩
 rw [hok] at WC9
 have hfl : ((row.take k).filter fun s => (p s).ok).length ≤ k := Nat.le_trans (List.length_filter_le _ _) (by simp; omega)
 have HTK := Go.Lib.hid htk
 have HOK := Go.Lib.hid hok
 have HR := Go.Lib.hid hR
 have HBL := Go.Lib.hid hbl
 have e9' := e9
 clear htk hok hR hbl hs9 HID
 rw [e9'] at *
 go_wp2_with fail
 refine WC9.mono ?_
 clear WC9
 rintro e w1 ⟨v1, rfl, _, hb1⟩
 have hB1 := HBL.out.trans (hb1.mono HBL.out.size)
 have hR1 : Kd.R (Kd.int .i64) 3 w1 w.heap.size (fun _ => True) u5 ((row.take k).filter fun s => (p s).ok) := Kd.R_of_own (enc := Value.int .i64) (h1 := fun _ => rfl) (ok := fun _ => True) (pw_own_below (Kd.own_of_R HR.out) hb1) (fun _ _ => trivial)
 have HR1 := Go.Lib.hid hR1
 have HB1 := Go.Lib.hid hB1
 clear hb1 hB1 hR1
 cases ok with
 | true =>
  go_wp2_with (first | (at_builtin; refine Kd.R_append (Kd.int .i64) (w0 := w) w.heap.size rfl (.tmp 34) (.tmp 36) 22 3 (.int .i64 0) 8 rfl Try.underlying22 info3 rfl (by decide) (by omega) u5 ((row.take k).filter fun s => (p s).ok) s9 [.int .i64 s9] (fun _ => True) (fun _ => False) rfl rfl rfl (fun _ hk => hk.elim) (fun _ _ => trivial) HR1.out HB1.out HB1.out.size (by omega) ?_; intro v5 w5 hR5 hB5 _ _; have HR5 := Go.Lib.hid hR5; have HB5 := Go.Lib.hid hB5; clear hR5 hB5))
  go_roundw
  case rel => exact ⟨k + 1, by omega, by simp, by rw [HTK.out, List.filter_append]; simpa [HOK.out] using HR5.out, HB5.out⟩
  case measure => simp [intOf]; omega
 | false =>
  go_wp2_with fail
  go_roundw
  case rel => exact ⟨k + 1, by omega, by simp, by rw [HTK.out, List.filter_append]; simpa [HOK.out] using HR1.out, HB1.out⟩
  case measure => simp [intOf]; omega
end Go.Proofs.Ytkmmihadcbfkoaa
end

section
namespace Go.Proofs.Ytkmmihadcbfkoaa
open Go.RowKit Go.Proofs.YtkmmihadcbfkoaaW.PrintWords PM
set_option linter.unusedVariables false
set_option linter.unusedSimpArgs false
def allChances (F : List Int) (S : List S50) (T : List (List Int)) : List (List Int) := (List.range F.length).map fun f => chancesF T (rooms S) S.length (hasF F S T) f
def PM.match_Chances.f (F : List Int) (S : List S50) (T : List (List Int)) : Option (List (List Int) × Int) :=
 if checkB F S T ≠ 0 then some ([], checkB F S T) else if isF F S T = false then some ([], 40) else some (allChances F S T, 0)
theorem good_of_in {F : List Int} {S : List S50} {T : List (List Int)} {b0 : Nat} {t : TL} {has : List Int} {w : World} {A : Option Addr} {n c : Nat} (hcb : checkB F S T = 0) (h : TIn b0 t T (rooms S) has w) (h1 : t.n1 = S.length) (h0 : t.s0 = .slice A n c) : TGood t T (rooms S) has w :=
 ⟨h.fit, h.st, h.row, h.len, h.capr, h.caph, fun i hi => room_bound hcb i (by omega), ⟨A, n, c, h0⟩, h.caps⟩
set_option maxRecDepth 100000 in
set_option maxHeartbeats 8000000 in
theorem PM.match_Chances.calls (A0 : Option Addr) (c0 : Nat) (F : List Int) (A1 : Option Addr) (c1 : Nat) (S : List S50) (A2 : Option Addr) (c2 : Nat) (T : List (List Int)) (r1 : List (List Int)) (r2 : Int) (w : World)
  (hr0 : Kd.C (Kd.int .i64) w A0 F.length F) (hc0 : F.length ≤ c0) (hr1 : Kd.C k50 w A1 S.length S) (hc1 : S.length ≤ c1) (hr2 : Kd.C (Kd.slice 3 (Kd.int .i64)) w A2 T.length T) (hc2 : T.length ≤ c2) (h : match_Chances.f F S T = some (r1, r2)) :
  Calls Try.prog 16 #[.agg #[.slice A0 F.length c0, .slice A1 S.length c1, .slice A2 T.length c2]] w fun e w' => ∃ v0_ : Value, e = .returned (.tuple #[v0_, .int .i64 r2]) ∧ Kd.S (Kd.slice 3 (Kd.int .i64)) 22 w' w.heap.size (fun _ => True) v0_ r1 ∧ Below w.heap.size w w' := by
 have hB0 := (Below.refl w.heap.size w).alloc (Nat.le_refl _) (.cells #[.slice A0 F.length c0, .slice A1 S.length c1, .slice A2 T.length c2] 26)
 have CB := checkboard_calls A0 c0 F A1 c1 S A2 c2 T _ (Kd.C_below hr0 hB0) hc0 (Kd.C_below hr1 hB0) (Kd.C_below hr2 hB0)
 unfold match_Chances.f at h
 obtain ⟨q, hq⟩ : ∃ q, checkB F S T = q := ⟨_, rfl⟩
 rw [hq] at h CB
 have HB0 := Go.Lib.hid hB0
 have HR := Go.Lib.hid (And.intro hr1 hr2)
 have HQ := Go.Lib.hid hq
 have HH := Go.Lib.hid h
 clear hr0 hr1 hr2 hB0 hq h
 go_enter Try.func16, Try.ntmps16
 go_wp2_with fail
 refine CB.mono ?_
 clear CB
 rintro e w1 ⟨rfl, hB1⟩
 have b1 : w1.heap[w.heap.size]? = some (.cells #[.slice A0 F.length c0, .slice A1 S.length c1, .slice A2 T.length c2] 26 (0, 0)) := by
  rw [hB1.block w.heap.size (by simp)]
  exact World.alloc_heap_new w _
 have hW1 : Below w.heap.size w w1 := HB0.out.trans (hB1.mono HB0.out.size)
 have k0 := cell_of_heap b1 (j := 0) rfl
 have k1 := cell_of_heap b1 (j := 1) rfl
 have k2 := cell_of_heap b1 (j := 2) rfl
 have HW1 := Go.Lib.hid hW1
 have BX1 := Go.Lib.hid b1
 clear hB1 b1 hW1
 by_cases hq0 : q = 0
 rotate_left
 ·
  have g9 : decide (q = 0) = false := by simpa using hq0
  have hf := HH.out
  rw [if_pos hq0] at hf
  injection hf with hf
  injection hf with hf1 hf2
  subst hf1 hf2
  go_wp2_with fail
  go_ret2
  exact ⟨_, rfl, Kd.S_nil _ _ _ _ _, HW1.out⟩
 subst hq0
 have hcb := HQ.out
 have hk := bok_of_check hcb
 have hf := HH.out
 rw [if_neg (by simp)] at hf
 have HK := Go.Lib.hid hk
 have HCB := Go.Lib.hid hcb
 have lF : F.length ≤ 60 := hk.nf
 clear HH HQ hk hcb
 cases hok : isF F S T with
 | false =>
  have MC := matched_no A0 c0 F A1 c1 S A2 c2 T w1 HK.out (Kd.C_below HR.out.1 HW1.out) (Kd.C_below HR.out.2 HW1.out) hok
  rw [if_pos hok] at hf
  injection hf with hf
  injection hf with hf1 hf2
  subst hf1 hf2
  clear hok
  go_wp2_with fail
  refine MC.mono ?_
  clear MC
  rintro e w2 ⟨rfl, hB2⟩
  have HB2 := Go.Lib.hid (HW1.out.trans (hB2.mono HW1.out.size))
  clear hB2
  go_wp2_with fail
  go_ret2
  exact ⟨_, rfl, Kd.S_nil _ _ _ _ _, HB2.out⟩
 | true =>
  have MC := matched_yes A0 c0 F A1 c1 S A2 c2 T w1 HK.out (Kd.C_below HR.out.1 HW1.out) (Kd.C_below HR.out.2 HW1.out) hok
  rw [if_neg (by rw [hok]; simp)] at hf
  injection hf with hf
  injection hf with hf1 hf2
  subst hf2
  have HF1 := Go.Lib.hid hf1
  clear hok hf1
  go_wp2_with fail
  refine MC.mono ?_
  clear MC
  rintro e w2 ⟨t, rfl, en1, enh, es0, hT, hB2⟩
  have hW2 := HW1.out.trans (hB2.mono HW1.out.size)
  have b2 := (hB2.block w.heap.size (Array.getElem?_eq_some_iff.1 BX1.out).1).trans BX1.out
  have k0 := cell_of_heap b2 (j := 0) rfl
  have hG := good_of_in HCB.out hT en1 es0
  have CH : ∀ (f : Nat) (W : World), f < F.length → Below w2.heap.size w2 W → Calls Try.prog 57 #[.pointer (some ⟨t.g, 0, none⟩), .int .i64 f] W (OneList (chancesF T (rooms S) S.length (hasF F S T) f) W) := fun f W hf hb => by
   have := chances_calls t T (rooms S) (hasF F S T) f W (by omega) (hG.later hb)
   rwa [en1] at this
  have HW2 := Go.Lib.hid hW2
  clear hB2 hW2 b2 hG hT en1 enh es0
  go_wp2_with fail
  go_loopw [7, 25] (fun o i wr => ∃ k : Nat, k ≤ F.length ∧ i = .int .i64 k ∧ Hid (Kd.S (Kd.slice 3 (Kd.int .i64)) 22 wr w2.heap.size (fun _ => True) o ((List.range k).map fun f => chancesF T (rooms S) S.length (hasF F S T) f) ∧ Below w2.heap.size w2 wr)) (fun _ i _ => F.length - (intOf i).toNat)
  case atStart => exact ⟨0, Nat.zero_le _, rfl, Kd.S_nil _ _ _ _ _, Below.refl _ _⟩
  obtain ⟨k, hk, rfl, HID⟩ := hrel
  obtain ⟨hS, hbl⟩ := HID.out
  by_cases hlt : k < F.length
  rotate_left
  ·
   obtain rfl : k = F.length := by omega
   have HS := Go.Lib.hid hS
   have HBL := Go.Lib.hid hbl
   clear hS hbl HID
   go_wp2_with fail
   go_ret2
   exact ⟨_, rfl, by rw [← HF1.out]; exact Kd.S_lower HS.out HW2.out.size, HW2.out.trans (HBL.out.mono HW2.out.size)⟩
  have C9 := CH k wr hlt hbl
  have HS := Go.Lib.hid hS
  have HBL := Go.Lib.hid hbl
  have hll : ((List.range k).map fun f => chancesF T (rooms S) S.length (hasF F S T) f).length = k := by simp
  have HLL := Go.Lib.hid hll
  clear hS hbl HID hll
  go_wp2_with fail
  refine C9.mono ?_
  clear C9
  rintro e w3 ⟨v3, rfl, hR3, hb3⟩
  obtain ⟨A3, c3, rfl, _, _⟩ := Kd.R_reads hR3
  have hB3 := HBL.out.trans (hb3.mono HBL.out.size)
  have hBw := hB3
  have hS3 := Kd.S_old HS.out hb3
  have hne : ∀ q, some q = (Value.slice A3 (chancesF T (rooms S) S.length (hasF F S T) k).length c3).ownBlock → wr.heap.size ≤ q := fun q hq => own_base (Kd.own_of_R hR3) q hq.symm
  have hult := Kd.S_lt HS.out
  have hM : (Kd.slice 3 (Kd.int .i64)).M w3 w2.heap.size (fun q => some q = (Value.slice A3 (chancesF T (rooms S) S.length (hasF F S T) k).length c3).ownBlock) (chancesF T (rooms S) S.length (hasF F S T) k) [.slice A3 (chancesF T (rooms S) S.length (hasF F S T) k).length c3] :=
   Kd.M_row (Kd.R_lower (Kd.R_tight rfl hR3) HBL.out.size)
  have hS4 := Kd.S_mono (ok' := fun q => True ∧ ¬ some q = (Value.slice A3 (chancesF T (rooms S) S.length (hasF F S T) k).length c3).ownBlock) hS3 (fun q hq => ⟨trivial, fun e => by have := hne q e; omega⟩)
  have hokp : ∀ q, some q = (Value.slice A3 (chancesF T (rooms S) S.length (hasF F S T) k).length c3).ownBlock → True ∧ some q ≠ u7.ownBlock := fun q hq => ⟨trivial, fun e => by have := hne q hq; have := hult q e.symm; omega⟩
  have HP := Go.Lib.hid (And.intro hM (And.intro hS4 (And.intro hokp (And.intro hB3 hBw))))
  clear hM hS4 hokp hB3 hBw hne hult hS3 hb3 hR3
  go_wp2_with (first | (at_builtin; refine Kd.S_append (Kd.slice 3 (Kd.int .i64)) (w0 := w2) w2.heap.size rfl (.tmp 28) (.tmp 32) 24 22 (.slice none 0 0) 24 rfl Try.underlying24 info22 rfl (by decide) (by omega) u7 ((List.range k).map fun f => chancesF T (rooms S) S.length (hasF F S T) f) (chancesF T (rooms S) S.length (hasF F S T) k) [.slice A3 (chancesF T (rooms S) S.length (hasF F S T) k).length c3] (fun _ => True) (fun q => some q = (Value.slice A3 (chancesF T (rooms S) S.length (hasF F S T) k).length c3).ownBlock) rfl rfl HP.out.1 HP.out.2.2.1 (fun _ _ => trivial) HP.out.2.1 HP.out.2.2.2.2 HP.out.2.2.2.2.size (by rw [HLL.out]; omega) ?_; intro v5 w5 hR5 hB5 hg5 hat5; have HR5 := Go.Lib.hid hR5; have HB5 := Go.Lib.hid hB5; have HG5 := Go.Lib.hid (And.intro hg5 hat5); clear hR5 hB5 hg5 hat5))
  go_roundw
  case rel => exact ⟨k + 1, by omega, by simp, by rw [List.range_succ, List.map_append]; exact HR5.out, HB5.out⟩
  case measure => simp [intOf]; omega
end Go.Proofs.Ytkmmihadcbfkoaa
end

section
namespace Go.Proofs.Ytkmmihadcbfkoaa.PM
open Go.RowKit Go.Proofs.YtkmmihadcbfkoaaW.PrintWords Go.Proofs.YtkmmihadcbfkoaaW.PrintLast Go.Proofs.YtkmmihadcbfkoaaW.PrintMore
set_option linter.unusedVariables false
set_option linter.unusedSimpArgs false
def match_Must.l0 : Nat → List Int → List (List Int) → Int → Int → Option (List Int × Int)
 | 0, _, _, _, _ => none
 | k + 1, x6, x18, x19, x20 => if x20 < x19 then (if 0 ≤ x20 then (if x20 < (x18.length : Int) then (if ((rd_L1 x18 x20).length : Int) = 1 then (if 0 < ((rd_L1 x18 x20).length : Int) then (if x6.length < 17592186044416 then (match_Must.l0 k (x6 ++ [rd (rd_L1 x18 x20) 0]) x18 x19 (wrap64 (x20 + 1))) else (none)) else (none)) else (if x6.length < 17592186044416 then (match_Must.l0 k (x6 ++ [(-1)]) x18 x19 (wrap64 (x20 + 1))) else (none))) else (none)) else (none)) else (some (x6, 0))
def match_Must.f (k : Nat) (l0_0 : List Int) (l0_1 : List (S50)) (l0_2 : List (List Int)) : Option (List Int × Int) := (match_Chances.f l0_0 l0_1 l0_2).bind fun bt115 => (if bt115.2 = 0 then (match_Must.l0 k ([] : List Int) bt115.1 (bt115.1.length : Int) 0) else (some (([] : List Int), bt115.2)))
set_option maxHeartbeats 8000000 in
set_option maxRecDepth 100000 in
theorem match_Must.calls (k : Nat) (A0_0 : Option Addr) (c0_0 : Nat) (l0_0 : List Int) (A0_1 : Option Addr) (c0_1 : Nat) (l0_1 : List (S50)) (A0_2 : Option Addr) (c0_2 : Nat) (l0_2 : List (List Int)) (r1 : List Int) (r2 : Int) (w : World) (hr0_0 : Kd.C (Kd.int .i64) w A0_0 l0_0.length l0_0) (hc0_0 : l0_0.length ≤ c0_0) (hr0_1 : Kd.C k50 w A0_1 l0_1.length l0_1) (hc0_1 : l0_1.length ≤ c0_1) (hr0_2 : Kd.C (Kd.slice 3 (Kd.int .i64)) w A0_2 l0_2.length l0_2) (hc0_2 : l0_2.length ≤ c0_2) (h : match_Must.f k l0_0 l0_1 l0_2 = some (r1, r2)) :
  Calls Try.prog 17 #[.agg #[.slice A0_0 l0_0.length c0_0, .slice A0_1 l0_1.length c0_1, .slice A0_2 l0_2.length c0_2]] w fun e w' => ∃ v0_ : Value, e = .returned (.tuple #[v0_, .int .i64 r2]) ∧ Kd.R (Kd.int .i64) 3 w' w.heap.size (fun _ => True) v0_ r1 ∧ Below w.heap.size w w' := by
 have hu26 := Try.underlying26
 have HR0_0 := Aside0.mk hr0_0
 have HC0_0 := Aside0.mk hc0_0
 clear hr0_0 hc0_0
 have HR0_1 := Aside0.mk hr0_1
 have HC0_1 := Aside0.mk hc0_1
 clear hr0_1 hc0_1
 have HR0_2 := Aside0.mk hr0_2
 have HC0_2 := Aside0.mk hc0_2
 clear hr0_2 hc0_2
 have HB := Aside0.mk (Below.refl w.heap.size w)
 have H : ((match_Chances.f l0_0 l0_1 l0_2).bind fun bt115 => (if bt115.2 = 0 then (match_Must.l0 k ([] : List Int) bt115.1 (bt115.1.length : Int) 0) else (some (([] : List Int), bt115.2)))) = some (r1, r2) := h
 clear h
 replace H := Option.bind_eq_some_iff.mp H
 obtain ⟨⟨t115, t118⟩, A20, H⟩ := H
 replace H : (if t118 = 0 then (match_Must.l0 k ([] : List Int) t115 (t115.length : Int) 0) else (some (([] : List Int), t118))) = some (r1, r2) := H
 have A2 := Aside0.mk A20
 clear A20
 by_cases c3 : t118 = 0
 rotate_left
 ·
  rw [if_neg c3] at H
  have c3b0 : (t118 == 0) = false := beq_eq_false_iff_ne.mpr c3
  have c3b1 : (t118 != 0) = true := bne_iff_ne.mpr c3
  simp only [Option.some.injEq, Prod.mk.injEq] at H
  obtain ⟨rfl, rfl⟩ := H
  go_enter Try.func17, Try.ntmps17
  go_wp2_with (first | ((with_reducible refine gate_dst (N := 1) rfl ?_); refine box_event ?hg (N := 1) ?hd (cs := #[.slice A0_0 l0_0.length c0_0, .slice A0_1 l0_1.length c0_1, .slice A0_2 l0_2.length c0_2]) (t := 26) ?hr ?_; (case hd => rfl); (case hg => rfl); (case hr => first | (go_simp; done) | (go_simp; rfl)); intro gb114 hg w17 hbox hb; have n0_ := Aside0.mk (below_step (by repeat (first | (with_reducible first | exact HB.out | apply below_alloc | apply pw_below_drewN | apply below_drew1) | exact HB.out)) hb); have n1_ := Aside0.mk (hbox); have n2_ := Aside0.mk ((by rw [hg]; exact (below_size (by repeat (first | (with_reducible first | exact HB.out | apply below_alloc | apply pw_below_drewN | apply below_drew1) | exact HB.out))) : w.heap.size ≤ gb114)); have n3_ := Aside0.mk ((by rw [hg]; exact (below_size (by repeat (first | (with_reducible first | exact HB.out | apply below_alloc | apply pw_below_drewN | apply below_drew1) | exact HB.out))) : w.heap.size ≤ gb114)); clear HB; have HB := n0_; have BK114 := n1_; have GW114 := n2_; have GE114 := n3_; clear n0_ n1_ n2_ n3_; clear hb hbox hg; have hcz18_0 : w17.cell? ⟨gb114, 0, none⟩ = some (.slice A0_0 l0_0.length c0_0) := (blk_cell BK114.out 0).trans rfl; have hcz18_1 : w17.cell? ⟨gb114, 1, none⟩ = some (.slice A0_1 l0_1.length c0_1) := (blk_cell BK114.out 1).trans rfl; have hcz18_2 : w17.cell? ⟨gb114, 2, none⟩ = some (.slice A0_2 l0_2.length c0_2) := (blk_cell BK114.out 2).trans rfl; have hfz18_0 := blk_frozen BK114.out 0; have hfz18_1 := blk_frozen BK114.out 1; have hfz18_2 := blk_frozen BK114.out 2) | ((with_reducible refine gate_callee (f := 16) rfl ?_); refine goesL_ (some 12) rfl rfl Try.func16 (by kernel_rfl) rfl #[.agg #[.slice A0_0 l0_0.length c0_0, .slice A0_1 l0_1.length c0_1, .slice A0_2 l0_2.length c0_2]] rfl (by (try simp only [List.map_toArray, List.map_cons, List.map_nil]); first | done | rfl | (simp only [List.length_drop, List.length_take]; rfl)) ?_; (with_reducible refine (match_Chances.calls _ _ l0_0 _ _ l0_1 _ _ l0_2 t115 t118 _ ?side1 ?side2 ?side3 ?side4 ?side5 ?side6 A2.out).mono ?_); (case side1 => repeat (first | exact (Kd.C_below HR0_0.out HB.out) | (with_reducible refine Kd.C_alloc ?_ _) | (with_reducible refine Kd.C_drewN ?_ _) | (with_reducible refine Kd.C_drew ?_))); (case side2 => exact HC0_0.out); (case side3 => repeat (first | exact (Kd.C_below HR0_1.out HB.out) | (with_reducible refine Kd.C_alloc ?_ _) | (with_reducible refine Kd.C_drewN ?_ _) | (with_reducible refine Kd.C_drew ?_))); (case side4 => exact HC0_1.out); (case side5 => repeat (first | exact (Kd.C_below HR0_2.out HB.out) | (with_reducible refine Kd.C_alloc ?_ _) | (with_reducible refine Kd.C_drewN ?_ _) | (with_reducible refine Kd.C_drew ?_))); (case side6 => exact HC0_2.out); rintro e w19 ⟨v116, rfl, ho0, hb⟩; refine ⟨_, rfl, ?_⟩; have n0_ := Aside0.mk (Kd.S_lower ho0 (below_size (by repeat (first | (with_reducible first | exact HB.out | apply below_alloc | apply pw_below_drewN | apply below_drew1 | refine below_set ?_ GE114.out) | exact HB.out)))); have n1_ := Aside0.mk (blk_below (g := gb114) (o := .cells #[.slice A0_0 l0_0.length c0_0, .slice A0_1 l0_1.length c0_1, .slice A0_2 l0_2.length c0_2] 26 (0, 0)) (by (with_reducible repeat (first | refine blk_drewN ?_ _ | refine blk_drew ?_ | refine blk_alloc ?_ _)); exact BK114.out) hb); have n2_ := Aside0.mk (below_step (by repeat (first | (with_reducible first | exact HB.out | apply below_alloc | apply pw_below_drewN | apply below_drew1 | refine below_set ?_ GE114.out) | exact HB.out)) hb); clear BK114; clear HB; have HO117 := n0_; have BK114 := n1_; have HB := n2_; clear n0_ n1_ n2_; (try clear hb); (try clear hb2); (try clear hk); (try clear hi); (try clear ho0)))
  go_ret2
  exact ⟨_, by first | rfl | (simp [errW_none, errW_some] <;> rfl) | (simp [*, errW_none, errW_some] <;> rfl), by first | exact Kd.R_nil _ _ _ _ _ | exact Kd.N_nil _ _ _ _ _ | exact Kd.V_nil _ _ _ _ _ | exact Kd.Q_nil _ _ _ _ _ | exact Kd.S_nil _ _ _ _ _, by repeat (first | (with_reducible first | exact HB.out | apply below_alloc | apply pw_below_drewN | apply below_drew1 | refine below_set ?_ GE114.out) | exact HB.out)⟩
 rw [if_pos c3] at H
 have c3b0 : (t118 == 0) = true := beq_iff_eq.mpr c3
 have c3b1 : (t118 != 0) = false := bne_eq_false_iff_eq.mpr c3
 clear c3
 have H' := Aside0.mk H
 clear H
 go_enter Try.func17, Try.ntmps17
 go_wp2_with (first | ((with_reducible refine gate_dst (N := 1) rfl ?_); refine box_event ?hg (N := 1) ?hd (cs := #[.slice A0_0 l0_0.length c0_0, .slice A0_1 l0_1.length c0_1, .slice A0_2 l0_2.length c0_2]) (t := 26) ?hr ?_; (case hd => rfl); (case hg => rfl); (case hr => first | (go_simp; done) | (go_simp; rfl)); intro gb114 hg w4 hbox hb; have n0_ := Aside0.mk (below_step (by repeat (first | (with_reducible first | exact HB.out | apply below_alloc | apply pw_below_drewN | apply below_drew1) | exact HB.out)) hb); have n1_ := Aside0.mk (hbox); have n2_ := Aside0.mk ((by rw [hg]; exact (below_size (by repeat (first | (with_reducible first | exact HB.out | apply below_alloc | apply pw_below_drewN | apply below_drew1) | exact HB.out))) : w.heap.size ≤ gb114)); have n3_ := Aside0.mk ((by rw [hg]; exact (below_size (by repeat (first | (with_reducible first | exact HB.out | apply below_alloc | apply pw_below_drewN | apply below_drew1) | exact HB.out))) : w.heap.size ≤ gb114)); clear HB; have HB := n0_; have BK114 := n1_; have GW114 := n2_; have GE114 := n3_; clear n0_ n1_ n2_ n3_; clear hb hbox hg; have hcz5_0 : w4.cell? ⟨gb114, 0, none⟩ = some (.slice A0_0 l0_0.length c0_0) := (blk_cell BK114.out 0).trans rfl; have hcz5_1 : w4.cell? ⟨gb114, 1, none⟩ = some (.slice A0_1 l0_1.length c0_1) := (blk_cell BK114.out 1).trans rfl; have hcz5_2 : w4.cell? ⟨gb114, 2, none⟩ = some (.slice A0_2 l0_2.length c0_2) := (blk_cell BK114.out 2).trans rfl; have hfz5_0 := blk_frozen BK114.out 0; have hfz5_1 := blk_frozen BK114.out 1; have hfz5_2 := blk_frozen BK114.out 2) | ((with_reducible refine gate_callee (f := 16) rfl ?_); refine goesL_ (some 12) rfl rfl Try.func16 (by kernel_rfl) rfl #[.agg #[.slice A0_0 l0_0.length c0_0, .slice A0_1 l0_1.length c0_1, .slice A0_2 l0_2.length c0_2]] rfl (by (try simp only [List.map_toArray, List.map_cons, List.map_nil]); first | done | rfl | (simp only [List.length_drop, List.length_take]; rfl)) ?_; (with_reducible refine (match_Chances.calls _ _ l0_0 _ _ l0_1 _ _ l0_2 t115 t118 _ ?side1 ?side2 ?side3 ?side4 ?side5 ?side6 A2.out).mono ?_); (case side1 => repeat (first | exact (Kd.C_below HR0_0.out HB.out) | (with_reducible refine Kd.C_alloc ?_ _) | (with_reducible refine Kd.C_drewN ?_ _) | (with_reducible refine Kd.C_drew ?_))); (case side2 => exact HC0_0.out); (case side3 => repeat (first | exact (Kd.C_below HR0_1.out HB.out) | (with_reducible refine Kd.C_alloc ?_ _) | (with_reducible refine Kd.C_drewN ?_ _) | (with_reducible refine Kd.C_drew ?_))); (case side4 => exact HC0_1.out); (case side5 => repeat (first | exact (Kd.C_below HR0_2.out HB.out) | (with_reducible refine Kd.C_alloc ?_ _) | (with_reducible refine Kd.C_drewN ?_ _) | (with_reducible refine Kd.C_drew ?_))); (case side6 => exact HC0_2.out); rintro e w6 ⟨v116, rfl, ho0, hb⟩; refine ⟨_, rfl, ?_⟩; have n0_ := Aside0.mk (Kd.S_lower ho0 (below_size (by repeat (first | (with_reducible first | exact HB.out | apply below_alloc | apply pw_below_drewN | apply below_drew1 | refine below_set ?_ GE114.out) | exact HB.out)))); have n1_ := Aside0.mk (blk_below (g := gb114) (o := .cells #[.slice A0_0 l0_0.length c0_0, .slice A0_1 l0_1.length c0_1, .slice A0_2 l0_2.length c0_2] 26 (0, 0)) (by (with_reducible repeat (first | refine blk_drewN ?_ _ | refine blk_drew ?_ | refine blk_alloc ?_ _)); exact BK114.out) hb); have n2_ := Aside0.mk (below_step (by repeat (first | (with_reducible first | exact HB.out | apply below_alloc | apply pw_below_drewN | apply below_drew1 | refine below_set ?_ GE114.out) | exact HB.out)) hb); clear BK114; clear HB; have HO117 := n0_; have BK114 := n1_; have HB := n2_; clear n0_ n1_ n2_; (try clear hb); (try clear hb2); (try clear hk); (try clear hi); (try clear ho0); obtain ⟨Ao7, co7, eo7⟩ := Kd.S_slice HO117.out; subst eo7))
 go_loopg [6, 20] k (fun kq v6 v20 w' => ∃ (x6_1 : List Int) (x20_1 : Int), v20 = .int .i64 x20_1 ∧ Aside0 (match_Must.l0 kq x6_1 t115 (t115.length : Int) x20_1 = some (r1, r2)) ∧ Aside0 (kq ≤ k) ∧ Aside0 (Kd.R (Kd.int .i64) 3 w' w.heap.size (fun _ => True) v6 x6_1) ∧ Aside0 (Kd.S (Kd.slice 3 (Kd.int .i64)) 22 w' w.heap.size (fun k_ => some k_ ≠ (v6 : Value).ownBlock) (.slice Ao7 t115.length co7) t115) ∧ Aside0 (w'.heap[gb114]? = some (.cells #[(.slice A0_0 l0_0.length c0_0), (.slice A0_1 l0_1.length c0_1), (.slice A0_2 l0_2.length c0_2)] 26 (0, 0))) ∧ Aside0 (Below w.heap.size w w'))
 case atStart => exact ⟨(([] : List Int)), (0), (by first | rfl | (simp; done) | (simp [*]; done)), H', ⟨Nat.le_refl _⟩, ⟨by first | exact Kd.R_nil _ _ _ _ _ | exact Kd.N_nil _ _ _ _ _ | exact Kd.V_nil _ _ _ _ _ | exact Kd.Q_nil _ _ _ _ _ | exact Kd.S_nil _ _ _ _ _⟩, ⟨by (with_reducible repeat (first | apply Kd.S_alloc | apply Kd.S_drewN | apply Kd.S_drew)); exact Kd.S_mono HO117.out (fun _ hk => (by simp [Value.ownBlock]))⟩, ⟨by (with_reducible repeat (first | refine blk_drewN ?_ _ | refine blk_drew ?_ | refine blk_alloc ?_ _)); exact BK114.out⟩, ⟨by repeat (first | (with_reducible first | exact HB.out | apply below_alloc | apply pw_below_drewN | apply below_drew1 | refine below_set ?_ GE114.out) | exact HB.out)⟩⟩
 clear H'
 try clear c1
 try clear p2
 try clear c3
 try clear c3b0
 try clear c3b1
 try clear hcz5_0
 try clear hcz5_1
 try clear hcz5_2
 try clear hfz5_0
 try clear hfz5_1
 try clear hfz5_2
 obtain ⟨x6_1, x20_1, rfl, HA, HK1, HO_6, HO_18, BK114, HB⟩ := hrel
 cases gk with
 | zero => exact absurd HA.out (by simp [match_Must.l0])
 | succ k1 =>
  have H := HA.out
  clear HA
  simp only [match_Must.l0] at H
  by_cases c8 : x20_1 < (t115.length : Int)
  rotate_left
  ·
   rw [if_neg c8] at H
   have c8b0 : decide (x20_1 < (t115.length : Int)) = false := decide_eq_false c8
   clear c8
   simp only [Option.some.injEq, Prod.mk.injEq] at H
   obtain ⟨rfl, rfl⟩ := H
   go_wp2
   go_ret2
   exact ⟨_, by first | rfl | (simp [errW_none, errW_some] <;> rfl) | (simp [*, errW_none, errW_some] <;> rfl), by (with_reducible repeat (first | apply Kd.R_alloc | apply Kd.R_drewN | apply Kd.R_drew)); exact HO_6.out, by repeat (first | (with_reducible first | exact HB.out | apply below_alloc | apply pw_below_drewN | apply below_drew1 | refine below_set ?_ GE114.out) | exact HB.out)⟩
  rw [if_pos c8] at H
  have c8b0 : decide (x20_1 < (t115.length : Int)) = true := decide_eq_true c8
  clear c8
  by_cases c9 : 0 ≤ x20_1
  rotate_left
  ·
   rw [if_neg c9] at H
   exact absurd H (by simp)
  rw [if_pos c9] at H
  have c9b0 : decide (0 ≤ x20_1) = true := decide_eq_true c9
  clear c9
  by_cases c10 : x20_1 < (t115.length : Int)
  rotate_left
  ·
   rw [if_neg c10] at H
   exact absurd H (by simp)
  rw [if_pos c10] at H
  have c10b0 : decide (x20_1 < (t115.length : Int)) = true := decide_eq_true c10
  clear c10
  by_cases c11 : ((rd_L1 t115 x20_1).length : Int) = 1
  rotate_left
  ·
   rw [if_neg c11] at H
   have c11b0 : (((rd_L1 t115 x20_1).length : Int) == 1) = false := beq_eq_false_iff_ne.mpr c11
   have c11b1 : (((rd_L1 t115 x20_1).length : Int) != 1) = true := bne_iff_ne.mpr c11
   by_cases c15 : x6_1.length < 17592186044416
   rotate_left
   ·
    rw [if_neg c15] at H
    exact absurd H (by simp)
   rw [if_pos c15] at H
   have LMc15 := Aside0.mk c15
   clear c15
   obtain ⟨y124, hy124⟩ : ∃ y_ : List Int, y_ = (x6_1 ++ [(-1)]) := ⟨_, rfl⟩
   replace H : (match_Must.l0 k1 y124 t115 (t115.length : Int) (wrap64 (x20_1 + 1))) = some (r1, r2) := by first | (rw [hy124]; with_reducible exact H) | (have H2_ := (Option.bind_some _ _).symm.trans H; rw [hy124]; with_reducible exact H2_) | (have H2_ := (Option.bind_some _ _).symm.trans H; with_reducible exact H2_) | with_reducible exact H | (rw [hy124]; exact H) | exact H
   have Ny124 := Aside0.mk hy124
   clear hy124
   have H' := Aside0.mk H
   clear H
   have p119 : 0 ≤ (x20_1 : Int) := of_decide_eq_true (by first | (with_reducible assumption) | assumption)
   have q119 : x20_1 < (t115.length : Int) := of_decide_eq_true (by first | (with_reducible assumption) | assumption)
   obtain ⟨ad119, A119_0, c119_0, e119, hx119_0, hl119_0, hi119_0⟩ := at_L1 (Kd.S_reads' HO_18.out).2.2 x20_1 p119 q119
   cases e119
   obtain ⟨ce119, hce119, hMe119, hcc119⟩ := Kd.S_get HO_18.out [] x20_1 p119 (by first | exact q119 | exact of_decide_eq_true (by first | (with_reducible assumption) | assumption) | (have e_ := (Kd.S_reads' HO_18.out).1; omega))
   obtain ⟨ve119_0, rfl, ge119_0⟩ := hMe119
   have hv119_0 := hcc119 0 _ rfl
   rw [Nat.add_zero, show ((Kd.slice 3 (Kd.int .i64))).sz = 1 from rfl, Nat.mul_one] at hv119_0
   replace hv119_0 := Option.some.inj (hv119_0.symm.trans hx119_0)
   rw [hv119_0] at ge119_0
   have HL119_0 := Aside0.mk (show Kd.R (Kd.int .i64) 3 _ _ _ _ (rd_L1 t115 x20_1) from ge119_0)
   clear hv119_0 ge119_0
   clear hcc119 hce119
   have HR119_0 := Aside0.mk hi119_0
   have HC119_0 := Aside0.mk hl119_0
   clear hi119_0 hl119_0
   replace p119 := eq_true p119
   replace q119 := eq_true q119
   go_wp2_with (first | ((with_reducible refine gate_builtin (b := .append) (xs := #[.tmp 30, .tmp 32]) rfl ?_); at_builtin; refine Kd.R_append (Kd.int .i64) (w0 := w) w.heap.size rfl (.tmp 30) (.tmp 32) 22 3 (.int .i64 0) 8 rfl Try.underlying22 info3 rfl (by decide) (by omega) u6 x6_1 (-1) [.int .i64 (-1)] (fun _ => True) (fun _ => False) rfl rfl ?aP (fun _ hk => hk.elim) ?aF ?aO ?aB ?aS ?aL ?_; (case aP => exact rfl); (case aB => exact (by repeat (first | (with_reducible first | exact HB.out | apply below_alloc | apply pw_below_drewN | apply below_drew1 | refine below_set ?_ GE114.out) | exact HB.out))); (case aF => exact (fun _ _ => trivial)); (case aO => exact (by (with_reducible repeat (first | apply Kd.R_alloc | apply Kd.R_drewN | apply Kd.R_drew)); exact HO_6.out)); (case aS => exact (below_size (by repeat (first | (with_reducible first | exact HB.out | apply below_alloc | apply pw_below_drewN | apply below_drew1 | refine below_set ?_ GE114.out) | exact HB.out)))); (case aL => have := LMc15.out; omega); intro v125 w16 ho hb hg hat; rw [← Ny124.out] at ho; have n0_ := Aside0.mk (Kd.S_after (ok := (fun _ => True)) (by (with_reducible repeat (first | apply Kd.S_alloc | apply Kd.S_drewN | apply Kd.S_drew)); exact Kd.S_mono HO_18.out (fun _ hk => ⟨trivial, hk⟩)) hg hat); have n1_ := Aside0.mk (blk_grown (g := gb114) (o := .cells #[.slice A0_0 l0_0.length c0_0, .slice A0_1 l0_1.length c0_1, .slice A0_2 l0_2.length c0_2] 26 (0, 0)) (by (with_reducible repeat (first | refine blk_drewN ?_ _ | refine blk_drew ?_ | refine blk_alloc ?_ _)); exact BK114.out) hg (Kd.R_ne HO_6.out BK114.out (by decide))); have n2_ := Aside0.mk (Kd.R_after (ok := (fun k_ => some k_ ≠ (.slice (some ad119) t115.length co7 : Value).ownBlock)) (by (with_reducible repeat (first | apply Kd.R_alloc | apply Kd.R_drewN | apply Kd.R_drew)); exact Kd.R_mono HL119_0.out (fun _ hk => ⟨hk.2, hk.1⟩)) hg hat); have n3_ := Aside0.mk (hb); have n4_ := Aside0.mk (ho); clear HO_18; clear BK114; clear HL119_0; clear HB; clear HO_6; have HO_18 := n0_; have BK114 := n1_; have HL119_0 := n2_; have HB := n3_; have HO126 := n4_; clear n0_ n1_ n2_ n3_ n4_; clear ho hb hg hat))
   go_roundg k1
   case measure => have := HK1.out; omega
   case rel => exact ⟨(y124), (wrap64 (x20_1 + 1)), (by first | rfl | (simp; done) | (simp [*]; done)), H', ⟨by have := HK1.out; omega⟩, ⟨by (with_reducible repeat (first | apply Kd.R_alloc | apply Kd.R_drewN | apply Kd.R_drew)); exact HO126.out⟩, ⟨by (with_reducible repeat (first | apply Kd.S_alloc | apply Kd.S_drewN | apply Kd.S_drew)); exact Kd.S_mono HO_18.out (fun _ hk => hk.2)⟩, ⟨by (with_reducible repeat (first | refine blk_drewN ?_ _ | refine blk_drew ?_ | refine blk_alloc ?_ _)); exact BK114.out⟩, ⟨by repeat (first | (with_reducible first | exact HB.out | apply below_alloc | apply pw_below_drewN | apply below_drew1 | refine below_set ?_ GE114.out) | exact HB.out)⟩⟩
  rw [if_pos c11] at H
  have c11b0 : (((rd_L1 t115 x20_1).length : Int) == 1) = true := beq_iff_eq.mpr c11
  have c11b1 : (((rd_L1 t115 x20_1).length : Int) != 1) = false := bne_eq_false_iff_eq.mpr c11
  clear c11
  by_cases c12 : 0 < ((rd_L1 t115 x20_1).length : Int)
  rotate_left
  ·
   rw [if_neg c12] at H
   exact absurd H (by simp)
  rw [if_pos c12] at H
  have c12b0 : decide (0 < ((rd_L1 t115 x20_1).length : Int)) = true := decide_eq_true c12
  have c12b1 : decide (0 < (rd_L1 t115 x20_1).length) = true := decide_eq_true (by omega)
  clear c12
  by_cases c13 : x6_1.length < 17592186044416
  rotate_left
  ·
   rw [if_neg c13] at H
   exact absurd H (by simp)
  rw [if_pos c13] at H
  have LMc13 := Aside0.mk c13
  clear c13
  obtain ⟨y121, hy121⟩ : ∃ y_ : List Int, y_ = (x6_1 ++ [rd (rd_L1 t115 x20_1) 0]) := ⟨_, rfl⟩
  replace H : (match_Must.l0 k1 y121 t115 (t115.length : Int) (wrap64 (x20_1 + 1))) = some (r1, r2) := by first | (rw [hy121]; with_reducible exact H) | (have H2_ := (Option.bind_some _ _).symm.trans H; rw [hy121]; with_reducible exact H2_) | (have H2_ := (Option.bind_some _ _).symm.trans H; with_reducible exact H2_) | with_reducible exact H | (rw [hy121]; exact H) | exact H
  have Ny121 := Aside0.mk hy121
  clear hy121
  have H' := Aside0.mk H
  clear H
  have p119 : 0 ≤ (x20_1 : Int) := of_decide_eq_true (by first | (with_reducible assumption) | assumption)
  have q119 : x20_1 < (t115.length : Int) := of_decide_eq_true (by first | (with_reducible assumption) | assumption)
  obtain ⟨ad119, A119_0, c119_0, e119, hx119_0, hl119_0, hi119_0⟩ := at_L1 (Kd.S_reads' HO_18.out).2.2 x20_1 p119 q119
  cases e119
  obtain ⟨ce119, hce119, hMe119, hcc119⟩ := Kd.S_get HO_18.out [] x20_1 p119 (by first | exact q119 | exact of_decide_eq_true (by first | (with_reducible assumption) | assumption) | (have e_ := (Kd.S_reads' HO_18.out).1; omega))
  obtain ⟨ve119_0, rfl, ge119_0⟩ := hMe119
  have hv119_0 := hcc119 0 _ rfl
  rw [Nat.add_zero, show ((Kd.slice 3 (Kd.int .i64))).sz = 1 from rfl, Nat.mul_one] at hv119_0
  replace hv119_0 := Option.some.inj (hv119_0.symm.trans hx119_0)
  rw [hv119_0] at ge119_0
  have HL119_0 := Aside0.mk (show Kd.R (Kd.int .i64) 3 _ _ _ _ (rd_L1 t115 x20_1) from ge119_0)
  clear hv119_0 ge119_0
  clear hcc119 hce119
  have HR119_0 := Aside0.mk hi119_0
  have HC119_0 := Aside0.mk hl119_0
  clear hi119_0 hl119_0
  replace p119 := eq_true p119
  replace q119 := eq_true q119
  have p120 : 0 ≤ (0 : Int) := (by omega)
  have q120 : 0 < ((rd_L1 t115 x20_1).length : Int) := of_decide_eq_true (by first | (with_reducible assumption) | assumption)
  obtain ⟨ad120, e120, hx120_0⟩ := Kd.at_int (by repeat (first | (with_reducible exact HR119_0.out) | (with_reducible refine Kd.C_alloc ?_ _) | (with_reducible refine Kd.C_drewN ?_ _) | (with_reducible refine Kd.C_drew ?_) | exact HR119_0.out)) 0 p120 q120
  cases e120
  have qi120 : (0 < (rd_L1 t115 x20_1).length) = True := eq_true (by omega)
  (try rw [show ((0 : Int)).toNat = 0 from rfl] at hx120_0)
  (try rw [Addr.add_zero'] at hx120_0)
  replace p120 := eq_true p120
  replace q120 := eq_true q120
  go_wp2_with (first | ((with_reducible refine gate_builtin (b := .append) (xs := #[.tmp 30, .tmp 32]) rfl ?_); at_builtin; refine Kd.R_append (Kd.int .i64) (w0 := w) w.heap.size rfl (.tmp 30) (.tmp 32) 22 3 (.int .i64 0) 8 rfl Try.underlying22 info3 rfl (by decide) (by omega) u6 x6_1 (rd (rd_L1 t115 x20_1) 0) [.int .i64 (rd (rd_L1 t115 x20_1) 0)] (fun _ => True) (fun _ => False) rfl rfl ?aP (fun _ hk => hk.elim) ?aF ?aO ?aB ?aS ?aL ?_; (case aP => exact rfl); (case aB => exact (by repeat (first | (with_reducible first | exact HB.out | apply below_alloc | apply pw_below_drewN | apply below_drew1 | refine below_set ?_ GE114.out) | exact HB.out))); (case aF => exact (fun _ _ => trivial)); (case aO => exact (by (with_reducible repeat (first | apply Kd.R_alloc | apply Kd.R_drewN | apply Kd.R_drew)); exact HO_6.out)); (case aS => exact (below_size (by repeat (first | (with_reducible first | exact HB.out | apply below_alloc | apply pw_below_drewN | apply below_drew1 | refine below_set ?_ GE114.out) | exact HB.out)))); (case aL => have := LMc13.out; omega); intro v122 w14 ho hb hg hat; rw [← Ny121.out] at ho; have n0_ := Aside0.mk (Kd.S_after (ok := (fun _ => True)) (by (with_reducible repeat (first | apply Kd.S_alloc | apply Kd.S_drewN | apply Kd.S_drew)); exact Kd.S_mono HO_18.out (fun _ hk => ⟨trivial, hk⟩)) hg hat); have n1_ := Aside0.mk (blk_grown (g := gb114) (o := .cells #[.slice A0_0 l0_0.length c0_0, .slice A0_1 l0_1.length c0_1, .slice A0_2 l0_2.length c0_2] 26 (0, 0)) (by (with_reducible repeat (first | refine blk_drewN ?_ _ | refine blk_drew ?_ | refine blk_alloc ?_ _)); exact BK114.out) hg (Kd.R_ne HO_6.out BK114.out (by decide))); have n2_ := Aside0.mk (Kd.R_after (ok := (fun k_ => some k_ ≠ (.slice (some ad119) t115.length co7 : Value).ownBlock)) (by (with_reducible repeat (first | apply Kd.R_alloc | apply Kd.R_drewN | apply Kd.R_drew)); exact Kd.R_mono HL119_0.out (fun _ hk => ⟨hk.2, hk.1⟩)) hg hat); have n3_ := Aside0.mk (hb); have n4_ := Aside0.mk (ho); clear HO_18; clear BK114; clear HL119_0; clear HB; clear HO_6; have HO_18 := n0_; have BK114 := n1_; have HL119_0 := n2_; have HB := n3_; have HO123 := n4_; clear n0_ n1_ n2_ n3_ n4_; clear ho hb hg hat))
  go_roundg k1
  case measure => have := HK1.out; omega
  case rel => exact ⟨(y121), (wrap64 (x20_1 + 1)), (by first | rfl | (simp; done) | (simp [*]; done)), H', ⟨by have := HK1.out; omega⟩, ⟨by (with_reducible repeat (first | apply Kd.R_alloc | apply Kd.R_drewN | apply Kd.R_drew)); exact HO123.out⟩, ⟨by (with_reducible repeat (first | apply Kd.S_alloc | apply Kd.S_drewN | apply Kd.S_drew)); exact Kd.S_mono HO_18.out (fun _ hk => hk.2)⟩, ⟨by (with_reducible repeat (first | refine blk_drewN ?_ _ | refine blk_drew ?_ | refine blk_alloc ?_ _)); exact BK114.out⟩, ⟨by repeat (first | (with_reducible first | exact HB.out | apply below_alloc | apply pw_below_drewN | apply below_drew1 | refine below_set ?_ GE114.out) | exact HB.out)⟩⟩
end Go.Proofs.Ytkmmihadcbfkoaa.PM
end

section
namespace Go.Proofs.Ytkmmihadcbfkoaa
open PM
def bdT2 : List (List Int) := [[0], [0], [0, 1]]
theorem bd_check3 : checkB bdF (bdS 1) bdT2 = 0 := by kernel_rfl
theorem bd_is1 : isF bdF (bdS 1) bdT = true := by kernel_rfl
theorem bd_assign : match_Assign.f bdF (bdS 1) bdT = some ([0, 1, 2], true, 0) := by kernel_rfl
theorem bd_must1 : match_Must.f 5 bdF (bdS 1) bdT = some ([0, 1, 2], 0) := by kernel_rfl
theorem bd_must2 : match_Must.f 5 bdF (bdS 2) bdT = some ([0, -1, -1], 0) := by kernel_rfl
theorem bd_load : match_Load.f bdF (bdS 2) bdT 0 = some (1, 2, 0) := by kernel_rfl
theorem srt10 : Lib.compact (([1, 0] : List Int).mergeSort fun x y => decide (x ≤ y)) = [0, 1] := by
 rw [show (([1, 0] : List Int).mergeSort fun x y => decide (x ≤ y)) = [0, 1] from by simp [List.mergeSort, List.MergeSort.Internal.splitInTwo]]
 kernel_rfl
theorem bd_hall1 : giveH bdT (roomsLess (bdS 1) 1) 3 1 [0, -1, -1] = [0, 1] := by
 unfold giveH
 rw [show (giveR bdT (roomsLess (bdS 1) 1) 3 1 [0, -1, -1]).ok = false from by kernel_rfl, if_neg (by simp), show hallTo 1 (giveR bdT (roomsLess (bdS 1) 1) 3 1 [0, -1, -1]).seen (giveR bdT (roomsLess (bdS 1) 1) 3 1 [0, -1, -1]).has 3 = [1, 0] from by kernel_rfl]
 exact srt10
theorem bd_hall2 : giveH bdT2 (rooms (bdS 1)) 3 1 [0, -1, -1] = [0, 1] := by
 unfold giveH
 rw [show (giveR bdT2 (rooms (bdS 1)) 3 1 [0, -1, -1]).ok = false from by kernel_rfl, if_neg (by simp), show hallTo 1 (giveR bdT2 (rooms (bdS 1)) 3 1 [0, -1, -1]).seen (giveR bdT2 (rooms (bdS 1)) 3 1 [0, -1, -1]).has 3 = [1, 0] from by kernel_rfl]
 exact srt10
theorem bd_fill1 : hallR bdF (bdS 1) bdT 2 (roomsLess (bdS 1) 1) = ⟨false, giveH bdT (roomsLess (bdS 1) 1) 3 1 [0, -1, -1], (giveR bdT (roomsLess (bdS 1) 1) 3 1 [0, -1, -1]).has⟩ := by kernel_rfl
theorem bd_fill2 : hallR bdF (bdS 1) bdT2 (-1) (rooms (bdS 1)) = ⟨false, giveH bdT2 (rooms (bdS 1)) 3 1 [0, -1, -1], (giveR bdT2 (rooms (bdS 1)) 3 1 [0, -1, -1]).has⟩ := by kernel_rfl
theorem bd_refuse : match_Refuse.f bdF (bdS 1) bdT 2 1 = some ([0, 1], true, 0) := by
 unfold match_Refuse.f
 rw [if_neg (by rw [show askB bdF (bdS 1) bdT 2 1 false false = 0 from by kernel_rfl]; simp), if_neg (by rw [bd_is1]; simp), if_neg (by decide), bd_fill1, bd_hall1]
 rfl
theorem bd_hall : match_Hall.f bdF (bdS 1) bdT2 = some ([0, 1], true, 0) := by
 unfold match_Hall.f
 rw [if_neg (by rw [bd_check3]; simp), bd_fill2, bd_hall2]
 rfl
end Go.Proofs.Ytkmmihadcbfkoaa
end
