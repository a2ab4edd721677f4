/-
  MatchAll holds: for every board and slot, the law returns true and what it is given reads as it did. (part 4 of 6 of the texts that it stands on)
-/
import Derived.Test.YtkmmihadcbfkoaaZAllc
section
namespace Go.Proofs.Ytkmmihadcbfkoaa
set_option linter.unusedVariables false
set_option linter.unusedSimpArgs false
/-- A partial assignment. -/
structure PV (fits : List (List Int)) (room : List Int) (ns : Nat) (has : List Int) : Prop where
  len : has.length = fits.length
  fit : ∀ f : Nat, f < fits.length → has.getD f 0 = -1 ∨ has.getD f 0 ∈ fits.getD f []
  load : ∀ s : Nat, s < ns → ld has s ≤ room.getD s 0
/-- What a search that succeeded has moved. -/
structure Moved (n : Nat) (seen : List Bool) (has : List Int) (f : Nat) (new : List Int) : Prop where
  oth : ∀ x : Nat, x < n → x ≠ f → new.getD x 0 = has.getD x 0 ∨ (0 ≤ has.getD x 0 ∧ 0 ≤ new.getD x 0 ∧ seen.getD (new.getD x 0).toNat false = false)
  self : 0 ≤ new.getD f 0 ∧ seen.getD (new.getD f 0).toNat false = false
def Sub (a b : List Bool) : Prop := ∀ t : Nat, a.getD t false = true → b.getD t false = true
theorem Sub.refl (a : List Bool) : Sub a a := fun _ h => h
theorem Sub.trans {a b c : List Bool} (h : Sub a b) (k : Sub b c) : Sub a c := fun t ht => k t (h t ht)
theorem Sub.no {a b : List Bool} (h : Sub a b) {t : Nat} (k : b.getD t false = false) : a.getD t false = false := by
  cases e : a.getD t false with
  | false => rfl
  | true => rw [h t e] at k; cases k
theorem sub_set (a : List Bool) (i : Nat) : Sub a (a.set i true) := fun t h => by
  by_cases hi : i < a.length
  · rw [getD_set a i true false t hi]
    split
    · rfl
    · exact h
  · rw [List.set_eq_of_length_le (by omega)]; exact h
/-- The slots newly seen are full, and the finds there fit seen slots alone, but for one find. -/
def NewFull (fits : List (List Int)) (room : List Int) (ns : Nat) (seen new : List Bool) (has : List Int) (ex : Int) (res : List Bool) : Prop :=
  ∀ t : Nat, new.getD t false = true → seen.getD t false = true ∨ (t < ns ∧ room.getD t 0 ≤ ld has t ∧ ∀ g, g ∈ atOf has t → g ≠ ex → ∀ s, s ∈ fits.getD g.toNat [] → res.getD s.toNat false = true)
theorem NewFull.refl {fits : List (List Int)} {room : List Int} {ns : Nat} {seen : List Bool} {has : List Int} {ex : Int} {res : List Bool} : NewFull fits room ns seen seen has ex res := fun _ h => Or.inl h
theorem NewFull.res {fits : List (List Int)} {room : List Int} {ns : Nat} {seen new : List Bool} {has : List Int} {ex : Int} {res res' : List Bool} (h : NewFull fits room ns seen new has ex res) (k : Sub res res') : NewFull fits room ns seen new has ex res' := fun t ht => (h t ht).imp id fun ⟨a, b, c⟩ => ⟨a, b, fun g hg he s hs => k _ (c g hg he s hs)⟩
theorem NewFull.trans {fits : List (List Int)} {room : List Int} {ns : Nat} {seen mid new : List Bool} {has : List Int} {ex : Int} {res : List Bool} (h : NewFull fits room ns seen mid has ex res) (k : NewFull fits room ns mid new has ex res) : NewFull fits room ns seen new has ex res := fun t ht => (k t ht).elim (fun e => h t e) Or.inr
theorem at_nonneg {has : List Int} {t g : Int} (h : g ∈ atOf has t) : 0 ≤ g := (mem_atOf.1 h).1
theorem NewFull.ex {fits : List (List Int)} {room : List Int} {ns : Nat} {seen new : List Bool} {has : List Int} {ex : Int} {res : List Bool} (h : NewFull fits room ns seen new has (-1) res) : NewFull fits room ns seen new has ex res := fun t ht => (h t ht).imp id fun ⟨a, b, c⟩ => ⟨a, b, fun g hg _ => c g hg (by have := at_nonneg hg; omega)⟩
structure Good (fits : List (List Int)) (room : List Int) (ns m : Nat) (f : Int) (seen : List Bool) (has : List Int) (r : SR) : Prop where
  fail : r.ok = false → r.has = has
  sub : Sub seen r.seen
  win : r.ok = true → PV fits room ns has → PV fits room ns r.has ∧ Moved fits.length seen has f.toNat r.has
  shut : r.ok = false → cnt seen < m → (∀ s, s ∈ fits.getD f.toNat [] → r.seen.getD s.toNat false = true) ∧ NewFull fits room ns seen r.seen has (-1) r.seen
structure GoodG (fits : List (List Int)) (room : List Int) (ns m : Nat) (f : Int) (gs : List Int) (seen : List Bool) (has : List Int) (r : SR) : Prop where
  fail : r.ok = false → r.has = has
  sub : Sub seen r.seen
  win : r.ok = true → PV fits room ns has → ∃ g, g ∈ gs ∧ g ≠ f ∧ ∃ seen1, Sub seen seen1 ∧ PV fits room ns r.has ∧ Moved fits.length seen1 has g.toNat r.has
  shut : r.ok = false → cnt seen < m → (∀ g, g ∈ gs → g ≠ f → ∀ s, s ∈ fits.getD g.toNat [] → r.seen.getD s.toNat false = true) ∧ NewFull fits room ns seen r.seen has (-1) r.seen
structure GoodS (fits : List (List Int)) (room : List Int) (ns m : Nat) (f : Int) (ss : List Int) (seen : List Bool) (has : List Int) (r : SR) : Prop where
  fail : r.ok = false → r.has = has
  sub : Sub seen r.seen
  win : r.ok = true → PV fits room ns has → PV fits room ns r.has ∧ Moved fits.length seen has f.toNat r.has
  shut : r.ok = false → cnt seen < m → (∀ s, s ∈ ss → r.seen.getD s.toNat false = true) ∧ NewFull fits room ns seen r.seen has f r.seen
theorem seekG_good {fits : List (List Int)} {room : List Int} {ns m : Nat} (hr : ∀ (g : Int) seen has, 0 ≤ g → g < fits.length → seen.length = ns → has.length = fits.length → Good fits room ns m g seen has (seekF fits room m g seen has)) (f : Int) :
    ∀ (gs : List Int) seen has, (∀ g, g ∈ gs → 0 ≤ g ∧ g < fits.length) → seen.length = ns → has.length = fits.length → GoodG fits room ns m f gs seen has (seekG (seekF fits room m) f gs seen has)
  | [], seen, has, _, _, _ => ⟨fun _ => rfl, Sub.refl _, fun h => by simp [seekG] at h, fun _ _ => ⟨fun g hg => by simp at hg, NewFull.refl⟩⟩
  | g :: gs, seen, has, hg, hs, hl => by
    have hg0 := hg g List.mem_cons_self
    have hgs : ∀ x, x ∈ gs → 0 ≤ x ∧ x < fits.length := fun x hx => hg x (List.mem_cons_of_mem _ hx)
    unfold seekG
    by_cases e : g = f
    · rw [if_pos e]
      have ih := seekG_good hr f gs seen has hgs hs hl
      refine ⟨ih.fail, ih.sub, fun h k => ?_, fun h k => ?_⟩
      · obtain ⟨x, hx, r⟩ := ih.win h k
        exact ⟨x, List.mem_cons_of_mem _ hx, r⟩
      · obtain ⟨h1, h2⟩ := ih.shut h k
        refine ⟨fun x hx hne => ?_, h2⟩
        rcases List.mem_cons.1 hx with e2 | hx
        · exact absurd (e2.trans e) hne
        · exact h1 x hx hne
    · rw [if_neg e]
      have hG := hr g seen has hg0.1 hg0.2 hs hl
      have hO := seekF_ok fits room m g seen has
      obtain ⟨r, hre⟩ : ∃ r, seekF fits room m g seen has = r := ⟨_, rfl⟩
      rw [hre] at hG hO ⊢
      by_cases hok : r.ok = true
      · rw [if_pos hok]
        refine ⟨fun h => (by rw [hok] at h; cases h), hG.sub, fun h k => ⟨g, List.mem_cons_self, e, seen, Sub.refl _, hG.win hok k⟩, fun h => (by rw [hok] at h; cases h)⟩
      · rw [if_neg hok]
        have hok' : r.ok = false := by simpa using hok
        have hh := hG.fail hok'
        have ih := seekG_good hr f gs r.seen r.has hgs (hO.1.trans hs) (hO.2.1.trans hl)
        rw [hh] at ih ⊢
        refine ⟨ih.fail, hG.sub.trans ih.sub, fun h k => ?_, fun h k => ?_⟩
        · obtain ⟨x, hx, hne, s1, h1, h2⟩ := ih.win h k
          exact ⟨x, List.mem_cons_of_mem _ hx, hne, s1, hG.sub.trans h1, h2⟩
        · obtain ⟨a1, a2⟩ := hG.shut hok' k
          obtain ⟨h1, h2⟩ := ih.shut h (Nat.lt_of_le_of_lt hO.2.2 k)
          refine ⟨fun x hx hne => ?_, (a2.res ih.sub).trans h2⟩
          rcases List.mem_cons.1 hx with e2 | hx
          · exact fun s hs => ih.sub _ (a1 s (e2 ▸ hs))
          · exact h1 x hx hne
theorem pv_put {fits : List (List Int)} {room : List Int} {ns : Nat} {has : List Int} {f : Nat} {s : Int} (hv : PV fits room ns has) (hf : f < fits.length) (hs : s ∈ fits.getD f []) (hl : ∀ t : Nat, t < ns → (t : Int) = s → ld has t < room.getD t 0) : PV fits room ns (has.set f s) := by
  have hfl : f < has.length := by rw [hv.len]; exact hf
  refine ⟨by rw [List.length_set]; exact hv.len, fun x hx => ?_, fun t ht => ?_⟩
  · rw [getD_set has f s 0 x hfl]
    by_cases e : x = f
    · rw [if_pos e, e]; exact Or.inr hs
    · rw [if_neg e]; exact hv.fit x hx
  · rw [ld_set has f s t hfl]
    have h0 := hv.load t ht
    by_cases e : s = (t : Int)
    · have := hl t ht e.symm
      rw [if_pos e]
      split <;> omega
    · rw [if_neg e]
      split <;> omega
theorem moved_put {n : Nat} {seen : List Bool} {has : List Int} {f : Nat} {s : Int} (hl : has.length = n) (hf : f < n) (hs : 0 ≤ s) (hu : seen.getD s.toNat false = false) : Moved n seen has f (has.set f s) := by
  have hfl : f < has.length := by omega
  refine ⟨fun x hx hne => Or.inl ?_, ?_⟩
  · rw [getD_set has f s 0 x hfl, if_neg hne]
  · rw [getD_set has f s 0 f hfl, if_pos rfl]
    exact ⟨hs, hu⟩
theorem seekS_good {fits : List (List Int)} {room : List Int} {ns m : Nat} (hf : FitsOk fits ns) (hr : ∀ (g : Int) seen has, 0 ≤ g → g < fits.length → seen.length = ns → has.length = fits.length → Good fits room ns m g seen has (seekF fits room m g seen has)) (f : Int) (hf0 : 0 ≤ f) (hf1 : f < fits.length) :
    ∀ ss seen has, (∀ s, s ∈ ss → s ∈ fits.getD f.toNat []) → seen.length = ns → has.length = fits.length → GoodS fits room ns (m + 1) f ss seen has (seekS (seekF fits room m) room f ss seen has)
  | [], seen, has, _, _, _ => ⟨fun _ => rfl, Sub.refl _, fun h => by simp [seekS] at h, fun _ _ => ⟨fun g hg => by simp at hg, NewFull.refl⟩⟩
  | s :: ss, seen, has, hss, hs, hl => by
    have hin := hss s List.mem_cons_self
    have hss' : ∀ x, x ∈ ss → x ∈ fits.getD f.toNat [] := fun x hx => hss x (List.mem_cons_of_mem _ hx)
    obtain ⟨hs0, hs1⟩ := hf f.toNat (by omega) s hin
    unfold seekS
    by_cases hseen : seen.getD s.toNat false = true
    · rw [if_pos hseen]
      have ih := seekS_good hf hr f hf0 hf1 ss seen has hss' hs hl
      refine ⟨ih.fail, ih.sub, ih.win, fun h k => ?_⟩
      obtain ⟨h1, h2⟩ := ih.shut h k
      refine ⟨fun x hx => ?_, h2⟩
      rcases List.mem_cons.1 hx with e2 | hx
      · rw [e2]; exact ih.sub _ hseen
      · exact h1 x hx
    · rw [if_neg hseen]
      have hun : seen.getD s.toNat false = false := by simpa using hseen
      have hsl : s.toNat < seen.length := by omega
      by_cases hroom : ld has s < room.getD s.toNat 0
      · rw [if_pos hroom]
        refine ⟨fun h => (by cases h), sub_set _ _, fun _ hv => ⟨pv_put hv (by omega) hin fun t ht e => ?_, moved_put hl (by omega) hs0 hun⟩, fun h => (by cases h)⟩
        subst e
        simpa using hroom
      · rw [if_neg hroom]
        have hsee1 : (seen.set s.toNat true).getD s.toNat false = true := by rw [getD_set seen s.toNat true false s.toNat hsl, if_pos rfl]
        have hcn := cnt_set hsl hun
        have hgs : ∀ g, g ∈ atOf has s → 0 ≤ g ∧ g < fits.length := fun g hg => by
          obtain ⟨a, b, _⟩ := mem_atOf.1 hg
          exact ⟨a, by omega⟩
        have hG := seekG_good hr f (atOf has s) (seen.set s.toNat true) has hgs (by simpa using hs) hl
        have hO := seekG_ok (seekF_ok fits room m) f (atOf has s) (seen.set s.toNat true) has
        obtain ⟨r, hre⟩ : ∃ r, seekG (seekF fits room m) f (atOf has s) (seen.set s.toNat true) has = r := ⟨_, rfl⟩
        rw [hre] at hG hO ⊢
        have hsub : Sub seen r.seen := (sub_set _ _).trans hG.sub
        by_cases hok : r.ok = true
        · rw [if_pos hok]
          refine ⟨fun h => (by cases h), hsub, fun _ hv => ?_, fun h => (by cases h)⟩
          obtain ⟨g, hg, hne, seen1, hs1', hv1, hm⟩ := hG.win hok hv
          obtain ⟨hg0, hg1, hg2⟩ := mem_atOf.1 hg
          rw [← List.getD_eq_getElem?_getD] at hg2
          have hrl : r.has.length = has.length := hO.2.1
          have hss1 : seen1.getD s.toNat false = true := hs1' _ hsee1
          have hdrop : ld r.has s + 1 ≤ ld has s := ld_drop (g := g.toNat) hrl (fun j hj hjs => by
            by_cases e : j = g.toNat
            · rw [e]; exact hg2
            · rcases hm.oth j (by omega) e with k | ⟨_, _, k⟩
              · rw [← k]; exact hjs
              · rw [hjs, hss1] at k; cases k) (by omega) hg2 (fun e => by
                have := hm.self.2
                rw [e, hss1] at this; cases this)
          have hld := hv.load s.toNat (by omega)
          rw [Int.toNat_of_nonneg hs0] at hld
          refine ⟨pv_put hv1 (by omega) hin fun t ht e => ?_, ?_⟩
          · subst e
            rw [Int.toNat_natCast] at hld
            omega
          · have hfl : f.toNat < r.has.length := by omega
            refine ⟨fun x hx hne2 => ?_, ?_⟩
            · rw [getD_set r.has f.toNat s 0 x hfl, if_neg hne2]
              by_cases e : x = g.toNat
              · subst e
                refine Or.inr ⟨by rw [hg2]; exact hs0, hm.self.1, ((sub_set seen s.toNat).trans hs1').no hm.self.2⟩
              · exact (hm.oth x hx e).imp id fun ⟨a, b, c⟩ => ⟨a, b, ((sub_set seen s.toNat).trans hs1').no c⟩
            · rw [getD_set r.has f.toNat s 0 f.toNat hfl, if_pos rfl]
              exact ⟨hs0, hun⟩
        · rw [if_neg hok]
          have hok' : r.ok = false := by simpa using hok
          have hh := hG.fail hok'
          have ih := seekS_good hf hr f hf0 hf1 ss r.seen r.has hss' (hO.1.trans (by simpa using hs)) (hO.2.1.trans hl)
          rw [hh] at ih ⊢
          refine ⟨ih.fail, hsub.trans ih.sub, fun h k => ?_, fun h k => ?_⟩
          · obtain ⟨h1, h2⟩ := ih.win h k
            exact ⟨h1, ⟨fun x hx hne => (h2.oth x hx hne).imp id fun ⟨a, b, c⟩ => ⟨a, b, hsub.no c⟩, h2.self.1, hsub.no h2.self.2⟩⟩
          · have hc2 : cnt r.seen ≤ cnt (seen.set s.toNat true) := hO.2.2
            obtain ⟨a1, a2⟩ := hG.shut hok' (by omega)
            obtain ⟨h1, h2⟩ := ih.shut h (by omega)
            refine ⟨fun x hx => ?_, ?_⟩
            · rcases List.mem_cons.1 hx with e2 | hx
              · rw [e2]; exact ih.sub _ (hG.sub _ hsee1)
              · exact h1 x hx
            · refine NewFull.trans (mid := seen.set s.toNat true) (fun t ht => ?_) (NewFull.trans (NewFull.ex (a2.res ih.sub)) h2)
              rw [getD_set seen s.toNat true false t hsl] at ht
              by_cases e : t = s.toNat
              · refine Or.inr ⟨by omega, by rw [e, Int.toNat_of_nonneg hs0]; omega, fun g hg hne x hx => ih.sub _ (a1 g ?_ hne x hx)⟩
                rw [e, Int.toNat_of_nonneg hs0] at hg
                exact hg
              · rw [if_neg e] at ht
                exact Or.inl ht
theorem seek_good {fits : List (List Int)} {room : List Int} {ns : Nat} (hf : FitsOk fits ns) : ∀ m (f : Int) seen has, 0 ≤ f → f < fits.length → seen.length = ns → has.length = fits.length → Good fits room ns m f seen has (seekF fits room m f seen has)
  | 0, f, seen, has, _, _, _, _ => ⟨fun _ => rfl, Sub.refl _, fun h => by simp [seekF] at h, fun _ h => absurd h (Nat.not_lt_zero _)⟩
  | m + 1, f, seen, has, h0, h1, hs, hl => by
    have hS := seekS_good (room := room) hf (fun g s h a b c d => seek_good hf m g s h a b c d) f h0 h1 (fits.getD f.toNat []) seen has (fun _ h => h) hs hl
    unfold seekF
    refine ⟨hS.fail, hS.sub, hS.win, fun h k => ?_⟩
    obtain ⟨a, b⟩ := hS.shut h k
    refine ⟨a, fun t ht => (b t ht).imp id fun ⟨x, y, z⟩ => ⟨x, y, fun g hg _ s hs => ?_⟩⟩
    by_cases e : g = f
    · exact a s (e ▸ hs)
    · exact z g hg e s hs
end Go.Proofs.Ytkmmihadcbfkoaa
end

section
namespace Go.Proofs.Ytkmmihadcbfkoaa
set_option linter.unusedVariables false
set_option linter.unusedSimpArgs false
theorem atOf_nodup (has : List Int) (t : Int) : (atOf has t).Nodup := by
  unfold atOf atTo
  rw [List.Nodup, List.pairwise_map]
  exact (List.nodup_range.filter _).imp fun {a b} h e => h (Int.ofNat.inj e)
theorem mem_hallTo {find : Int} {seen : List Bool} {has : List Int} {k : Nat} {g : Int} : g ∈ hallTo find seen has k ↔ g = find ∨ ∃ t : Nat, t < k ∧ seen.getD t false = true ∧ g ∈ atOf has (t : Int) := by
  simp only [hallTo, List.mem_cons, List.mem_flatMap, List.mem_filter, List.mem_range]
  constructor
  · rintro (h | ⟨t, ⟨a, b⟩, c⟩)
    · exact Or.inl h
    · exact Or.inr ⟨t, a, b, c⟩
  · rintro (h | ⟨t, a, b, c⟩)
    · exact Or.inl h
    · exact Or.inr ⟨t, ⟨a, b⟩, c⟩
theorem hallTo_nodup {find : Nat} {seen : List Bool} {has : List Int} (h : has.getD find 0 = -1) : ∀ k, (hallTo (find : Int) seen has k).Nodup
  | 0 => by simp [hallTo]
  | k + 1 => by
    have ih := hallTo_nodup (seen := seen) h k
    cases hs : seen.getD k false with
    | false => rw [hallTo_no hs]; exact ih
    | true =>
      rw [hallTo_yes hs, List.nodup_append]
      refine ⟨ih, atOf_nodup _ _, fun a ha b hb e => ?_⟩
      subst e
      obtain ⟨_, _, h2⟩ := mem_atOf.1 hb
      rw [← List.getD_eq_getElem?_getD] at h2
      rcases mem_hallTo.1 ha with e | ⟨t, ht, _, hm⟩
      · rw [e, Int.toNat_natCast, h] at h2
        omega
      · obtain ⟨_, _, h3⟩ := mem_atOf.1 hm
        rw [← List.getD_eq_getElem?_getD, h2] at h3
        omega
theorem hallTo_len (find : Int) (seen : List Bool) (has : List Int) : ∀ k, ((hallTo find seen has k).length : Int) = 1 + zsum k (fun t => seen.getD t false) (fun t => ld has t)
  | 0 => rfl
  | k + 1 => by
    have ih := hallTo_len find seen has k
    unfold zsum at ih ⊢
    simp only [List.range_succ, List.map_append, List.sum_append, List.map_cons, List.map_nil, List.sum_cons, List.sum_nil]
    cases hs : seen.getD k false with
    | false =>
      rw [hallTo_no hs, ih]
      simp
    | true =>
      rw [hallTo_yes hs, List.length_append, Int.natCast_add, ih]
      simp [ld]
      omega
theorem compact_asc {zs : List Int} (h : zs.Pairwise (· < ·)) : Lib.compact zs = zs := by
  refine Lib.compact_all zs fun j hj => ?_
  by_cases h0 : j = 0
  · simp [Lib.keeps, h0]
  · have : zs[j - 1] < zs[j] := List.pairwise_iff_getElem.1 h (j - 1) j (by omega) hj (by omega)
    refine Lib.keeps_pos ?_
    rw [List.getElem!_toArray, List.getElem!_toArray, getElem!_pos zs j hj, getElem!_pos zs (j - 1) (by omega)]
    omega
theorem sorted_asc {L : List Int} (h : L.Nodup) : (L.mergeSort fun x y => decide (x ≤ y)).Pairwise (· < ·) := by
  have hs := List.pairwise_mergeSort (le := fun x y : Int => decide (x ≤ y)) (fun a b c h1 h2 => by simp only [decide_eq_true_eq] at h1 h2 ⊢; omega) (fun a b => by simp only [Bool.or_eq_true, decide_eq_true_eq]; omega) L
  have hn : (L.mergeSort fun x y => decide (x ≤ y)).Nodup := (List.mergeSort_perm L _).nodup_iff.2 h
  have := hs.and hn
  exact this.imp fun {a b} k => by
    have h1 : a ≤ b := by simpa using k.1
    have h2 : a ≠ b := k.2
    omega
/-- The finds that stand in each other's way: in order, each once. -/
theorem giveH_is {fits : List (List Int)} {room : List Int} {ns : Nat} {f : Nat} {has : List Int} (hok : (giveR fits room ns f has).ok = false) (hh : (giveR fits room ns f has).has = has) (h : has.getD f 0 = -1) :
    giveH fits room ns f has = (hallTo f (giveR fits room ns f has).seen has ns).mergeSort fun x y => decide (x ≤ y) := by
  unfold giveH
  rw [if_neg (by rw [hok]; simp), hh]
  exact compact_asc (sorted_asc (hallTo_nodup h ns))
theorem give_good {fits : List (List Int)} {room : List Int} {ns : Nat} (hf : FitsOk fits ns) {f : Nat} (h1 : f < fits.length) {has : List Int} (hl : has.length = fits.length) :
    Good fits room ns (ns + 1) f (List.replicate ns false) has (giveR fits room ns f has) :=
  seek_good hf (ns + 1) f _ has (by omega) (by omega) (by simp) hl
theorem getD_false (ns t : Nat) : (List.replicate ns false).getD t false = false := by
  simp only [List.getD_eq_getElem?_getD, List.getElem?_replicate]
  split <;> rfl
theorem give_hall {fits : List (List Int)} {room : List Int} {ns : Nat} (hf : FitsOk fits ns) {f : Nat} (h1 : f < fits.length) {has : List Int} (hv : PV fits room ns has) (h : has.getD f 0 = -1) (hne : fits.getD f [] ≠ []) {out : Int} (ho : out ≠ f) (hout : ∀ o : Nat, (o : Int) = out → o < fits.length → has.getD o 0 = -1) (hok : (giveR fits room ns f has).ok = false) :
    HallV fits room ns out (giveH fits room ns f has) := by
  have hG := give_good (room := room) hf h1 hv.len
  have hh := hG.fail hok
  obtain ⟨c1, c2⟩ := hG.shut hok (by simp [cnt])
  rw [giveH_is hok hh h]
  obtain ⟨r, hr⟩ : ∃ r, giveR fits room ns f has = r := ⟨_, rfl⟩
  rw [hr] at c1 c2 ⊢
  rw [Int.toNat_natCast] at c1
  have hperm := List.mergeSort_perm (hallTo f r.seen has ns) (fun x y => decide (x ≤ y))
  have hseen : ∀ t : Nat, r.seen.getD t false = true → t < ns ∧ room.getD t 0 ≤ ld has t ∧ ∀ g, g ∈ atOf has t → ∀ s, s ∈ fits.getD g.toNat [] → r.seen.getD s.toNat false = true := fun t ht => by
    rcases c2 t ht with e | ⟨a, b, c⟩
    · rw [getD_false] at e; cases e
    · exact ⟨a, b, fun g hg s hs => c g hg (by have := at_nonneg hg; omega) s hs⟩
  have hat : ∀ (t : Nat) (g : Int), g ∈ atOf has (t : Int) → 0 ≤ g ∧ g < fits.length ∧ has.getD g.toNat 0 = (t : Int) := fun t g hg => by
    obtain ⟨a, b, c⟩ := mem_atOf.1 hg
    rw [hv.len] at b
    exact ⟨a, b, by rw [List.getD_eq_getElem?_getD]; exact c⟩
  refine ⟨sorted_asc (hallTo_nodup h ns), fun g hg => ?_, fun g hg => ?_, fun hg => ?_, fun t => r.seen.getD t false, fun g hg s hs => ?_, ?_⟩
  · rcases mem_hallTo.1 (hperm.mem_iff.1 hg) with e | ⟨t, _, _, hm⟩
    · omega
    · exact ⟨(hat t g hm).1, (hat t g hm).2.1⟩
  · rcases mem_hallTo.1 (hperm.mem_iff.1 hg) with e | ⟨t, _, _, hm⟩
    · rw [e, Int.toNat_natCast]; exact hne
    · obtain ⟨a, b, c⟩ := hat t g hm
      intro e
      rcases hv.fit g.toNat (by omega) with k | k
      · omega
      · rw [e] at k; simp at k
  · rcases mem_hallTo.1 (hperm.mem_iff.1 hg) with e | ⟨t, _, _, hm⟩
    · exact ho e
    · obtain ⟨a, b, c⟩ := hat t out hm
      have := hout out.toNat (by omega) (by omega)
      omega
  · rcases mem_hallTo.1 (hperm.mem_iff.1 hg) with e | ⟨t, _, ht, hm⟩
    · rw [e, Int.toNat_natCast] at hs
      exact c1 s hs
    · exact (hseen t ht).2.2 g hm s hs
  · rw [hperm.length_eq, hallTo_len]
    have : zsum ns (fun t => r.seen.getD t false) (fun s => room.getD s 0) ≤ zsum ns (fun t => r.seen.getD t false) (fun t => ld has t) := zsum_mono fun s _ hs => (hseen s hs).2.1
    omega
structure FillOk (fits : List (List Int)) (room : List Int) (ns : Nat) (out : Int) (fs : List Nat) (has : List Int) (r : FR) : Prop where
  pv : PV fits room ns r.has
  left : ∀ o : Nat, (o : Int) = out → o < fits.length → r.has.getD o 0 = -1
  keep : ∀ x : Nat, x < fits.length → 0 ≤ has.getD x 0 → 0 ≤ r.has.getD x 0
  done : ∀ f, f ∈ fs → fits.getD f [] ≠ [] → (f : Int) ≠ out → 0 ≤ r.has.getD f 0
  hall : r.hall = []
theorem fillL_spec {fits : List (List Int)} {room : List Int} {ns : Nat} (hf : FitsOk fits ns) (out : Int) : ∀ fs has, PV fits room ns has → (∀ o : Nat, (o : Int) = out → o < fits.length → has.getD o 0 = -1) → (∀ f, f ∈ fs → f < fits.length) →
    ((fillL fits room ns out fs has).ok = true → FillOk fits room ns out fs has (fillL fits room ns out fs has)) ∧ ((fillL fits room ns out fs has).ok = false → HallV fits room ns out (fillL fits room ns out fs has).hall)
  | [], has, hv, ho, _ => ⟨fun _ => ⟨hv, ho, fun _ _ h => h, fun f hf => by simp at hf, rfl⟩, fun h => by simp [fillL] at h⟩
  | f :: fs, has, hv, ho, hfs => by
    have h1 := hfs f List.mem_cons_self
    have hfs' : ∀ x, x ∈ fs → x < fits.length := fun x hx => hfs x (List.mem_cons_of_mem _ hx)
    unfold fillL
    by_cases hc : (fits.getD f []).length = 0 ∨ (f : Int) = out ∨ 0 ≤ has.getD f 0
    · rw [if_pos hc]
      obtain ⟨a, b⟩ := fillL_spec hf out fs has hv ho hfs'
      refine ⟨fun h => ?_, b⟩
      obtain ⟨a1, a2, a3, a4, a5⟩ := a h
      refine ⟨a1, a2, a3, fun x hx hne hxo => ?_, a5⟩
      rcases List.mem_cons.1 hx with e | hx
      · subst e
        rcases hc with k | k | k
        · exact absurd (List.length_eq_zero_iff.1 k) hne
        · exact absurd k hxo
        · exact a3 x h1 k
      · exact a4 x hx hne hxo
    · rw [if_neg hc]
      have c1 : fits.getD f [] ≠ [] := fun e => hc (Or.inl (by rw [e]; rfl))
      have c2 : (f : Int) ≠ out := fun e => hc (Or.inr (Or.inl e))
      have c3 : has.getD f 0 = -1 := by
        rcases hv.fit f h1 with k | k
        · exact k
        · exact absurd (Or.inr (Or.inr (hf f h1 _ k).1)) hc
      have hG := give_good (room := room) hf h1 hv.len
      have hH := give_hall hf h1 hv c3 c1 (fun e => c2 e.symm) ho
      obtain ⟨r, hr⟩ : ∃ r, giveR fits room ns f has = r := ⟨_, rfl⟩
      rw [hr] at hG hH ⊢
      by_cases hok : r.ok = true
      · rw [if_pos hok]
        obtain ⟨w1, w2⟩ := hG.win hok hv
        rw [Int.toNat_natCast] at w2
        have ho' : ∀ o : Nat, (o : Int) = out → o < fits.length → r.has.getD o 0 = -1 := fun o h hl => by
          have hof : o ≠ f := fun e => c2 (by rw [← e]; exact h)
          have hm := ho o h hl
          rcases w2.oth o hl hof with k | ⟨k, _⟩
          · rw [k]; exact hm
          · omega
        obtain ⟨a, b⟩ := fillL_spec hf out fs r.has w1 ho' hfs'
        have hkeep : ∀ x : Nat, x < fits.length → 0 ≤ has.getD x 0 → 0 ≤ r.has.getD x 0 := fun x hx hp => by
          by_cases e : x = f
          · subst e; omega
          · rcases w2.oth x hx e with k | ⟨_, k, _⟩
            · rw [k]; exact hp
            · exact k
        refine ⟨fun h => ?_, b⟩
        obtain ⟨a1, a2, a3, a4, a5⟩ := a h
        refine ⟨a1, a2, fun x hx hp => a3 x hx (hkeep x hx hp), fun x hx hne hxo => ?_, a5⟩
        rcases List.mem_cons.1 hx with e | hx
        · subst e; exact a3 x h1 w2.self.1
        · exact a4 x hx hne hxo
      · rw [if_neg hok]
        exact ⟨fun h => (by cases h), fun _ => hH (by simpa using hok)⟩
theorem pv_none {fits : List (List Int)} {room : List Int} {ns : Nat} (hr : ∀ s : Nat, s < ns → 0 ≤ room.getD s 0) : PV fits room ns (List.replicate fits.length (-1)) := by
  refine ⟨by simp, fun f hf => Or.inl ?_, fun s hs => ?_⟩
  · simp [List.getD_eq_getElem?_getD, List.getElem?_replicate, hf]
  · have := hr s hs
    rw [ld_cnt, List.count_replicate]
    have e : ((-1 : Int) == (s : Int)) = false := by
      rw [beq_eq_false_iff_ne]
      omega
    rw [e]
    simpa using this
theorem asg_of_pv {fits : List (List Int)} {room : List Int} {ns : Nat} {out : Int} {l : List Int} (hv : PV fits room ns l) (ho : ∀ o : Nat, (o : Int) = out → o < fits.length → l.getD o 0 = -1) (hd : ∀ f : Nat, f < fits.length → fits.getD f [] ≠ [] → (f : Int) ≠ out → 0 ≤ l.getD f 0) : Asg fits room ns out l := by
  refine ⟨hv.len, fun f hf h => ?_, fun f hf h1 h2 => ?_, hv.load⟩
  · rcases h with h | h
    · rcases hv.fit f hf with k | k
      · exact k
      · rw [h] at k; simp at k
    · exact ho f h hf
  · rcases hv.fit f hf with k | k
    · have := hd f hf h1 h2; omega
    · exact k
theorem pv_of_asg {fits : List (List Int)} {room : List Int} {ns : Nat} {out : Int} {l : List Int} (ha : Asg fits room ns out l) : PV fits room ns l := by
  refine ⟨ha.len, fun f hf => ?_, ha.load⟩
  by_cases h : fits.getD f [] = [] ∨ (f : Int) = out
  · exact Or.inl (ha.none f hf h)
  · exact Or.inr (ha.some f hf (fun e => h (Or.inl e)) (fun e => h (Or.inr e)))
theorem fill_yes {fits : List (List Int)} {room : List Int} {ns : Nat} {out : Int} (hf : FitsOk fits ns) (hr : ∀ s : Nat, s < ns → 0 ≤ room.getD s 0) (hok : (fillF fits room ns out (List.replicate fits.length (-1))).ok = true) :
    Asg fits room ns out (fillF fits room ns out (List.replicate fits.length (-1))).has ∧ (fillF fits room ns out (List.replicate fits.length (-1))).hall = [] := by
  obtain ⟨a1, a2, a3, a4, a5⟩ := (fillL_spec hf out (List.range fits.length) _ (pv_none hr) (fun o _ h => by simp [List.getD_eq_getElem?_getD, List.getElem?_replicate, h]) (fun f hf => List.mem_range.1 hf)).1 hok
  exact ⟨asg_of_pv a1 a2 fun f hf => a4 f (List.mem_range.2 hf), a5⟩
theorem fill_no {fits : List (List Int)} {room : List Int} {ns : Nat} {out : Int} (hf : FitsOk fits ns) (hr : ∀ s : Nat, s < ns → 0 ≤ room.getD s 0) (hok : (fillF fits room ns out (List.replicate fits.length (-1))).ok = false) :
    HallV fits room ns out (fillF fits room ns out (List.replicate fits.length (-1))).hall :=
  (fillL_spec hf out (List.range fits.length) _ (pv_none hr) (fun o _ h => by simp [List.getD_eq_getElem?_getD, List.getElem?_replicate, h]) (fun f hf => List.mem_range.1 hf)).2 hok
/-- Filling comes to an assignment exactly if there is one. -/
theorem fill_iff {fits : List (List Int)} {room : List Int} {ns : Nat} {out : Int} (hf : FitsOk fits ns) (hr : ∀ s : Nat, s < ns → 0 ≤ room.getD s 0) : (fillF fits room ns out (List.replicate fits.length (-1))).ok = true ↔ ∃ l, Asg fits room ns out l := by
  constructor
  · intro h
    exact ⟨_, (fill_yes hf hr h).1⟩
  · rintro ⟨l, hl⟩
    cases hok : (fillF fits room ns out (List.replicate fits.length (-1))).ok with
    | true => rfl
    | false => exact (asg_no_hall hf hl (fill_no hf hr hok)).elim
end Go.Proofs.Ytkmmihadcbfkoaa
end

section
namespace Go.Proofs.Ytkmmihadcbfkoaa
set_option linter.unusedVariables false
set_option linter.unusedSimpArgs false
/-- The rooms, one slot having one less. -/
def lessR (room : List Int) (slot : Int) : List Int := room.set slot.toNat (room.getD slot.toNat 0 - 1)
theorem lessR_at {room : List Int} {slot : Int} (h : slot.toNat < room.length) (t : Nat) : (lessR room slot).getD t 0 = if t = slot.toNat then room.getD slot.toNat 0 - 1 else room.getD t 0 := getD_set room slot.toNat _ 0 t h
theorem asg_put {fits : List (List Int)} {room : List Int} {ns : Nat} (hf : FitsOk fits ns) (hrl : room.length = ns) {find : Nat} {slot : Int} (hfd : find < fits.length) (hin : slot ∈ fits.getD find []) {l : List Int} (ha : Asg fits (lessR room slot) ns find l) :
    Asg fits room ns (-1) (l.set find slot) ∧ (l.set find slot).getD find 0 = slot := by
  obtain ⟨hs0, hs1⟩ := hf find hfd slot hin
  have hfl : find < l.length := by rw [ha.len]; exact hfd
  have hm1 := ha.none find hfd (Or.inr rfl)
  refine ⟨⟨by rw [List.length_set]; exact ha.len, fun f h k => ?_, fun f h k1 k2 => ?_, fun s hs => ?_⟩, by rw [getD_set l find slot 0 find hfl, if_pos rfl]⟩
  · rw [getD_set l find slot 0 f hfl]
    rcases k with k | k
    · rw [if_neg (fun e => by rw [e] at k; rw [k] at hin; simp at hin)]
      exact ha.none f h (Or.inl k)
    · omega
  · rw [getD_set l find slot 0 f hfl]
    by_cases e : f = find
    · rw [if_pos e, e]; exact hin
    · rw [if_neg e]
      exact ha.some f h k1 (by omega)
  · rw [ld_set l find slot s hfl, hm1, if_neg (by omega)]
    have h := ha.load s hs
    rw [lessR_at (by omega)] at h
    by_cases e : slot = (s : Int)
    · rw [if_pos e]
      rw [if_pos (by omega)] at h
      have : slot.toNat = s := by omega
      rw [this] at h
      omega
    · rw [if_neg e]
      rw [if_neg (by omega)] at h
      omega
theorem asg_take {fits : List (List Int)} {room : List Int} {ns : Nat} (hrl : room.length = ns) {find : Nat} {slot : Int} (hfd : find < fits.length) (hs0 : 0 ≤ slot) (hs1 : slot < ns) {l : List Int} (ha : Asg fits room ns (-1) l) (hl : l.getD find 0 = slot) :
    Asg fits (lessR room slot) ns find (l.set find (-1)) := by
  have hfl : find < l.length := by rw [ha.len]; exact hfd
  refine ⟨by rw [List.length_set]; exact ha.len, fun f h k => ?_, fun f h k1 k2 => ?_, fun s hs => ?_⟩
  · rw [getD_set l find (-1) 0 f hfl]
    by_cases e : f = find
    · rw [if_pos e]
    · rw [if_neg e]
      rcases k with k | k
      · exact ha.none f h (Or.inl k)
      · omega
  · rw [getD_set l find (-1) 0 f hfl, if_neg (fun e => k2 (by omega))]
    exact ha.some f h k1 (by omega)
  · rw [ld_set l find (-1) s hfl, hl, if_neg (show ¬ (-1 : Int) = (s : Int) by omega), lessR_at (by omega)]
    have h := ha.load s hs
    by_cases e : slot = (s : Int)
    · have : slot.toNat = s := by omega
      rw [if_pos e, if_pos (by omega), this]
      omega
    · rw [if_neg e, if_neg (by omega)]
      omega
/-- Some assignment gives the find the slot. -/
def Can (fits : List (List Int)) (room : List Int) (ns : Nat) (find : Nat) (slot : Int) : Prop := ∃ l, Asg fits room ns (-1) l ∧ l.getD find 0 = slot
theorem can_in {fits : List (List Int)} {room : List Int} {ns : Nat} {find : Nat} {slot : Int} (hfd : find < fits.length) (hs0 : 0 ≤ slot) (h : Can fits room ns find slot) : slot ∈ fits.getD find [] := by
  obtain ⟨l, ha, hl⟩ := h
  by_cases e : fits.getD find [] = []
  · have := ha.none find hfd (Or.inl e)
    omega
  · rw [← hl]
    exact ha.some find hfd e (by omega)
theorem can_iff {fits : List (List Int)} {room : List Int} {ns : Nat} (hf : FitsOk fits ns) (hrl : room.length = ns) {find : Nat} {slot : Int} (hfd : find < fits.length) (hin : slot ∈ fits.getD find []) : Can fits room ns find slot ↔ ∃ l, Asg fits (lessR room slot) ns find l := by
  obtain ⟨hs0, hs1⟩ := hf find hfd slot hin
  constructor
  · rintro ⟨l, ha, hl⟩
    exact ⟨_, asg_take hrl hfd hs0 hs1 ha hl⟩
  · rintro ⟨l, ha⟩
    exact ⟨_, asg_put hf hrl hfd hin ha⟩
theorem with_spec {fits : List (List Int)} {room : List Int} {ns : Nat} (hf : FitsOk fits ns) (hrl : room.length = ns) (hr1 : ∀ s : Nat, s < ns → 1 ≤ room.getD s 0) {has : List Int} (ha : Asg fits room ns (-1) has) {find : Nat} (hfd : find < fits.length) {slot : Int} (hs0 : 0 ≤ slot) :
    ((withF fits room ns has find slot).ok = true → Asg fits room ns (-1) (withF fits room ns has find slot).has ∧ (withF fits room ns has find slot).has.getD find 0 = slot) ∧
    ((withF fits room ns has find slot).ok = false → (withF fits room ns has find slot).has = [] ∧ ¬ Can fits room ns find slot) := by
  unfold withF
  by_cases h1 : slot ∉ fits.getD find []
  · rw [if_pos h1]
    exact ⟨fun h => (by cases h), fun _ => ⟨rfl, fun h => h1 (can_in hfd hs0 h)⟩⟩
  rw [if_neg h1]
  have hin : slot ∈ fits.getD find [] := Classical.not_not.1 h1
  obtain ⟨_, hs1⟩ := hf find hfd slot hin
  have hfl : find < has.length := by rw [ha.len]; exact hfd
  by_cases h2 : has.getD find 0 = slot
  · rw [if_pos h2]
    exact ⟨fun _ => ⟨ha, h2⟩, fun h => (by cases h)⟩
  rw [if_neg h2]
  have hfold : room.set slot.toNat (room.getD slot.toNat 0 - 1) = lessR room slot := rfl
  rw [hfold]
  have hl0 : ∀ t : Nat, ld (has.set find (-1)) t = ld has t - (if has.getD find 0 = (t : Int) then 1 else 0) := fun t => by
    rw [ld_set has find (-1) t hfl, if_neg (show ¬ (-1 : Int) = (t : Int) by omega), Int.add_zero]
  have hle0 : ∀ t : Nat, t < ns → ld (has.set find (-1)) t ≤ room.getD t 0 := fun t ht => by
    have := ha.load t ht
    rw [hl0]
    split <;> omega
  have hg0 : ∀ x : Nat, (has.set find (-1)).getD x 0 = if x = find then -1 else has.getD x 0 := fun x => getD_set has find (-1) 0 x hfl
  obtain ⟨has0, hh0⟩ : ∃ h0, has.set find (-1) = h0 := ⟨_, rfl⟩
  have hlen0 : has0.length = fits.length := by rw [← hh0, List.length_set]; exact ha.len
  rw [hh0] at hle0 hg0 hl0 ⊢
  have hroom1 : (lessR room slot).getD slot.toNat 0 = room.getD slot.toNat 0 - 1 := by rw [lessR_at (by omega), if_pos rfl]
  have hr1s := hr1 slot.toNat (by omega)
  by_cases h3 : (lessR room slot).getD slot.toNat 0 < ld has0 slot
  · rw [if_pos h3]
    rw [hroom1] at h3
    have hne : atOf has0 slot ≠ [] := fun e => by
      have : ld has0 slot = 0 := by unfold ld; rw [e]; rfl
      omega
    have hgm : (atOf has0 slot).getD 0 0 ∈ atOf has0 slot := by
      obtain ⟨a, l, e⟩ := List.exists_cons_of_ne_nil hne
      rw [e]
      simp
    obtain ⟨gi, hgi⟩ : ∃ gi, (atOf has0 slot).getD 0 0 = gi := ⟨_, rfl⟩
    rw [hgi] at hgm ⊢
    obtain ⟨g0, g1, g2⟩ := mem_atOf.1 hgm
    rw [← List.getD_eq_getElem?_getD] at g2
    obtain ⟨g, rfl⟩ : ∃ g : Nat, gi = (g : Int) := ⟨gi.toNat, by omega⟩
    rw [Int.toNat_natCast] at g2 ⊢
    have hgl : g < has0.length := by omega
    have hgf : g ≠ find := fun e => by rw [hg0, if_pos e] at g2; omega
    have hag : has.getD g 0 = slot := by rw [hg0, if_neg hgf] at g2; exact g2
    have hg1 : ∀ x : Nat, (has0.set g (-1)).getD x 0 = if x = g then -1 else has0.getD x 0 := fun x => getD_set has0 g (-1) 0 x hgl
    have hl1 : ∀ t : Nat, ld (has0.set g (-1)) t = ld has0 t - (if slot = (t : Int) then 1 else 0) := fun t => by
      rw [ld_set has0 g (-1) t hgl, if_neg (show ¬ (-1 : Int) = (t : Int) by omega), Int.add_zero, g2]
    have hlen1 : (has0.set g (-1)).length = fits.length := by rw [List.length_set]; exact hlen0
    obtain ⟨has1, hh1⟩ : ∃ h1, has0.set g (-1) = h1 := ⟨_, rfl⟩
    rw [hh1] at hg1 hl1 hlen1 ⊢
    have pv : PV fits (lessR room slot) ns has1 := by
      refine ⟨hlen1, fun f h => ?_, fun s hs => ?_⟩
      · rw [hg1, hg0]
        by_cases e1 : f = g
        · rw [if_pos e1]; exact Or.inl rfl
        · rw [if_neg e1]
          by_cases e2 : f = find
          · rw [if_pos e2]; exact Or.inl rfl
          · rw [if_neg e2]; exact (pv_of_asg ha).fit f h
      · have := hle0 s hs
        rw [hl1, lessR_at (by omega)]
        by_cases e : s = slot.toNat
        · rw [if_pos (by omega), if_pos e, ← e]; omega
        · rw [if_neg (by omega), if_neg e]; omega
    have hm1 : has1.getD g 0 = -1 := by rw [hg1, if_pos rfl]
    have hmf : has1.getD find 0 = -1 := by rw [hg1, if_neg (fun e => hgf e.symm), hg0, if_pos rfl]
    have hgn : fits.getD g [] ≠ [] := fun e => by
      have := ha.none g (by omega) (Or.inl e)
      omega
    have hG := give_good (room := lessR room slot) hf (f := g) (by omega) hlen1
    have hH := give_hall hf (f := g) (by omega) pv hm1 hgn (out := (find : Int)) (by omega) (fun o ho _ => by
      have : o = find := by omega
      rw [this]; exact hmf)
    obtain ⟨r, hr⟩ : ∃ r, giveR fits (lessR room slot) ns (g : Int) has1 = r := ⟨_, rfl⟩
    rw [hr] at hG hH ⊢
    by_cases hok : r.ok = true
    · rw [if_pos hok]
      refine ⟨fun _ => ?_, fun h => (by cases h)⟩
      obtain ⟨w1, w2⟩ := hG.win hok pv
      rw [Int.toNat_natCast] at w2
      refine asg_put hf hrl hfd hin (asg_of_pv w1 (fun o ho hl => ?_) fun f h k1 k2 => ?_)
      · have e : o = find := by omega
        subst e
        rcases w2.oth o hl (fun e => hgf e.symm) with k | ⟨k, _⟩
        · rw [k]; exact hmf
        · omega
      · by_cases e : f = g
        · subst e; exact w2.self.1
        · rcases w2.oth f h e with k | ⟨_, k, _⟩
          · rw [k, hg1, if_neg e, hg0, if_neg (by omega)]
            exact (hf f h _ (ha.some f h k1 (by omega))).1
          · exact k
    · rw [if_neg hok]
      refine ⟨fun h => (by cases h), fun _ => ⟨rfl, fun h => ?_⟩⟩
      obtain ⟨l, hl⟩ := (can_iff hf hrl hfd hin).1 h
      exact asg_no_hall hf hl (hH (by simpa using hok))
  · rw [if_neg h3]
    refine ⟨fun _ => ?_, fun h => (by cases h)⟩
    refine asg_put hf hrl hfd hin ⟨hlen0, fun f h k => ?_, fun f h k1 k2 => ?_, fun s hs => ?_⟩
    · rw [hg0]
      rcases k with k | k
      · by_cases e : f = find
        · rw [if_pos e]
        · rw [if_neg e]; exact ha.none f h (Or.inl k)
      · rw [if_pos (by omega)]
    · rw [hg0, if_neg (by omega)]
      exact ha.some f h k1 (by omega)
    · rw [lessR_at (by omega)]
      by_cases e : s = slot.toNat
      · rw [if_pos e]
        rw [hroom1] at h3
        have : (s : Int) = slot := by omega
        rw [this]
        omega
      · rw [if_neg e]; exact hle0 s hs
theorem with_iff {fits : List (List Int)} {room : List Int} {ns : Nat} (hf : FitsOk fits ns) (hrl : room.length = ns) (hr1 : ∀ s : Nat, s < ns → 1 ≤ room.getD s 0) {has : List Int} (ha : Asg fits room ns (-1) has) {find : Nat} (hfd : find < fits.length) {slot : Int} (hs0 : 0 ≤ slot) :
    (withF fits room ns has find slot).ok = true ↔ Can fits room ns find slot := by
  obtain ⟨h1, h2⟩ := with_spec hf hrl hr1 ha hfd hs0
  constructor
  · intro h
    exact ⟨_, h1 h⟩
  · intro h
    cases e : (withF fits room ns has find slot).ok with
    | true => rfl
    | false => exact absurd h (h2 e).2
end Go.Proofs.Ytkmmihadcbfkoaa
end

section
namespace Go.Proofs.Ytkmmihadcbfkoaa
open PM
set_option linter.unusedVariables false
set_option linter.unusedSimpArgs false
/-- A list is an assignment of the board. -/
abbrev AsgB (S : List S50) (T : List (List Int)) (l : List Int) : Prop := Asg T (rooms S) S.length (-1) l
/-- Some assignment of the board gives the find the slot. -/
abbrev CanB (S : List S50) (T : List (List Int)) (find : Nat) (slot : Int) : Prop := Can T (rooms S) S.length find slot
section
variable {F : List Int} {S : List S50} {T : List (List Int)}
theorem fitsok_of (hc : checkB F S T = 0) : FitsOk T S.length := fun f hf s hs => fits_mem (bok_of_check hc) f hf s hs
theorem rooms_len (S : List S50) : (rooms S).length = S.length := by simp [rooms]
theorem rooms_one (hc : checkB F S T = 0) : ∀ s : Nat, s < S.length → 1 ≤ (rooms S).getD s 0 := fun s hs => (room_bound hc s hs).1
theorem rooms_nn (hc : checkB F S T = 0) : ∀ s : Nat, s < S.length → 0 ≤ (rooms S).getD s 0 := fun s hs => by have := rooms_one hc s hs; omega
theorem isF_iff (hc : checkB F S T = 0) : isF F S T = true ↔ ∃ l, AsgB S T l := by
  unfold isF
  rw [← (bok_of_check hc).nt]
  exact fill_iff (fitsok_of hc) (rooms_nn hc)
theorem hasF_asg (hc : checkB F S T = 0) (h : isF F S T = true) : AsgB S T (hasF F S T) := by
  unfold isF at h
  unfold hasF
  rw [← (bok_of_check hc).nt] at h ⊢
  exact (fill_yes (fitsok_of hc) (rooms_nn hc) h).1
theorem hallR_iff (hc : checkB F S T = 0) {out : Int} {room : List Int} (hr : ∀ s : Nat, s < S.length → 0 ≤ room.getD s 0) : (hallR F S T out room).ok = true ↔ ∃ l, Asg T room S.length out l := by
  unfold hallR
  rw [← (bok_of_check hc).nt]
  exact fill_iff (fitsok_of hc) hr
theorem asc_of_ris {l : List Int} {a b : Int} (h : risB l a b = true) : l.Pairwise (· < ·) := by
  have hs : ∀ d i, i + d + 1 < l.length → l.getD i 0 < l.getD (i + d + 1) 0 := by
    intro d
    induction d with
    | zero => intro i hi; have := (risB_at h (i + 1) hi).2.2 (by omega); simpa using this
    | succ d ih =>
      intro i hi
      have h1 := ih i (by omega)
      have h2 := (risB_at h (i + d + 1 + 1) (by omega)).2.2 (by omega)
      have e : i + d + 1 + 1 - 1 = i + d + 1 := by omega
      rw [e] at h2
      have e2 : i + (d + 1) + 1 = i + d + 1 + 1 := by omega
      rw [e2]
      omega
  rw [List.pairwise_iff_getElem]
  intro i j hi hj hij
  have := hs (j - i - 1) i (by omega)
  rw [show i + (j - i - 1) + 1 = j by omega] at this
  simpa [List.getD_eq_getElem?_getD, List.getElem?_eq_getElem hi, List.getElem?_eq_getElem hj] using this
theorem withB_iff (hc : checkB F S T = 0) (his : isF F S T = true) {find : Nat} (hfd : find < T.length) {slot : Int} (h0 : 0 ≤ slot) : (withF T (rooms S) S.length (hasF F S T) find slot).ok = true ↔ CanB S T find slot :=
  with_iff (fitsok_of hc) (rooms_len S) (rooms_one hc) (hasF_asg hc his) hfd h0
end
end Go.Proofs.Ytkmmihadcbfkoaa
end

section
namespace Go.Proofs.Ytkmmihadcbfkoaa
open Go.RowKit Go.Proofs.YtkmmihadcbfkoaaW.PrintWords PM
set_option linter.unusedVariables false
set_option linter.unusedSimpArgs false
theorem Ev.same {α : Type} {x : Option α} {r : α} (h : x = some r) : Ev (fun _ => x) r := ⟨0, fun _ _ => h⟩
theorem take_step (l : List Int) (i : Nat) (h : i < l.length) (s : Int) : (l.take (i + 1)).count s = (l.take i).count s + if l.getD i 0 = s then 1 else 0 := by
  rw [List.take_add_one, List.count_append, List.getElem?_eq_getElem h, List.getD_eq_getElem?_getD, List.getElem?_eq_getElem h]
  show _ + List.count s [l[i]] = _ + if l[i] = s then 1 else 0
  rw [List.count_singleton]
  simp only [beq_iff_eq]
theorem ask_slot {F : List Int} {S : List S50} {T : List (List Int)} (hc : checkB F S T = 0) {slot : Int} (h0 : 0 ≤ slot) (h1 : slot < S.length) : askB F S T 0 slot true false = 0 := by
  unfold askB
  rw [if_neg (fun h => h hc)]
  have : inB slot 0 ((S.length : Int) - 1) = true := by
    unfold inB
    rw [Bool.and_eq_true, decide_eq_true_eq, decide_eq_true_eq]
    omega
  rw [this]
  rfl
end Go.Proofs.Ytkmmihadcbfkoaa
end

section
namespace Go.Proofs.Ytkmmihadcbfkoaa
open Go.RowKit Go.Proofs.YtkmmihadcbfkoaaW.PrintWords PM
set_option linter.unusedVariables false
set_option linter.unusedSimpArgs false
structure LAt (w0 : World) (A0 : Option Addr) (c0 : Nat) (F : List Int) (A1 : Option Addr) (c1 : Nat) (S : List S50) (A2 : Option Addr) (c2 : Nat) (T : List (List Int)) (w : World) : Prop where
  box : w.heap[w0.heap.size]? = some (.cells #[.slice A0 F.length c0, .slice A1 S.length c1, .slice A2 T.length c2] 26 (0, 0))
  B : Below w0.heap.size w0 w
  C0 : Kd.C (Kd.int .i64) w A0 F.length F
  l0 : F.length ≤ c0
  C1 : Kd.C k50 w A1 S.length S
  l1 : S.length ≤ c1
  C2 : Kd.C (Kd.slice 3 (Kd.int .i64)) w A2 T.length T
  l2 : T.length ≤ c2
section
variable {w0 w w' : World} {A0 : Option Addr} {c0 : Nat} {F : List Int} {A1 : Option Addr} {c1 : Nat} {S : List S50} {A2 : Option Addr} {c2 : Nat} {T : List (List Int)}
theorem LAt.start (C0 : Kd.C (Kd.int .i64) w0 A0 F.length F) (l0 : F.length ≤ c0) (C1 : Kd.C k50 w0 A1 S.length S) (l1 : S.length ≤ c1) (C2 : Kd.C (Kd.slice 3 (Kd.int .i64)) w0 A2 T.length T) (l2 : T.length ≤ c2) :
    LAt w0 A0 c0 F A1 c1 S A2 c2 T (w0.alloc (.cells #[.slice A0 F.length c0, .slice A1 S.length c1, .slice A2 T.length c2] 26)) := by
  have hB := (Below.refl w0.heap.size w0).alloc (Nat.le_refl _) (.cells #[.slice A0 F.length c0, .slice A1 S.length c1, .slice A2 T.length c2] 26)
  exact ⟨World.alloc_heap_new w0 _, hB, Kd.C_below C0 hB, l0, Kd.C_below C1 hB, l1, Kd.C_below C2 hB, l2⟩
theorem LAt.later (h : LAt w0 A0 c0 F A1 c1 S A2 c2 T w) (hb : Below w.heap.size w w') : LAt w0 A0 c0 F A1 c1 S A2 c2 T w' :=
  ⟨(hb.block w0.heap.size (Array.getElem?_eq_some_iff.1 h.box).1).trans h.box, h.B.trans (hb.mono h.B.size), Kd.C_below h.C0 hb, h.l0, Kd.C_below h.C1 hb, h.l1, Kd.C_below h.C2 hb, h.l2⟩
theorem LAt.k0 (h : LAt w0 A0 c0 F A1 c1 S A2 c2 T w) : w.cell? ⟨w0.heap.size, 0, none⟩ = some (.slice A0 F.length c0) := cell_of_heap h.box (j := 0) rfl
theorem LAt.k1 (h : LAt w0 A0 c0 F A1 c1 S A2 c2 T w) : w.cell? ⟨w0.heap.size, 1, none⟩ = some (.slice A1 S.length c1) := cell_of_heap h.box (j := 1) rfl
theorem LAt.k2 (h : LAt w0 A0 c0 F A1 c1 S A2 c2 T w) : w.cell? ⟨w0.heap.size, 2, none⟩ = some (.slice A2 T.length c2) := cell_of_heap h.box (j := 2) rfl
theorem LAt.rows (h : LAt w0 A0 c0 F A1 c1 S A2 c2 T w) : ∀ l, l ∈ T → l.length ≤ 9223372036854775807 := by
  intro l hl
  obtain ⟨j, hj, he⟩ := List.getElem_of_mem hl
  obtain ⟨ad, _, hc⟩ := h.C2.2.2 (by omega)
  obtain ⟨c, _, ⟨A', c', _, _, hC⟩, _⟩ := hc j l (by rw [List.getElem?_eq_getElem hj, he])
  exact hC.2.1
end
end Go.Proofs.Ytkmmihadcbfkoaa
end

section
namespace Go.Proofs.Ytkmmihadcbfkoaa
open PM
set_option linter.unusedVariables false
set_option linter.unusedSimpArgs false
section
variable {F : List Int} {S : List S50} {T : List (List Int)}
theorem isF_rows (hnn : ∀ s : Nat, s < S.length → 0 ≤ (rooms S).getD s 0) {T' : List (List Int)} (hl : T'.length = F.length) (hf : FitsOk T' S.length) : isF F S T' = true ↔ ∃ l, AsgB S T' l := by
  unfold isF
  rw [← hl]
  exact fill_iff hf hnn
theorem getD_set_row (T : List (List Int)) (i : Nat) (x : List Int) (j : Nat) (h : i < T.length) : (T.set i x).getD j [] = if j = i then x else T.getD j [] := getD_set T i x [] j h
/-- Behind f finds: these have one slot alone, as found; there is an assignment still. -/
structure FirstInv (S : List S50) (T0 : List (List Int)) (f : Nat) (T : List (List Int)) (out : List Int) : Prop where
  len : T.length = T0.length
  olen : out.length = T0.length
  new : ∀ j : Nat, f ≤ j → j < T0.length → T.getD j [] = T0.getD j [] ∧ out.getD j 0 = -1
  old : ∀ j : Nat, j < f → j < T0.length → (T0.getD j [] = [] ∧ T.getD j [] = [] ∧ out.getD j 0 = -1) ∨ (out.getD j 0 ∈ T0.getD j [] ∧ T.getD j [] = [out.getD j 0])
  has : ∃ l, AsgB S T l
theorem FirstInv.fits {f : Nat} {T0 T : List (List Int)} {out : List Int} (h : FirstInv S T0 f T out) (hf : FitsOk T0 S.length) : FitsOk T S.length := by
  intro j hj s hs
  have hj0 : j < T0.length := by rw [← h.len]; exact hj
  by_cases hlt : j < f
  · rcases h.old j hlt hj0 with ⟨_, e, _⟩ | ⟨e1, e2⟩
    · rw [e] at hs; simp at hs
    · rw [e2] at hs
      have := List.mem_singleton.1 hs
      subst this
      exact hf j hj0 _ e1
  · rw [(h.new j (by omega) hj0).1] at hs
    exact hf j hj0 s hs
/-- An assignment of a board with a row that is longer is one of the board with the slot alone that it has. -/
theorem asg_row {T : List (List Int)} {f : Nat} (hf : f < T.length) {row : List Int} {l : List Int} {s : Int} (h : AsgB S T l) (he : T.getD f [] ≠ []) (hs : l.getD f 0 = s) : AsgB S (T.set f [s]) l := by
  refine ⟨by rw [List.length_set]; exact h.len, fun j hj k => ?_, fun j hj k1 k2 => ?_, h.load⟩
  · rw [List.length_set] at hj
    rw [getD_set_row T f [s] j hf] at k
    by_cases e : j = f
    · rw [if_pos e] at k
      rcases k with k | k
      · cases k
      · omega
    · rw [if_neg e] at k
      exact h.none j hj k
  · rw [List.length_set] at hj
    rw [getD_set_row T f [s] j hf] at k1 ⊢
    by_cases e : j = f
    · rw [if_pos e, e, hs]; exact List.mem_singleton.2 rfl
    · rw [if_neg e] at k1 ⊢
      exact h.some j hj k1 k2
theorem asg_unrow {T : List (List Int)} {f : Nat} (hf : f < T.length) {l : List Int} {s : Int} (h : AsgB S (T.set f [s]) l) (hs : s ∈ T.getD f []) : AsgB S T l ∧ l.getD f 0 = s := by
  have hl : l.length = T.length := by have := h.len; rwa [List.length_set] at this
  have hfs : l.getD f 0 = s := by
    have := h.some f (by rw [List.length_set]; exact hf) (by rw [getD_set_row T f [s] f hf, if_pos rfl]; simp) (by omega)
    rw [getD_set_row T f [s] f hf, if_pos rfl] at this
    exact List.mem_singleton.1 this
  refine ⟨⟨hl, fun j hj k => ?_, fun j hj k1 k2 => ?_, h.load⟩, hfs⟩
  · have hj' : j < (T.set f [s]).length := by rw [List.length_set]; exact hj
    by_cases e : j = f
    · subst e
      rcases k with k | k
      · rw [k] at hs; simp at hs
      · omega
    · exact h.none j hj' (by rw [getD_set_row T f [s] j hf, if_neg e]; exact k)
  · have hj' : j < (T.set f [s]).length := by rw [List.length_set]; exact hj
    by_cases e : j = f
    · subst e; rw [hfs]; exact hs
    · have := h.some j hj' (by rw [getD_set_row T f [s] j hf, if_neg e]; exact k1) k2
      rw [getD_set_row T f [s] j hf, if_neg e] at this
      exact this
/-- The first slot of a row with which there is an assignment. -/
theorem tryRow_is {f : Nat} {T0 : List (List Int)} (hf0 : FitsOk T0 S.length) (hnn : ∀ s : Nat, s < S.length → 0 ≤ (rooms S).getD s 0) (hF : T0.length = F.length) (hff : f < T0.length) (out : List Int) :
    ∀ (row : List Int) (T : List (List Int)), (∀ s, s ∈ row → s ∈ T0.getD f []) → T.length = T0.length → (∀ j : Nat, j < T0.length → j ≠ f → FitsOk [T.getD j []] S.length) → (∃ s, s ∈ row ∧ ∃ l, AsgB S (T.set f [s]) l) →
    ∃ pre s post, row = pre ++ s :: post ∧ (∀ t, t ∈ pre → ¬ ∃ l, AsgB S (T.set f [t]) l) ∧ (∃ l, AsgB S (T.set f [s]) l) ∧ tryRow F S f row T out = (T.set f [s], out.set f s)
  | [], T, _, _, _, h => by obtain ⟨s, hs, _⟩ := h; simp at hs
  | s :: row, T, hrow, hl, hfit, h => by
    unfold tryRow
    have hfs : FitsOk (T.set f [s]) S.length := by
      intro j hj t ht
      rw [List.length_set] at hj
      rw [getD_set_row T f [s] j (by omega)] at ht
      by_cases e : j = f
      · rw [if_pos e] at ht
        have := List.mem_singleton.1 ht
        subst this
        exact hf0 f hff _ (hrow _ List.mem_cons_self)
      · rw [if_neg e] at ht
        exact hfit j (by omega) e 0 (by simp) t (by simpa using ht)
    have hiff := isF_rows (F := F) hnn (T' := T.set f [s]) (by rw [List.length_set]; omega) hfs
    by_cases hok : isF F S (T.set f [s]) = true
    · rw [if_pos hok]
      exact ⟨[], s, row, rfl, fun t ht => by simp at ht, hiff.1 hok, rfl⟩
    · rw [if_neg hok]
      have hno : ¬ ∃ l, AsgB S (T.set f [s]) l := fun k => hok (hiff.2 k)
      have hset : ∀ t, (T.set f [s]).set f [t] = T.set f [t] := fun t => by rw [List.set_set]
      obtain ⟨pre, x, post, e1, e2, e3, e4⟩ := tryRow_is hf0 hnn hF hff out row (T.set f [s]) (fun t ht => hrow t (List.mem_cons_of_mem _ ht)) (by rw [List.length_set]; exact hl) (fun j hj hne => by
        rw [getD_set_row T f [s] j (by omega), if_neg hne]
        exact hfit j hj hne) (by
        obtain ⟨t, ht, hk⟩ := h
        rcases List.mem_cons.1 ht with e | ht
        · subst e; exact absurd hk hno
        · exact ⟨t, ht, by rw [hset]; exact hk⟩)
      refine ⟨s :: pre, x, post, by rw [e1]; rfl, fun t ht => ?_, by rw [hset] at e3; exact e3, by rw [e4, hset]⟩
      rcases List.mem_cons.1 ht with e | ht
      · rw [e]; exact hno
      · have := e2 t ht
        rwa [hset] at this
theorem tryRow_nil (F : List Int) (S : List S50) (f : Nat) (T : List (List Int)) (out : List Int) : tryRow F S f [] T out = (T, out) := rfl
/-- One find more. -/
theorem first_step {f : Nat} {T0 T : List (List Int)} {out : List Int} (hf0 : FitsOk T0 S.length) (hnn : ∀ s : Nat, s < S.length → 0 ≤ (rooms S).getD s 0) (hF : T0.length = F.length) (hff : f < T0.length) (h : FirstInv S T0 f T out) :
    FirstInv S T0 (f + 1) (tryRow F S f (T0.getD f []) T out).1 (tryRow F S f (T0.getD f []) T out).2 ∧
    (T0.getD f [] = [] ∧ (tryRow F S f (T0.getD f []) T out) = (T, out) ∨
     ∃ pre s post, T0.getD f [] = pre ++ s :: post ∧ (∀ t, t ∈ pre → ¬ ∃ l, AsgB S (T.set f [t]) l) ∧ (∃ l, AsgB S (T.set f [s]) l) ∧ tryRow F S f (T0.getD f []) T out = (T.set f [s], out.set f s)) := by
  obtain ⟨hT, ho⟩ := h.new f (Nat.le_refl _) hff
  have hfT : f < T.length := by rw [h.len]; exact hff
  have hfo : f < out.length := by rw [h.olen]; exact hff
  by_cases he : T0.getD f [] = []
  · rw [he, tryRow_nil]
    refine ⟨⟨h.len, h.olen, fun j h1 h2 => h.new j (by omega) h2, fun j h1 h2 => ?_, h.has⟩, Or.inl ⟨rfl, rfl⟩⟩
    by_cases e : j = f
    · subst e
      exact Or.inl ⟨he, by rw [hT]; exact he, ho⟩
    · exact h.old j (by omega) h2
  · have hfits := h.fits hf0
    obtain ⟨pre, s, post, e1, e2, e3, e4⟩ := tryRow_is (F := F) (T0 := T0) hf0 hnn hF hff out (T0.getD f []) T (fun _ k => k) h.len (fun j hj hne i hi s hs => by
      have : i = 0 := by simpa using hi
      subst this
      exact hfits j (by rw [h.len]; exact hj) s (by simpa using hs)) (by
      obtain ⟨l, hl⟩ := h.has
      have hin := hl.some f hfT (by rw [hT]; exact he) (by omega)
      rw [hT] at hin
      exact ⟨_, hin, l, asg_row (row := []) hfT hl (by rw [hT]; exact he) rfl⟩)
    rw [e4]
    refine ⟨⟨by rw [List.length_set]; exact h.len, by rw [List.length_set]; exact h.olen, fun j h1 h2 => ?_, fun j h1 h2 => ?_, e3⟩, Or.inr ⟨pre, s, post, e1, e2, e3, rfl⟩⟩
    · rw [getD_set_row T f [s] j hfT, getD_set out f s 0 j hfo, if_neg (by omega), if_neg (by omega)]
      exact h.new j (by omega) h2
    · rw [getD_set_row T f [s] j hfT, getD_set out f s 0 j hfo]
      by_cases e : j = f
      · rw [if_pos e, if_pos e]
        refine Or.inr ⟨?_, rfl⟩
        rw [e, e1]
        simp
      · rw [if_neg e, if_neg e]
        exact h.old j (by omega) h2
theorem nextF_inv {T0 : List (List Int)} (hf0 : FitsOk T0 S.length) (hnn : ∀ s : Nat, s < S.length → 0 ≤ (rooms S).getD s 0) (hF : T0.length = F.length) : ∀ (n f : Nat) (T : List (List Int)) (out : List Int), n + f = T0.length → FirstInv S T0 f T out →
    ∃ T', FirstInv S T0 T0.length T' (nextF F S T0 n f T out)
  | 0, f, T, out, hn, h => by
    have : f = T0.length := by omega
    subst this
    exact ⟨T, h⟩
  | n + 1, f, T, out, hn, h => by
    unfold nextF
    exact nextF_inv hf0 hnn hF n (f + 1) _ _ (by omega) (first_step hf0 hnn hF (by omega) h).1
theorem first_start {T0 : List (List Int)} (h : ∃ l, AsgB S T0 l) : FirstInv S T0 0 T0 (List.replicate T0.length (-1)) :=
  ⟨rfl, by simp, fun j _ h => ⟨rfl, by simp [List.getD_eq_getElem?_getD, List.getElem?_replicate, h]⟩, fun j h => absurd h (Nat.not_lt_zero _), h⟩
theorem inv_asg {T0 T : List (List Int)} {out : List Int} (h : FirstInv S T0 T0.length T out) : AsgB S T0 out := by
  obtain ⟨l, hl⟩ := h.has
  have hlen : l.length = T0.length := by rw [hl.len, h.len]
  have e : l = out := by
    refine List.ext_getElem (by rw [hlen, h.olen]) fun j h1 h2 => ?_
    have hj : j < T0.length := by omega
    have hjT : j < T.length := by rw [h.len]; exact hj
    have e1 : l.getD j 0 = l[j] := by simp [List.getD_eq_getElem?_getD, List.getElem?_eq_getElem h1]
    have e2 : out.getD j 0 = out[j] := by simp [List.getD_eq_getElem?_getD, List.getElem?_eq_getElem h2]
    rw [← e1, ← e2]
    rcases h.old j hj hj with ⟨_, k2, k3⟩ | ⟨_, k2⟩
    · rw [k3]; exact hl.none j hjT (Or.inl k2)
    · have := hl.some j hjT (by rw [k2]; simp) (by omega)
      rw [k2] at this
      exact List.mem_singleton.1 this
  subst e
  refine ⟨hlen, fun j hj k => ?_, fun j hj k1 k2 => ?_, hl.load⟩
  · rcases k with k | k
    · rcases h.old j hj hj with ⟨_, _, k3⟩ | ⟨k1, _⟩
      · exact k3
      · rw [k] at k1; simp at k1
    · omega
  · rcases h.old j hj hj with ⟨k3, _, _⟩ | ⟨k3, _⟩
    · exact absurd k3 k1
    · exact k3
/-- What Assign finds is an assignment. -/
theorem first_asg (hc : checkB F S T = 0) (h : isF F S T = true) : AsgB S T (firstF F S T) := by
  have hnt := (bok_of_check hc).nt
  obtain ⟨T', hT⟩ := nextF_inv (F := F) (fitsok_of hc) (rooms_nn hc) hnt T.length 0 T (List.replicate T.length (-1)) (by omega) (first_start ((isF_iff hc).1 h))
  unfold firstF
  rw [← hnt]
  exact inv_asg hT
end
end Go.Proofs.Ytkmmihadcbfkoaa
end

section
namespace Go.Proofs.Ytkmmihadcbfkoaa
open PM
set_option linter.unusedVariables false
set_option linter.unusedSimpArgs false
section
variable {F : List Int} {S : List S50} {T : List (List Int)}
theorem lowL_le (F : List Int) (S : List S50) (T : List (List Int)) (slot : Nat) : ∀ n l, lowL F S T slot n l ≤ l + n ∧ l ≤ lowL F S T slot n l
  | 0, l => ⟨Nat.le_refl _, Nat.le_refl _⟩
  | n + 1, l => by
    unfold lowL
    split
    · omega
    · have := lowL_le F S T slot n (l + 1); omega
theorem lowL_no (F : List Int) (S : List S50) (T : List (List Int)) (slot : Nat) : ∀ n l m, l ≤ m → m < lowL F S T slot n l → (hallR F S T (-1) ((rooms S).set slot (m : Int))).ok = false
  | 0, l, m, h1, h2 => by unfold lowL at h2; omega
  | n + 1, l, m, h1, h2 => by
    unfold lowL at h2
    split at h2
    · omega
    · rename_i hk
      by_cases e : m = l
      · subst e; simpa using hk
      · exact lowL_no F S T slot n (l + 1) m (by omega) h2
theorem lowL_yes (F : List Int) (S : List S50) (T : List (List Int)) (slot : Nat) : ∀ n l, lowL F S T slot n l < l + n → (hallR F S T (-1) ((rooms S).set slot (lowL F S T slot n l : Int))).ok = true
  | 0, l, h => by unfold lowL at h; omega
  | n + 1, l, h => by
    unfold lowL at h ⊢
    split
    · rename_i hk; exact hk
    · rename_i hk
      rw [if_neg hk] at h
      exact lowL_yes F S T slot n (l + 1) (by omega)
theorem asg_fit (hc : checkB F S T = 0) {l : List Int} (ha : AsgB S T l) {slot : Nat} : l.count (slot : Int) ≤ fitCount T (slot : Int) := by
  have h1 : l.count (slot : Int) = (List.range T.length).countP (fun j => l.getD j 0 == (slot : Int)) := by
    have := ld_countP l (slot : Int)
    rw [ld_cnt, ha.len] at this
    omega
  have h2 : fitCount T (slot : Int) = (List.range T.length).countP (fun j => decide ((slot : Int) ∈ T.getD j [])) := by
    unfold fitCount
    have e : T = (List.range T.length).map (fun j => T.getD j []) := by
      apply List.ext_getElem (by simp)
      intro i h1 h2
      simp [List.getD_eq_getElem?_getD, List.getElem?_eq_getElem h1]
    conv => lhs; rw [e]
    rw [List.countP_map]
    rfl
  rw [h1, h2]
  refine List.countP_mono_left fun j hj h => ?_
  have hj' := List.mem_range.1 hj
  have hl : l.getD j 0 = (slot : Int) := by simpa using h
  by_cases e : T.getD j [] = []
  · have := ha.none j hj' (Or.inl e)
    omega
  · have := ha.some j hj' e (by omega)
    rw [hl] at this
    exact decide_eq_true this
theorem room_set {slot : Nat} (hs : slot < S.length) (m : Int) (t : Nat) : ((rooms S).set slot m).getD t 0 = if t = slot then m else (rooms S).getD t 0 := getD_set (rooms S) slot m 0 t (by rw [rooms_len]; exact hs)
/-- Each assignment gives a slot a number of finds from low to high. -/
theorem load_between (hc : checkB F S T = 0) {l : List Int} (ha : AsgB S T l) {slot : Nat} (hs : slot < S.length) : (lowL F S T slot (highN S T slot) 0 : Int) ≤ ld l slot ∧ ld l slot ≤ (highN S T slot : Int) := by
  have hroom := ha.load slot hs
  have h1 := rooms_one hc slot hs
  constructor
  · refine Int.not_lt.1 fun h => ?_
    rw [ld_cnt] at h
    have hno := lowL_no F S T slot (highN S T slot) 0 (l.count (slot : Int)) (Nat.zero_le _) (by omega)
    have hyes : (hallR F S T (-1) ((rooms S).set slot ((l.count (slot : Int) : Nat) : Int))).ok = true := by
      refine (hallR_iff hc (fun s hs' => ?_)).2 ⟨l, ha.len, ha.none, ha.some, fun s hs' => ?_⟩
      · rw [room_set hs]
        have := rooms_one hc s hs'
        split <;> omega
      · rw [room_set hs]
        split
        · rename_i e; subst e; rw [ld_cnt]; exact Int.le_refl _
        · exact ha.load s hs'
    rw [hno] at hyes
    cases hyes
  · have h2 := asg_fit hc ha (slot := slot)
    rw [ld_cnt] at hroom ⊢
    unfold highN
    rw [Int.toNat_natCast]
    omega
theorem high_room (hc : checkB F S T = 0) {slot : Nat} (hs : slot < S.length) : (highN S T slot : Int) ≤ (S.getD slot z50).f2 := by
  have h1 := rooms_one hc slot hs
  rw [← rooms_at S slot hs]
  unfold highN
  rw [Int.toNat_natCast]
  omega
end
end Go.Proofs.Ytkmmihadcbfkoaa
end

section
namespace Go.Proofs.Ytkmmihadcbfkoaa
open PM
set_option linter.unusedVariables false
set_option linter.unusedSimpArgs false
/-- The extensions of a beginning, d finds being left. -/
def allP (S : List S50) (T : List (List Int)) : Nat → List Int → List (List Int)
  | 0, b => [b]
  | d + 1, b =>
    if T.getD b.length [] = [] then allP S T d (b ++ [-1])
    else (T.getD b.length []).flatMap fun s => if (rooms S).getD s.toNat 0 ≤ (b.count s : Nat) then [] else allP S T d (b ++ [s])
/-- A beginning that is as said. -/
structure Beg (S : List S50) (T : List (List Int)) (b : List Int) : Prop where
  len : b.length ≤ T.length
  none : ∀ j : Nat, j < b.length → T.getD j [] = [] → b.getD j 0 = -1
  some : ∀ j : Nat, j < b.length → T.getD j [] ≠ [] → b.getD j 0 ∈ T.getD j []
  load : ∀ s : Nat, s < S.length → (b.count (s : Int) : Int) ≤ (rooms S).getD s 0
section
variable {F : List Int} {S : List S50} {T : List (List Int)}
theorem getD_app (b : List Int) (x : Int) (j : Nat) : (b ++ [x]).getD j 0 = if j < b.length then b.getD j 0 else if j = b.length then x else 0 := by
  simp only [List.getD_eq_getElem?_getD]
  by_cases h : j < b.length
  · rw [if_pos h, List.getElem?_append_left h]
  · rw [if_neg h, List.getElem?_append_right (by omega)]
    by_cases e : j = b.length
    · rw [if_pos e, e]; simp
    · rw [if_neg e, List.getElem?_eq_none (by simp; omega)]
      rfl
theorem beg_app {b : List Int} (h : Beg S T b) (hl : b.length < T.length) {x : Int} (h1 : T.getD b.length [] = [] → x = -1) (h2 : T.getD b.length [] ≠ [] → x ∈ T.getD b.length []) (h3 : ∀ s : Nat, s < S.length → (s : Int) = x → (b.count x : Int) < (rooms S).getD s 0) : Beg S T (b ++ [x]) := by
  refine ⟨by simp; omega, fun j hj e => ?_, fun j hj e => ?_, fun s hs => ?_⟩
  · rw [getD_app]
    have hj' : j < b.length + 1 := by simpa using hj
    by_cases k : j < b.length
    · rw [if_pos k]; exact h.none j k e
    · have : j = b.length := by omega
      rw [if_neg k, if_pos this]
      exact h1 (this ▸ e)
  · rw [getD_app]
    have hj' : j < b.length + 1 := by simpa using hj
    by_cases k : j < b.length
    · rw [if_pos k]; exact h.some j k e
    · have : j = b.length := by omega
      rw [if_neg k, if_pos this, this]
      exact h2 (this ▸ e)
  · rw [List.count_append, List.count_singleton]
    have := h.load s hs
    by_cases k : x = (s : Int)
    · have := h3 s hs k.symm
      rw [k] at this
      rw [if_pos (by simp [k])]
      omega
    · rw [if_neg (by simpa using k)]
      omega
theorem take_app_iff {l b : List Int} {x : Int} (hl : b.length < l.length) : l.take (b ++ [x]).length = b ++ [x] ↔ l.take b.length = b ∧ l.getD b.length 0 = x := by
  have e : l.take (b ++ [x]).length = l.take b.length ++ [l.getD b.length 0] := by
    rw [List.length_append, List.length_singleton, List.take_add_one, List.getElem?_eq_getElem hl, List.getD_eq_getElem?_getD, List.getElem?_eq_getElem hl]
    rfl
  rw [e]
  constructor
  · intro h
    obtain ⟨h1, h2⟩ := List.append_inj h (by simp; omega)
    exact ⟨h1, by simpa using h2⟩
  · rintro ⟨h1, h2⟩
    rw [h1, h2]
theorem asg_of_beg {b : List Int} (h : Beg S T b) (hl : b.length = T.length) : AsgB S T b :=
  ⟨hl, fun f hf k => by
    rcases k with k | k
    · exact h.none f (by omega) k
    · omega, fun f hf k _ => h.some f (by omega) k, fun s hs => by rw [ld_cnt]; exact h.load s hs⟩
theorem mem_all (hf : FitsOk T S.length) : ∀ (d : Nat) (b l : List Int), b.length + d = T.length → Beg S T b → (l ∈ allP S T d b ↔ AsgB S T l ∧ l.take b.length = b)
  | 0, b, l, hd, h => by
    show l ∈ [b] ↔ _
    rw [List.mem_singleton]
    constructor
    · rintro rfl
      exact ⟨asg_of_beg h (by omega), by rw [List.take_length]⟩
    · rintro ⟨h1, h2⟩
      have := h1.len
      rw [List.take_of_length_le (by omega)] at h2
      exact h2
  | d + 1, b, l, hd, h => by
    have hlt : b.length < T.length := by omega
    unfold allP
    by_cases e : T.getD b.length [] = []
    · rw [if_pos e, mem_all hf d (b ++ [-1]) l (by simp; omega) (beg_app h hlt (fun _ => rfl) (fun k => absurd e k) (fun s _ k => by omega))]
      constructor
      · rintro ⟨h1, h2⟩
        exact ⟨h1, ((take_app_iff (by rw [h1.len]; exact hlt)).1 h2).1⟩
      · rintro ⟨h1, h2⟩
        exact ⟨h1, (take_app_iff (by rw [h1.len]; exact hlt)).2 ⟨h2, h1.none _ hlt (Or.inl e)⟩⟩
    · rw [if_neg e, List.mem_flatMap]
      constructor
      · rintro ⟨s, hs, hm⟩
        obtain ⟨s0, s1⟩ := hf _ hlt s hs
        by_cases k : (rooms S).getD s.toNat 0 ≤ (b.count s : Nat)
        · rw [if_pos k] at hm; simp at hm
        · rw [if_neg k, mem_all hf d (b ++ [s]) l (by simp; omega) (beg_app h hlt (fun k => absurd k e) (fun _ => hs) (fun t _ kt => by
            have : t = s.toNat := by omega
            rw [this]; omega))] at hm
          exact ⟨hm.1, ((take_app_iff (by rw [hm.1.len]; exact hlt)).1 hm.2).1⟩
      · rintro ⟨h1, h2⟩
        have hin := h1.some _ hlt e (by omega)
        obtain ⟨s0, s1⟩ := hf _ hlt _ hin
        have hll : b.length < l.length := by rw [h1.len]; exact hlt
        have htk := (take_app_iff (x := l.getD b.length 0) hll).2 ⟨h2, rfl⟩
        have hcnt : ¬ (rooms S).getD (l.getD b.length 0).toNat 0 ≤ (b.count (l.getD b.length 0) : Nat) := by
          have hload := h1.load (l.getD b.length 0).toNat (by omega)
          rw [Int.toNat_of_nonneg s0, ld_cnt] at hload
          have hc : (b ++ [l.getD b.length 0]).count (l.getD b.length 0) ≤ l.count (l.getD b.length 0) := by
            rw [← htk]; exact (List.take_sublist _ _).count_le _
          rw [List.count_append, List.count_singleton, if_pos (by simp)] at hc
          omega
        refine ⟨l.getD b.length 0, hin, ?_⟩
        rw [if_neg hcnt, mem_all hf d (b ++ [l.getD b.length 0]) l (by simp; omega) (beg_app h hlt (fun k => absurd k e) (fun _ => hin) (fun t _ kt => by
          have : t = (l.getD b.length 0).toNat := by omega
          rw [this]; omega))]
        exact ⟨h1, htk⟩
theorem beg_nil (hnn : ∀ s : Nat, s < S.length → 0 ≤ (rooms S).getD s 0) : Beg S T [] :=
  ⟨Nat.zero_le _, fun j hj => absurd hj (Nat.not_lt_zero _), fun j hj => absurd hj (Nat.not_lt_zero _), fun s hs => by simpa using hnn s hs⟩
/-- All assignments of a board. -/
def allB (S : List S50) (T : List (List Int)) : List (List Int) := allP S T T.length []
theorem mem_allB (hc : checkB F S T = 0) (l : List Int) : l ∈ allB S T ↔ AsgB S T l := by
  unfold allB
  rw [mem_all (fitsok_of hc) T.length [] l (by simp) (beg_nil (rooms_nn hc))]
  simp
theorem allB_ne (hc : checkB F S T = 0) : allB S T ≠ [] ↔ isF F S T = true := by
  rw [isF_iff hc]
  constructor
  · intro h
    obtain ⟨l, ls, e⟩ := List.exists_cons_of_ne_nil h
    exact ⟨l, (mem_allB hc l).1 (by rw [e]; simp)⟩
  · rintro ⟨l, hl⟩ e
    have := (mem_allB hc l).2 hl
    rw [e] at this
    simp at this
/-- An assignment of the board as it is narrowed: the first finds have what was found. -/
theorem inv_iff {f : Nat} {T0 T : List (List Int)} {out : List Int} (h : FirstInv S T0 f T out) (l : List Int) : AsgB S T l ↔ AsgB S T0 l ∧ ∀ j : Nat, j < f → j < T0.length → l.getD j 0 = out.getD j 0 := by
  constructor
  · intro hl
    have hlen : l.length = T0.length := by rw [hl.len, h.len]
    have hval : ∀ j : Nat, j < f → j < T0.length → l.getD j 0 = out.getD j 0 := fun j hj hj0 => by
      have hjT : j < T.length := by rw [h.len]; exact hj0
      rcases h.old j hj hj0 with ⟨_, k2, k3⟩ | ⟨_, k2⟩
      · rw [k3]; exact hl.none j hjT (Or.inl k2)
      · have := hl.some j hjT (by rw [k2]; simp) (by omega)
        rw [k2] at this
        exact List.mem_singleton.1 this
    refine ⟨⟨hlen, fun j hj k => ?_, fun j hj k1 k2 => ?_, hl.load⟩, hval⟩
    · rcases k with k | k
      · by_cases hlt : j < f
        · rw [hval j hlt hj]
          rcases h.old j hlt hj with ⟨_, _, k3⟩ | ⟨k3, _⟩
          · exact k3
          · rw [k] at k3; simp at k3
        · exact hl.none j (by rw [h.len]; exact hj) (Or.inl (by rw [(h.new j (by omega) hj).1]; exact k))
      · omega
    · by_cases hlt : j < f
      · rw [hval j hlt hj]
        rcases h.old j hlt hj with ⟨k3, _, _⟩ | ⟨k3, _⟩
        · exact absurd k3 k1
        · exact k3
      · have := hl.some j (by rw [h.len]; exact hj) (by rw [(h.new j (by omega) hj).1]; exact k1) k2
        rwa [(h.new j (by omega) hj).1] at this
  · rintro ⟨hl, hval⟩
    refine ⟨by rw [hl.len, h.len], fun j hj k => ?_, fun j hj k1 k2 => ?_, hl.load⟩
    · have hj0 : j < T0.length := by rw [← h.len]; exact hj
      rcases k with k | k
      · by_cases hlt : j < f
        · rcases h.old j hlt hj0 with ⟨_, _, k3⟩ | ⟨_, k3⟩
          · rw [hval j hlt hj0]; exact k3
          · rw [k3] at k; cases k
        · exact hl.none j hj0 (Or.inl (by rw [← (h.new j (by omega) hj0).1]; exact k))
      · omega
    · have hj0 : j < T0.length := by rw [← h.len]; exact hj
      by_cases hlt : j < f
      · rcases h.old j hlt hj0 with ⟨_, k3, _⟩ | ⟨_, k3⟩
        · exact absurd k3 k1
        · rw [k3, hval j hlt hj0]; exact List.mem_singleton.2 rfl
      · rw [(h.new j (by omega) hj0).1] at k1 ⊢
        exact hl.some j hj0 k1 k2
/-- What Assign finds is the first of all. -/
theorem all_head (hf0 : FitsOk T S.length) (hnn : ∀ s : Nat, s < S.length → 0 ≤ (rooms S).getD s 0) (hF : T.length = F.length) : ∀ (d : Nat) (b : List Int) (T' : List (List Int)) (out : List Int), b.length + d = T.length → Beg S T b → FirstInv S T b.length T' out → out = b ++ List.replicate d (-1) →
    (allP S T d b).head? = some (nextF F S T d b.length T' out)
  | 0, b, T', out, hd, hb, h, ho => by
    rw [ho]
    simp [allP, nextF]
  | d + 1, b, T', out, hd, hb, h, ho => by
    have hlt : b.length < T.length := by omega
    have hT'l : b.length < T'.length := by rw [h.len]; exact hlt
    obtain ⟨hinv, hcase⟩ := first_step (F := F) hf0 hnn hF hlt h
    unfold allP nextF
    rcases hcase with ⟨e, etr⟩ | ⟨pre, s, post, e, hpre, hs, etr⟩
    · rw [if_pos e]
      rw [etr] at hinv ⊢
      have hlen : (b ++ [(-1 : Int)]).length = b.length + 1 := by simp
      have ho' : out = (b ++ [-1]) ++ List.replicate d (-1) := by rw [ho, List.replicate_succ, List.append_assoc]; rfl
      have := all_head hf0 hnn hF d (b ++ [-1]) T' out (by simp; omega) (beg_app hb hlt (fun _ => rfl) (fun k => absurd e k) (fun s _ k => by omega)) (by rw [hlen]; exact hinv) ho'
      rw [hlen] at this
      exact this
    · have hne : T.getD b.length [] ≠ [] := by rw [e]; simp
      rw [if_neg hne]
      rw [etr] at hinv ⊢
      have hmem : ∀ t, t ∈ pre ++ s :: post → t ∈ T.getD b.length [] := fun t ht => by rw [e]; exact ht
      have hrow : T'.getD b.length [] = T.getD b.length [] := (h.new b.length (Nat.le_refl _) hlt).1
      have hext : ∀ t l, t ∈ T.getD b.length [] → AsgB S T l → l.take (b ++ [t]).length = b ++ [t] → AsgB S (T'.set b.length [t]) l := fun t l ht hl htk => by
        obtain ⟨k1, k2⟩ := (take_app_iff (by rw [hl.len]; exact hlt)).1 htk
        have hl' : AsgB S T' l := (inv_iff h l).2 ⟨hl, fun j hj _ => by
          have e1 : out.getD j 0 = b.getD j 0 := by
            rw [ho, List.getD_eq_getElem?_getD, List.getElem?_append_left hj, ← List.getD_eq_getElem?_getD]
          rw [e1, ← k1]
          simp [List.getD_eq_getElem?_getD, List.getElem?_take, hj]⟩
        exact asg_row (row := []) hT'l hl' (by rw [hrow]; exact hne) k2
      have hnone : ∀ t, t ∈ pre → (if (rooms S).getD t.toNat 0 ≤ (b.count t : Nat) then [] else allP S T d (b ++ [t])) = [] := fun t ht => by
        by_cases k : (rooms S).getD t.toNat 0 ≤ (b.count t : Nat)
        · rw [if_pos k]
        · rw [if_neg k]
          have htm := hmem t (List.mem_append_left _ ht)
          obtain ⟨t0, t1⟩ := hf0 _ hlt t htm
          by_cases k2 : allP S T d (b ++ [t]) = []
          · exact k2
          · obtain ⟨l, ls, el⟩ := List.exists_cons_of_ne_nil k2
            have hlm := (mem_all hf0 d (b ++ [t]) l (by simp; omega) (beg_app hb hlt (fun k => absurd k hne) (fun _ => htm) (fun x _ kx => by
              have : x = t.toNat := by omega
              rw [this]; omega))).1 (by rw [el]; simp)
            exact absurd ⟨l, hext t l htm hlm.1 hlm.2⟩ (hpre t ht)
      have hsm := hmem s (List.mem_append_right _ List.mem_cons_self)
      obtain ⟨s0, s1⟩ := hf0 _ hlt s hsm
      have hroom : ¬ (rooms S).getD s.toNat 0 ≤ (b.count s : Nat) := by
        obtain ⟨l, hl⟩ := hs
        obtain ⟨hl1, hl2⟩ := asg_unrow hT'l hl (by rw [hrow]; exact hsm)
        obtain ⟨hl3, hl4⟩ := (inv_iff h l).1 hl1
        have htk : l.take b.length = b := by
          refine List.ext_getElem (by have := hl3.len; simp; omega) fun j h1 h2 => ?_
          have hv := hl4 j h2 (by omega)
          have e1 : out.getD j 0 = b.getD j 0 := by
            rw [ho, List.getD_eq_getElem?_getD, List.getElem?_append_left h2, ← List.getD_eq_getElem?_getD]
          rw [e1] at hv
          have hjl : j < l.length := by rw [hl3.len]; omega
          rw [List.getElem_take]
          simpa [List.getD_eq_getElem?_getD, List.getElem?_eq_getElem hjl, List.getElem?_eq_getElem h2] using hv
        have htk2 := (take_app_iff (x := s) (by rw [hl3.len]; exact hlt)).2 ⟨htk, hl2⟩
        have hload := hl3.load s.toNat (by omega)
        rw [Int.toNat_of_nonneg s0, ld_cnt] at hload
        have hc : (b ++ [s]).count s ≤ l.count s := by
          rw [← htk2]; exact (List.take_sublist _ _).count_le _
        rw [List.count_append, List.count_singleton, if_pos (by simp)] at hc
        omega
      rw [e, List.flatMap_append, List.flatMap_cons, if_neg hroom]
      have hz : (pre.flatMap fun t => if (rooms S).getD t.toNat 0 ≤ (b.count t : Nat) then [] else allP S T d (b ++ [t])) = [] := by
        rw [List.flatMap_eq_nil_iff]
        exact hnone
      rw [hz, List.nil_append]
      have hlen : (b ++ [s]).length = b.length + 1 := by simp
      have ho' : out.set b.length s = (b ++ [s]) ++ List.replicate d (-1) := by
        rw [ho, List.replicate_succ, List.set_append_right _ _ (Nat.le_refl _), Nat.sub_self, List.append_assoc]
        rfl
      have := all_head hf0 hnn hF d (b ++ [s]) (T'.set b.length [s]) (out.set b.length s) (by simp; omega) (beg_app hb hlt (fun k => absurd k hne) (fun _ => hsm) (fun x _ kx => by
        have : x = s.toNat := by omega
        rw [this]; omega)) (by rw [hlen]; exact hinv) ho'
      rw [hlen] at this
      rw [List.head?_append, this]
      rfl
theorem allB_head (hc : checkB F S T = 0) (h : isF F S T = true) : (allB S T).head? = some (firstF F S T) := by
  have hnt := (bok_of_check hc).nt
  unfold allB firstF
  rw [← hnt]
  exact all_head (F := F) (fitsok_of hc) (rooms_nn hc) hnt T.length [] T _ (by simp) (beg_nil (rooms_nn hc)) (first_start ((isF_iff hc).1 h)) (by simp)
theorem all_len : ∀ (d : Nat) (b : List Int), (∀ j : Nat, (T.getD j []).length ≤ 5) → (allP S T d b).length ≤ 5 ^ d
  | 0, b, h => by simp [allP]
  | d + 1, b, h => by
    unfold allP
    split
    · exact Nat.le_trans (all_len d _ h) (Nat.pow_le_pow_right (by omega) (by omega))
    · have : ∀ row : List Int, (row.flatMap fun s => if (rooms S).getD s.toNat 0 ≤ (b.count s : Nat) then [] else allP S T d (b ++ [s])).length ≤ row.length * 5 ^ d := by
        intro row
        induction row with
        | nil => simp
        | cons s row ih =>
          rw [List.flatMap_cons, List.length_append, List.length_cons, Nat.succ_mul]
          have : (if (rooms S).getD s.toNat 0 ≤ (b.count s : Nat) then [] else allP S T d (b ++ [s])).length ≤ 5 ^ d := by
            split
            · exact Nat.zero_le _
            · exact all_len d _ h
          omega
      refine Nat.le_trans (this _) ?_
      rw [Nat.pow_succ, Nat.mul_comm]
      exact Nat.mul_le_mul_left _ (h _)
end
end Go.Proofs.Ytkmmihadcbfkoaa
end

section
namespace Go.Proofs.Ytkmmihadcbfkoaa
open PM
set_option linter.unusedVariables false
set_option linter.unusedSimpArgs false
theorem asc_ext : ∀ (a b : List Int), a.Pairwise (· < ·) → b.Pairwise (· < ·) → (∀ x, x ∈ a ↔ x ∈ b) → a = b
  | [], [], _, _, _ => rfl
  | [], y :: b, _, _, h => by have := (h y).2 (by simp); simp at this
  | x :: a, [], _, _, h => by have := (h x).1 (by simp); simp at this
  | x :: a, y :: b, ha, hb, h => by
    obtain ⟨ha1, ha2⟩ := List.pairwise_cons.1 ha
    obtain ⟨hb1, hb2⟩ := List.pairwise_cons.1 hb
    have e : x = y := by
      rcases List.mem_cons.1 ((h x).1 (by simp)) with k | k
      · exact k
      · rcases List.mem_cons.1 ((h y).2 (by simp)) with m | m
        · exact m.symm
        · have := hb1 x k; have := ha1 y m; omega
    subst e
    rw [asc_ext a b ha2 hb2 fun z => ?_]
    constructor
    · intro hz
      rcases List.mem_cons.1 ((h z).1 (List.mem_cons_of_mem _ hz)) with k | k
      · have := ha1 z hz; omega
      · exact k
    · intro hz
      rcases List.mem_cons.1 ((h z).2 (List.mem_cons_of_mem _ hz)) with k | k
      · have := hb1 z hz; omega
      · exact k
/-- The slots that some of these lists give a find. -/
def refCh (ns : Nat) (L : List (List Int)) (i : Nat) : List Int := ((List.range ns).filter fun s : Nat => L.any fun l => decide (l.getD i 0 = (s : Int))).map Int.ofNat
theorem mem_refCh {ns : Nat} {L : List (List Int)} {i : Nat} {x : Int} : x ∈ refCh ns L i ↔ 0 ≤ x ∧ x < ns ∧ ∃ l, l ∈ L ∧ l.getD i 0 = x := by
  unfold refCh
  rw [List.mem_map]
  constructor
  · rintro ⟨s, hs, rfl⟩
    obtain ⟨h1, h2⟩ := List.mem_filter.1 hs
    obtain ⟨l, hl, hd⟩ := List.any_eq_true.1 h2
    have := List.mem_range.1 h1
    exact ⟨Int.natCast_nonneg s, Int.ofNat_lt.2 this, l, hl, of_decide_eq_true hd⟩
  · rintro ⟨h0, h1, l, hl, e⟩
    refine ⟨x.toNat, List.mem_filter.2 ⟨List.mem_range.2 (by omega), List.any_eq_true.2 ⟨l, hl, decide_eq_true ?_⟩⟩, Int.toNat_of_nonneg h0⟩
    rw [e, Int.toNat_of_nonneg h0]
theorem refCh_asc (ns : Nat) (L : List (List Int)) (i : Nat) : (refCh ns L i).Pairwise (· < ·) := by
  unfold refCh
  rw [List.pairwise_map]
  exact (List.pairwise_lt_range.filter _).imp fun {a b} h => Int.ofNat_lt.2 h
section
variable {F : List Int} {S : List S50} {T : List (List Int)}
theorem mem_chances (hc : checkB F S T = 0) (his : isF F S T = true) {f : Nat} (hf : f < T.length) {x : Int} : x ∈ chancesF T (rooms S) S.length (hasF F S T) f ↔ 0 ≤ x ∧ CanB S T f x := by
  unfold chancesF
  rw [List.mem_filter]
  constructor
  · rintro ⟨h1, h2⟩
    have h0 := (fitsok_of hc f hf x h1).1
    exact ⟨h0, (withB_iff hc his hf h0).1 h2⟩
  · rintro ⟨h0, h1⟩
    exact ⟨can_in hf h0 h1, (withB_iff hc his hf h0).2 h1⟩
theorem chances_asc (hc : checkB F S T = 0) {f : Nat} (hf : f < T.length) (has : List Int) : (chancesF T (rooms S) S.length has f).Pairwise (· < ·) :=
  (asc_of_ris (fits_row (check_parts hc).2.2.2.2.2 f hf)).filter _
/-- Chances has what all assignments have. -/
theorem chances_eq (hc : checkB F S T = 0) (his : isF F S T = true) {f : Nat} (hf : f < T.length) : refCh S.length (allB S T) f = chancesF T (rooms S) S.length (hasF F S T) f := by
  refine asc_ext _ _ (refCh_asc _ _ _) (chances_asc hc hf _) fun x => ?_
  rw [mem_refCh, mem_chances hc his hf]
  constructor
  · rintro ⟨h0, _, l, hl, e⟩
    exact ⟨h0, l, (mem_allB hc l).1 hl, e⟩
  · rintro ⟨h0, l, hl, e⟩
    have hin := can_in hf h0 ⟨l, hl, e⟩
    exact ⟨h0, (fitsok_of hc f hf x hin).2, l, (mem_allB hc l).2 hl, e⟩
/-- One find more for a slot that does not have all that it can. -/
theorem load_more (hc : checkB F S T = 0) {slot : Nat} (hs : slot < S.length) {l : List Int} (ha : AsgB S T l) (h : ld l slot < (highN S T slot : Int)) : ∃ l', AsgB S T l' ∧ ld l' slot = ld l slot + 1 := by
  have h1 := rooms_one hc slot hs
  unfold highN at h
  rw [Int.toNat_natCast] at h
  have hroom : ld l slot < (rooms S).getD slot 0 := by omega
  have hfit : l.count (slot : Int) < fitCount T (slot : Int) := by rw [ld_cnt] at h; omega
  have hex : ∃ f, f < T.length ∧ (slot : Int) ∈ T.getD f [] ∧ l.getD f 0 ≠ (slot : Int) := by
    refine Classical.byContradiction fun hno => ?_
    have hle : fitCount T (slot : Int) ≤ l.count (slot : Int) := by
      have e1 : l.count (slot : Int) = (List.range T.length).countP (fun j => l.getD j 0 == (slot : Int)) := by
        have := ld_countP l (slot : Int)
        rw [ld_cnt, ha.len] at this
        omega
      have e2 : fitCount T (slot : Int) = (List.range T.length).countP (fun j => decide ((slot : Int) ∈ T.getD j [])) := by
        unfold fitCount
        have e : T = (List.range T.length).map (fun j => T.getD j []) := by
          apply List.ext_getElem (by simp)
          intro i h1 h2
          simp [List.getD_eq_getElem?_getD, List.getElem?_eq_getElem h1]
        conv => lhs; rw [e]
        rw [List.countP_map]
        rfl
      rw [e1, e2]
      refine List.countP_mono_left fun j hj hd => ?_
      have hj' := List.mem_range.1 hj
      refine beq_iff_eq.2 (Classical.byContradiction fun hne => hno ⟨j, hj', of_decide_eq_true hd, hne⟩)
    omega
  obtain ⟨f, hf, hin, hne⟩ := hex
  have hfl : f < l.length := by rw [ha.len]; exact hf
  refine ⟨l.set f slot, ⟨by rw [List.length_set]; exact ha.len, fun j hj k => ?_, fun j hj k1 k2 => ?_, fun s hs' => ?_⟩, ?_⟩
  · rw [getD_set l f _ 0 j hfl]
    by_cases e : j = f
    · subst e
      rcases k with k | k
      · rw [k] at hin; simp at hin
      · omega
    · rw [if_neg e]; exact ha.none j hj k
  · rw [getD_set l f _ 0 j hfl]
    by_cases e : j = f
    · rw [if_pos e, e]; exact hin
    · rw [if_neg e]; exact ha.some j hj k1 k2
  · rw [ld_set l f slot s hfl]
    have := ha.load s hs'
    by_cases e : (slot : Int) = (s : Int)
    · have e' : slot = s := by omega
      subst e'
      rw [if_neg hne, if_pos rfl]
      omega
    · rw [if_neg e]
      split <;> omega
  · rw [ld_set l f slot slot hfl, if_neg hne, if_pos rfl]
    omega
theorem high_attained (hc : checkB F S T = 0) (his : isF F S T = true) {slot : Nat} (hs : slot < S.length) : ∃ l, AsgB S T l ∧ ld l slot = (highN S T slot : Int) := by
  have step : ∀ (d : Nat) (l : List Int), AsgB S T l → (highN S T slot : Int) - ld l slot = d → ∃ l', AsgB S T l' ∧ ld l' slot = (highN S T slot : Int) := by
    intro d
    induction d with
    | zero => intro l hl h; exact ⟨l, hl, by omega⟩
    | succ d ih =>
      intro l hl h
      obtain ⟨l', h1, h2⟩ := load_more hc hs hl (by omega)
      exact ih l' h1 (by omega)
  obtain ⟨l, hl⟩ := (isF_iff hc).1 his
  have := (load_between hc hl hs).2
  exact step ((highN S T slot : Int) - ld l slot).toNat l hl (by omega)
theorem low_attained (hc : checkB F S T = 0) (his : isF F S T = true) {slot : Nat} (hs : slot < S.length) : ∃ l, AsgB S T l ∧ ld l slot = (lowL F S T slot (highN S T slot) 0 : Int) := by
  have hle := (lowL_le F S T slot (highN S T slot) 0).1
  by_cases h : lowL F S T slot (highN S T slot) 0 < highN S T slot
  · have hyes := lowL_yes F S T slot (highN S T slot) 0 (by omega)
    obtain ⟨l, hl⟩ := (hallR_iff hc (fun s hs' => by
      rw [room_set hs]
      have := rooms_one hc s hs'
      split <;> omega)).1 hyes
    have hhi := high_room hc hs
    rw [← rooms_at S slot hs] at hhi
    have ha : AsgB S T l := ⟨hl.len, hl.none, hl.some, fun s hs' => by
      have := hl.load s hs'
      rw [room_set hs] at this
      by_cases e : s = slot
      · subst e
        rw [if_pos rfl] at this
        omega
      · rw [if_neg e] at this
        exact this⟩
    have h1 := hl.load slot hs
    rw [room_set hs, if_pos rfl] at h1
    have h2 := (load_between hc ha hs).1
    exact ⟨l, ha, by omega⟩
  · obtain ⟨l, hl⟩ := (isF_iff hc).1 his
    have := load_between hc hl hs
    exact ⟨l, hl, by omega⟩
end
/-- The least and the greatest of the first k counts. -/
def minc (L : List (List Int)) (s : Int) : Nat → Int
  | 0 => 0
  | k + 1 => if k = 0 then ld (L.getD 0 []) s else if ld (L.getD k []) s < minc L s k then ld (L.getD k []) s else minc L s k
def maxc (L : List (List Int)) (s : Int) : Nat → Int
  | 0 => 0
  | k + 1 => if maxc L s k < ld (L.getD k []) s then ld (L.getD k []) s else maxc L s k
theorem minc_spec (L : List (List Int)) (s : Int) : ∀ k : Nat, (∀ j, j < k + 1 → minc L s (k + 1) ≤ ld (L.getD j []) s) ∧ ∃ j, j < k + 1 ∧ minc L s (k + 1) = ld (L.getD j []) s
  | 0 => by
    refine ⟨fun j hj => ?_, 0, by omega, rfl⟩
    have : j = 0 := by omega
    subst this
    exact Int.le_refl _
  | k + 1 => by
    obtain ⟨h1, j, hj, h2⟩ := minc_spec L s k
    obtain ⟨m, hm⟩ : ∃ m, minc L s (k + 1) = m := ⟨_, rfl⟩
    rw [hm] at h1 h2
    have e : minc L s (k + 1 + 1) = if ld (L.getD (k + 1) []) s < m then ld (L.getD (k + 1) []) s else m := by
      rw [← hm]
      show (if k + 1 = 0 then _ else _) = _
      rw [if_neg (by omega)]
    rw [e]
    by_cases h : ld (L.getD (k + 1) []) s < m
    · rw [if_pos h]
      refine ⟨fun i hi => ?_, k + 1, by omega, rfl⟩
      by_cases c : i < k + 1
      · have := h1 i c; omega
      · have : i = k + 1 := by omega
        subst this; exact Int.le_refl _
    · rw [if_neg h]
      refine ⟨fun i hi => ?_, j, by omega, h2⟩
      by_cases c : i < k + 1
      · exact h1 i c
      · have : i = k + 1 := by omega
        subst this; omega
theorem maxc_spec (L : List (List Int)) (s : Int) : ∀ k : Nat, (∀ j, j < k → ld (L.getD j []) s ≤ maxc L s k) ∧ (maxc L s k = 0 ∨ ∃ j, j < k ∧ maxc L s k = ld (L.getD j []) s) ∧ 0 ≤ maxc L s k
  | 0 => ⟨fun j hj => absurd hj (Nat.not_lt_zero _), Or.inl rfl, Int.le_refl _⟩
  | k + 1 => by
    obtain ⟨h1, h2, h3⟩ := maxc_spec L s k
    unfold maxc
    have hn := ld_nonneg (L.getD k []) s
    by_cases h : maxc L s k < ld (L.getD k []) s
    · rw [if_pos h]
      refine ⟨fun i hi => ?_, Or.inr ⟨k, by omega, rfl⟩, hn⟩
      by_cases c : i < k
      · have := h1 i c; omega
      · have : i = k := by omega
        subst this; exact Int.le_refl _
    · rw [if_neg h]
      refine ⟨fun i hi => ?_, h2.imp id fun ⟨j, hj, e⟩ => ⟨j, by omega, e⟩, h3⟩
      by_cases c : i < k
      · exact h1 i c
      · have : i = k := by omega
        subst this; omega
section
variable {F : List Int} {S : List S50} {T : List (List Int)}
theorem mem_at {L : List (List Int)} {l : List Int} : l ∈ L ↔ ∃ j, j < L.length ∧ L.getD j [] = l := by
  constructor
  · intro h
    obtain ⟨j, hj, e⟩ := List.getElem_of_mem h
    exact ⟨j, hj, by rw [List.getD_eq_getElem?_getD, List.getElem?_eq_getElem hj]; exact e⟩
  · rintro ⟨j, hj, rfl⟩
    rw [List.getD_eq_getElem?_getD, List.getElem?_eq_getElem hj]
    exact List.getElem_mem hj
/-- Load has what all assignments have. -/
theorem load_eq (hc : checkB F S T = 0) (his : isF F S T = true) {slot : Nat} (hs : slot < S.length) : minc (allB S T) slot (allB S T).length = (lowL F S T slot (highN S T slot) 0 : Int) ∧ maxc (allB S T) slot (allB S T).length = (highN S T slot : Int) := by
  have hne := (allB_ne hc).2 his
  obtain ⟨n, hn⟩ : ∃ n, (allB S T).length = n + 1 := ⟨(allB S T).length - 1, by have := List.length_pos_iff.2 hne; omega⟩
  obtain ⟨k1, j, hj, k2⟩ := minc_spec (allB S T) slot n
  obtain ⟨m1, m2, m3⟩ := maxc_spec (allB S T) slot (allB S T).length
  constructor
  · rw [hn]
    obtain ⟨l, hl, e⟩ := low_attained hc his hs
    obtain ⟨i, hi, ei⟩ := mem_at.1 ((mem_allB hc l).2 hl)
    have h1 := k1 i (by omega)
    rw [ei, e] at h1
    have h2 := (load_between hc ((mem_allB hc _).1 (mem_at.2 ⟨j, by omega, rfl⟩)) hs).1
    rw [← k2] at h2
    omega
  · obtain ⟨l, hl, e⟩ := high_attained hc his hs
    obtain ⟨i, hi, ei⟩ := mem_at.1 ((mem_allB hc l).2 hl)
    have h1 := m1 i hi
    rw [ei, e] at h1
    rcases m2 with m | ⟨j, hj, m⟩
    · omega
    · have h2 := (load_between hc ((mem_allB hc _).1 (mem_at.2 ⟨j, hj, rfl⟩)) hs).2
      rw [← m] at h2
      omega
end
end Go.Proofs.Ytkmmihadcbfkoaa
end
