/-
  MatchAll holds: for every board and slot, the law returns true and what it is given reads as it did. (part 6 of 6 of the texts that it stands on)
-/
import Derived.Lib.SmallJoins
import Derived.Deep.Matrix
import Derived.Deep.Slices
import Derived.Deep.Strs
import Derived.ChangeSlices
import Derived.ProofKit
import Derived.OpenShut
import Derived.ChangeOld
import Derived.Below
import Derived.WalkKit
import Derived.Test.YtkmmihadcbfkoaaRows
import Derived.Test.YtkmmihadcbfkoaaZAlle
section
namespace Go.Proofs.Ytkmmihadcbfkoaa
open Go.RowKit Go.Proofs.YtkmmihadcbfkoaaW.PrintWords PM
set_option linter.unusedVariables false
set_option linter.unusedSimpArgs false
section
variable {F : List Int} {S : List S50} {T : List (List Int)}
theorem pow5 {d : Nat} (h : d ≤ 6) : 5 ^ d ≤ 15625 := Nat.pow_le_pow_right (n := 5) (by omega) h
/-- What the extensions by the slots of a row come to. -/
def rowP (S : List S50) (T : List (List Int)) (d : Nat) (b row : List Int) : List (List Int) := row.flatMap fun s => if (rooms S).getD s.toNat 0 ≤ (b.count s : Nat) then [] else allP S T d (b ++ [s])
theorem rowP_cons (d : Nat) (b : List Int) (s : Int) (row : List Int) : rowP S T d b (s :: row) = (if (rooms S).getD s.toNat 0 ≤ (b.count s : Nat) then [] else allP S T d (b ++ [s])) ++ rowP S T d b row := by
  unfold rowP
  rw [List.flatMap_cons]
theorem all_loop (d : Nat) (b L row : List Int) (hL : L.length = S.length) (hns : S.length ≤ 200) (hbl : b.length ≤ 60) (hrd : rd_L1 T (b.length : Int) = row) (hlt : b.length < T.length) (hrl : row.length ≤ 5) (hin : ∀ s, s ∈ row → 0 ≤ s ∧ s < S.length) (hcnt : ∀ s : Nat, s < S.length → L.getD s 0 = (b.count (s : Int) : Nat)) (N : Nat) (hN : N ≤ 15625) (hlen : ∀ s, s ∈ row → (allP S T d (b ++ [s])).length ≤ N)
    (ihd : ∀ s, s ∈ row → Ev (fun k => laganref04_all.f k F S T (b ++ [s]) (L.set s.toNat ((b.count s : Nat) + 1))) (allP S T d (b ++ [s]))) (m : Nat) :
    ∀ (i : Nat) (acc : List (List Int)), row.length - i = m → i ≤ row.length → acc.length ≤ i * N → Ev (fun k => laganref04_all.l0 k b L (b.length : Int) acc (i : Int) F S T) (acc ++ rowP S T d b (row.drop i)) := by
  induction m with
  | zero =>
    intro i acc hm hi ha
    rw [List.drop_of_length_le (by omega)]
    have h1 : ¬ (i : Int) < ((rd_L1 T (b.length : Int)).length : Int) := by rw [hrd]; omega
    refine Ev.into (fun k => by rw [laganref04_all.l0]) (Ev.pos (by omega) (Ev.pos (by omega) (Ev.neg h1 ?_)))
    simpa [rowP] using Ev.const acc
  | succ m ih =>
    intro i acc hm hi ha
    have hil : i < row.length := by omega
    have hi1 : row.length - (i + 1) = m := by omega
    have hi2 : i + 1 ≤ row.length := by omega
    have hi3 : (i : Int) < (row.length : Int) := by omega
    have hi4 : (0 : Int) ≤ (i : Int) := by omega
    have hi6 : i ≤ 4 := by omega
    have hb1 : b.length + 1 < 17592186044416 := by omega
    have hb2 : ([] : List Int).length + L.length < 17592186044416 := by rw [List.length_nil]; omega
    have hb3 : ([] : List Int).length + b.length < 17592186044416 := by rw [List.length_nil]; omega
    have hp0 : (0 : Int) ≤ (b.length : Int) := by omega
    have hp1 : (b.length : Int) < (T.length : Int) := by omega
    have hi7 : (i : Int) + 1 = ((i + 1 : Nat) : Int) := by omega
    have hw := wrap_pm (i := (i : Int)) (by omega) (by omega)
    obtain ⟨s, hs⟩ : ∃ s, row[i] = s := ⟨_, rfl⟩
    have hsm : s ∈ row := by rw [← hs]; exact List.getElem_mem hil
    obtain ⟨s0, s1⟩ := hin s hsm
    have hsL : s < (L.length : Int) := by rw [hL]; exact s1
    have hbc : b.count s ≤ b.length := List.count_le_length
    have hLw : wrap64 ((b.count s : Nat) + 1) = (b.count s : Nat) + 1 := (wrap_pm (i := (b.count s : Nat)) (Int.natCast_nonneg _) (Int.le_trans (Int.ofNat_le.2 (Nat.le_trans hbc hbl)) (by decide))).1
    have hrs : rd row (i : Int) = s := by rw [rd_nat, List.getD_eq_getElem?_getD, List.getElem?_eq_getElem hil]; exact hs
    have hLs : rd L s = (b.count s : Nat) := by
      have := hcnt s.toNat (by omega)
      rw [Int.toNat_of_nonneg s0] at this
      exact this
    have hSs : (rd_T50 S s).f2 = (rooms S).getD s.toNat 0 := by
      rw [rooms_at S s.toNat (by omega)]
      rfl
    have hmul : (i + 1) * N = i * N + N := Nat.succ_mul _ _
    rw [List.drop_eq_getElem_cons hil, hs, rowP_cons]
    refine Ev.into (fun k => by rw [laganref04_all.l0]) (Ev.pos hp0 (Ev.pos hp1 ?_))
    rw [hrd, hrs, hw.1, hi7, hLs, hSs]
    refine Ev.pos hi3 (Ev.pos hi4 (Ev.pos s0 (Ev.pos hsL (Ev.pos s1 ?_))))
    by_cases hfull : (rooms S).getD s.toNat 0 ≤ (b.count s : Nat)
    · rw [if_pos hfull, List.nil_append]
      exact Ev.pos hfull (ih (i + 1) acc hi1 hi2 (by rw [hmul]; exact Nat.le_trans ha (Nat.le_add_right _ _)))
    · rw [if_neg hfull]
      refine Ev.neg hfull (Ev.bind (Ev.const ([] : List Int)) (Ev.pos hb2 (Ev.bind (Ev.const L) (Ev.pos hsL (Ev.bind (Ev.const ([] : List Int)) (Ev.pos hb3 (Ev.bind (Ev.const b) (Ev.bind (Ev.const [s]) (Ev.pos hb1 ?_)))))))))
      rw [hLs, hLw]
      refine Ev.bind (ihd s hsm) ?_
      have hal := hlen s hsm
      have hi5 : i * N ≤ 4 * 15625 := Nat.mul_le_mul hi6 hN
      have hsum : acc.length + (allP S T d (b ++ [s])).length < 5864062014805 := Nat.lt_of_le_of_lt (Nat.add_le_add (Nat.le_trans ha hi5) (Nat.le_trans hal hN)) (by decide)
      rw [← List.append_assoc]
      exact Ev.pos hsum (ih (i + 1) (acc ++ allP S T d (b ++ [s])) hi1 hi2 (by rw [List.length_append, hmul]; exact Nat.add_le_add ha hal))
theorem all_ev (hc : checkB F S T = 0) (h5 : ∀ j : Nat, (T.getD j []).length ≤ 5) (hn : T.length ≤ 6) : ∀ (d : Nat) (b L : List Int), b.length + d = T.length → L.length = S.length → (∀ s : Nat, s < S.length → L.getD s 0 = (b.count (s : Int) : Nat)) →
    Ev (fun k => laganref04_all.f k F S T b L) (allP S T d b)
  | 0, b, L, hd, hL, hcnt => by
    have hnt := (bok_of_check hc).nt
    have hb3 : ([] : List Int).length + b.length < 17592186044416 := by rw [List.length_nil]; omega
    exact Ev.into (fun k => by rw [laganref04_all.f]) (Ev.pos (by omega) (Ev.bind (Ev.const ([] : List Int)) (Ev.pos hb3 (Ev.const _))))
  | d + 1, b, L, hd, hL, hcnt => by
    have hnt := (bok_of_check hc).nt
    have hns := (bok_of_check hc).ns
    have hlt : b.length < T.length := by omega
    have hb3 : ([] : List Int).length + b.length < 17592186044416 := by rw [List.length_nil]; omega
    have hrd : rd_L1 T (b.length : Int) = T.getD b.length [] := by simp [rd_L1]
    refine Ev.into (fun k => by rw [laganref04_all.f]) (Ev.neg (by omega) (Ev.pos (by omega) (Ev.pos (by omega) ?_)))
    unfold allP
    by_cases e : T.getD b.length [] = []
    · rw [if_pos e, hrd]
      have ih := all_ev hc h5 hn d (b ++ [-1]) L (by simp; omega) hL (fun s hs => by
        rw [hcnt s hs, List.count_append, List.count_singleton, if_neg (by simp)]
        rfl)
      refine Ev.pos (by rw [e]; rfl) (Ev.bind (Ev.const ([] : List Int)) (Ev.pos hb3 (Ev.bind (Ev.const b) (Ev.bind (Ev.const [(-1 : Int)]) (Ev.pos (by show b.length + 1 < 17592186044416; omega) ?_)))))
      exact Ev.bind ih (Ev.const _)
    · rw [if_neg e]
      refine Ev.neg (fun h => e (List.length_eq_zero_iff.1 (by rw [hrd] at h; omega))) ?_
      have hsl : ∀ s, s ∈ T.getD b.length [] → 0 ≤ s ∧ s < S.length := fun s hs => fitsok_of hc b.length hlt s hs
      have := all_loop (F := F) (S := S) (T := T) d b L (T.getD b.length []) hL hns (by omega) hrd hlt (h5 _) hsl hcnt (5 ^ d) (pow5 (by omega)) (fun s _ => all_len d _ h5) (fun s hs => by
        have hs' := hsl s hs
        refine all_ev hc h5 hn d (b ++ [s]) _ (by simp; omega) (by rw [List.length_set]; exact hL) (fun t ht => ?_)
        rw [getD_set L s.toNat _ 0 t (by omega), List.count_append, List.count_singleton]
        by_cases k : t = s.toNat
        · rw [if_pos k, if_pos (by rw [beq_iff_eq]; omega), show (t : Int) = s by omega]
          omega
        · rw [if_neg k, if_neg (by rw [beq_iff_eq]; omega), hcnt t ht]
          omega) (T.getD b.length []).length 0 [] (by omega) (by omega) (by simp)
      simpa [rowP] using this
theorem refall_is (hc : checkB F S T = 0) (h5 : ∀ j : Nat, (T.getD j []).length ≤ 5) (hn : T.length ≤ 6) : Ev (fun k => laganref04_All.f k F S T) (allB S T) := by
  have hk := bok_of_check hc
  have hns := hk.ns
  refine Ev.pos (by omega) (Ev.pos (by omega) ?_)
  refine Ev.bind (all_ev hc h5 hn T.length [] (List.replicate (((S.length : Int)) : Int).toNat 0) (by simp) (by simp) (fun s hs => ?_)) (Ev.const _)
  simp [List.getD_eq_getElem?_getD, List.getElem?_replicate, hs]
theorem cnt_ev (L : List (List Int)) (slot x6 x7 : Int) (j : Nat) (hj : j < L.length) (hl : (L.getD j []).length ≤ 1000) (r : Int × Int)
    (hend : Ev (fun k => if (j : Int) = 0 then (laganref04_Load.l0 k L slot (ld (L.getD j []) slot) (mx x7 (ld (L.getD j []) slot)) (wrap64 ((j : Int) + 1))) else (if ld (L.getD j []) slot < x6 then (laganref04_Load.l0 k L slot (ld (L.getD j []) slot) (mx x7 (ld (L.getD j []) slot)) (wrap64 ((j : Int) + 1))) else (laganref04_Load.l0 k L slot x6 (mx x7 (ld (L.getD j []) slot)) (wrap64 ((j : Int) + 1))))) r) (m : Nat) :
    ∀ i : Nat, (L.getD j []).length - i = m → i ≤ (L.getD j []).length → Ev (fun k => laganref04_Load.l1 k L slot x6 x7 (j : Int) ((((L.getD j []).take i).count slot : Nat) : Int) (i : Int)) r := by
  have hrd : rd_L1 L (j : Int) = L.getD j [] := by simp [rd_L1]
  obtain ⟨l, hle⟩ : ∃ l, L.getD j [] = l := ⟨_, rfl⟩
  rw [hle] at hend hl hrd ⊢
  induction m with
  | zero =>
    intro i hm hi
    have : i = l.length := by omega
    subst this
    rw [List.take_length]
    rw [ld_cnt] at hend
    exact Ev.into (fun k => by rw [laganref04_Load.l1]) (Ev.pos (by omega) (Ev.pos (by omega) (Ev.neg (by rw [hrd]; omega) hend)))
  | succ m ih =>
    intro i hm hi
    have hlt : i < l.length := by omega
    have hw := wrap_pm (i := (i : Int)) (by omega) (by omega)
    have hcnt : (l.take i).count slot ≤ i := Nat.le_trans List.count_le_length (by simp; omega)
    have hw2 := wrap_pm (i := (((l.take i).count slot : Nat) : Int)) (by omega) (by omega)
    have ih' := ih (i + 1) (by omega) (by omega)
    rw [take_step l i hlt slot] at ih'
    refine Ev.into (fun k => by rw [laganref04_Load.l1]) (Ev.pos (by omega) (Ev.pos (by omega) (Ev.pos (by rw [hrd]; omega) (Ev.pos (by omega) ?_))))
    rw [hrd, hw.1, hw2.1, rd_nat, show (i : Int) + 1 = ((i + 1 : Nat) : Int) by omega]
    by_cases h : l.getD i 0 = slot
    · rw [if_pos h] at ih'
      exact Ev.pos h ih'
    · rw [if_neg h] at ih'
      exact Ev.neg h ih'
theorem mx_eq (a b : Int) : mx a b = if a < b then b else a := rfl
theorem refload_ev (L : List (List Int)) (slot : Int) (hL : L.length ≤ 1000000) (hl : ∀ l, l ∈ L → l.length ≤ 1000) (m : Nat) : ∀ j : Nat, L.length - j = m → j ≤ L.length → Ev (fun k => laganref04_Load.l0 k L slot (minc L slot j) (maxc L slot j) (j : Int)) (minc L slot L.length, maxc L slot L.length) := by
  induction m with
  | zero =>
    intro j hm hj
    have : j = L.length := by omega
    subst this
    exact Ev.into (fun k => by rw [laganref04_Load.l0]) (Ev.neg (by omega) (Ev.const _))
  | succ m ih =>
    intro j hm hj
    have hlt : j < L.length := by omega
    have ih' := ih (j + 1) (by omega) (by omega)
    have hw := wrap_pm (i := (j : Int)) (by omega) (by omega)
    have hmx : mx (maxc L slot j) (ld (L.getD j []) slot) = maxc L slot (j + 1) := mx_eq _ _
    have hll : (L.getD j []).length ≤ 1000 := hl _ (mem_at.2 ⟨j, hlt, rfl⟩)
    refine Ev.into (fun k => by rw [laganref04_Load.l0]) (Ev.pos (by omega) ?_)
    have := cnt_ev L slot (minc L slot j) (maxc L slot j) j hlt hll (minc L slot L.length, maxc L slot L.length) (by
      rw [hmx, hw.1, show (j : Int) + 1 = ((j + 1 : Nat) : Int) by omega]
      by_cases h0 : j = 0
      · subst h0
        exact Ev.pos rfl ih'
      · refine Ev.neg (by omega) ?_
        have e : minc L slot (j + 1) = if ld (L.getD j []) slot < minc L slot j then ld (L.getD j []) slot else minc L slot j := by
          show (if j = 0 then _ else _) = _
          rw [if_neg h0]
        rw [e] at ih'
        by_cases h : ld (L.getD j []) slot < minc L slot j
        · rw [if_pos h] at ih'
          exact Ev.pos h ih'
        · rw [if_neg h] at ih'
          exact Ev.neg h ih') (L.getD j []).length 0 (by omega) (by omega)
    simpa using this
theorem refload_is (L : List (List Int)) (slot : Int) (hL : L.length ≤ 1000000) (hl : ∀ l, l ∈ L → l.length ≤ 1000) : Ev (fun k => laganref04_Load.f k L slot) (minc L slot L.length, maxc L slot L.length) := by
  have := refload_ev L slot hL hl L.length 0 (by omega) (by omega)
  exact this
/-- few lets small boards in alone. -/
theorem few_ev (hT : T.length ≤ 9223372036854775807) (m : Nat) : ∀ i : Nat, T.length - i = m → i ≤ T.length → ∃ b, Ev (fun k => laganlaw04_few.l0 k (i : Int) F S T) b ∧ (b = true → (∀ j : Nat, i ≤ j → (T.getD j []).length ≤ 5) ∧ (F.length ≤ 6 ∧ S.length ≤ 12 ∨ F.length > 60 ∨ S.length > 200)) := by
  induction m with
  | zero =>
    intro i hm hi
    have hz : ∀ j : Nat, i ≤ j → (T.getD j []).length ≤ 5 := fun j hj => by
      rw [List.getD_eq_getElem?_getD, List.getElem?_eq_none (by omega)]
      simp
    have h : ∃ b : Bool, Ev (fun _ => if (F.length : Int) ≤ 6 then (if (S.length : Int) ≤ 12 then (some true) else (if (F.length : Int) > 60 then (some true) else (some (decide ((S.length : Int) > 200))))) else (if (F.length : Int) > 60 then (some true) else (some (decide ((S.length : Int) > 200))))) b ∧ (b = true → (F.length ≤ 6 ∧ S.length ≤ 12 ∨ F.length > 60 ∨ S.length > 200)) := by
      by_cases h1 : (F.length : Int) ≤ 6
      · by_cases h2 : (S.length : Int) ≤ 12
        · exact ⟨_, Ev.pos h1 (Ev.pos h2 (Ev.const _)), fun _ => by omega⟩
        · by_cases h3 : (F.length : Int) > 60
          · exact ⟨_, Ev.pos h1 (Ev.neg h2 (Ev.pos h3 (Ev.const _))), fun _ => by omega⟩
          · exact ⟨_, Ev.pos h1 (Ev.neg h2 (Ev.neg h3 (Ev.const _))), fun h => by have := of_decide_eq_true h; omega⟩
      · by_cases h3 : (F.length : Int) > 60
        · exact ⟨_, Ev.neg h1 (Ev.pos h3 (Ev.const _)), fun _ => by omega⟩
        · exact ⟨_, Ev.neg h1 (Ev.neg h3 (Ev.const _)), fun h => by have := of_decide_eq_true h; omega⟩
    obtain ⟨b, hb, hb2⟩ := h
    exact ⟨b, Ev.into (fun k => by rw [laganlaw04_few.l0]) (Ev.neg (by omega) hb), fun h => ⟨hz, hb2 h⟩⟩
  | succ m ih =>
    intro i hm hi
    have hw := wrap_pm (i := (i : Int)) (by omega) (by omega)
    obtain ⟨b, hb, hb2⟩ := ih (i + 1) (by omega) (by omega)
    rw [show ((i + 1 : Nat) : Int) = (i : Int) + 1 by omega, ← hw.1] at hb
    have hrd : rd_L1 T (i : Int) = T.getD i [] := by simp [rd_L1]
    by_cases h : ((rd_L1 T (i : Int)).length : Int) > 5
    · exact ⟨false, Ev.into (fun k => by rw [laganlaw04_few.l0]) (Ev.pos (by omega) (Ev.pos (by omega) (Ev.pos h (Ev.const _)))), fun h => (by cases h)⟩
    · refine ⟨b, Ev.into (fun k => by rw [laganlaw04_few.l0]) (Ev.pos (by omega) (Ev.pos (by omega) (Ev.neg h hb))), fun k => ⟨fun j hj => ?_, (hb2 k).2⟩⟩
      by_cases e : j = i
      · subst e
        rw [hrd] at h
        omega
      · exact (hb2 k).1 j (by omega)
theorem few_is (F : List Int) (S : List S50) (T : List (List Int)) (hT : T.length ≤ 9223372036854775807) : ∃ b, Ev (fun k => laganlaw04_few.f k F S T) b ∧ (b = true → (∀ j : Nat, (T.getD j []).length ≤ 5) ∧ (F.length ≤ 6 ∧ S.length ≤ 12 ∨ F.length > 60 ∨ S.length > 200)) := by
  have hj : ∀ x, ∃ b, Ev (fun k => laganlaw04_few.j0 k x F S T) b ∧ (b = true → (∀ j : Nat, (T.getD j []).length ≤ 5) ∧ (F.length ≤ 6 ∧ S.length ≤ 12 ∨ F.length > 60 ∨ S.length > 200)) := fun x => by
    cases x with
    | true => exact ⟨_, Ev.into (fun k => by rw [laganlaw04_few.j0]) (Ev.pos rfl (Ev.const _)), fun h => (by cases h)⟩
    | false =>
      obtain ⟨b, hb, hb2⟩ := few_ev (F := F) (S := S) hT T.length 0 (by omega) (by omega)
      rw [show ((0 : Nat) : Int) = 0 from rfl] at hb
      exact ⟨b, Ev.into (fun k => by rw [laganlaw04_few.j0]) (Ev.neg (by simp) hb), fun h => ⟨fun j => (hb2 h).1 j (Nat.zero_le _), (hb2 h).2⟩⟩
  by_cases h1 : (F.length : Int) > 70
  · obtain ⟨b, hb, hb2⟩ := hj true
    exact ⟨b, Ev.pos h1 hb, hb2⟩
  · by_cases h2 : (S.length : Int) > 210
    · obtain ⟨b, hb, hb2⟩ := hj true
      exact ⟨b, Ev.neg h1 (Ev.pos h2 hb), hb2⟩
    · obtain ⟨b, hb, hb2⟩ := hj (decide ((T.length : Int) > 70))
      exact ⟨b, Ev.neg h1 (Ev.neg h2 hb), hb2⟩
end
end Go.Proofs.Ytkmmihadcbfkoaa
end

section
namespace Go.Proofs.Ytkmmihadcbfkoaa.PM
open Go.RowKit Go.Proofs.YtkmmihadcbfkoaaW.PrintWords Go.Proofs.YtkmmihadcbfkoaaW.PrintLast Go.Proofs.YtkmmihadcbfkoaaW.PrintMore
attribute [local go_sem] max2_int max_two   -- for this text's walks alone
set_option linter.unusedVariables false
set_option linter.unusedSimpArgs false
def laganref04_SameLists.l0 : Nat → List (List Int) → List (List Int) → Int → Option (Bool)
 | 0, _, _, _ => none
 | k + 1, x0, x1, x5 => if x5 < (x0.length : Int) then (if 0 ≤ x5 then (if x5 < (x1.length : Int) then ((laganref04_SameInts.f k (rd_L1 x0 x5) (rd_L1 x1 x5)).bind fun t223 => (if t223 = true then (laganref04_SameLists.l0 k x0 x1 (wrap64 (x5 + 1))) else (some false))) else (none)) else (none)) else (some true)
def laganref04_SameLists.f (k : Nat) (l0 : List (List Int)) (l1 : List (List Int)) : Option (Bool) := if (l0.length : Int) = (l1.length : Int) then (laganref04_SameLists.l0 k l0 l1 0) else (some false)
set_option maxHeartbeats 8000000 in
set_option maxRecDepth 100000 in
theorem laganref04_SameLists.calls (k : Nat) (A0 : Option Addr) (c0 : Nat) (l0 : List (List Int)) (A1 : Option Addr) (c1 : Nat) (l1 : List (List Int)) (r : Bool) (w : World) (hr0 : Kd.C (Kd.slice 3 (Kd.int .i64)) w A0 l0.length l0) (hc0 : l0.length ≤ c0) (hr1 : Kd.C (Kd.slice 3 (Kd.int .i64)) w A1 l1.length l1) (hc1 : l1.length ≤ c1) (h : laganref04_SameLists.f k l0 l1 = some r) :
  Calls Try.prog 23 #[.slice A0 l0.length c0, .slice A1 l1.length c1] w fun e w' => e = .returned (.bool r) ∧ Drawn0 w w' := by
 have HR0 := Aside0.mk hr0
 have HC0 := Aside0.mk hc0
 clear hr0 hc0
 have HR1 := Aside0.mk hr1
 have HC1 := Aside0.mk hc1
 clear hr1 hc1
 have H : (if (l0.length : Int) = (l1.length : Int) then (laganref04_SameLists.l0 k l0 l1 0) else (some false)) = some r := h
 clear h
 by_cases c3 : (l0.length : Int) = (l1.length : Int)
 ·
  rw [if_pos c3] at H
  have c3b0 : ((l0.length : Int) == (l1.length : Int)) = true := beq_iff_eq.mpr c3
  have c3b1 : ((l0.length : Int) != (l1.length : Int)) = false := bne_eq_false_iff_eq.mpr c3
  have c3b2 : (l0.length == l1.length) = true := by first | simpa using c3 | (simp at c3 ⊢; omega)
  clear c3
  have H' := Aside0.mk H
  clear H
  go_enter Try.func23, Try.ntmps23
  go_wp2
  repeat (go_quiet (fail); try go_wp2)
  go_loopg [5] k (fun kq v5 w' => ∃ (x5_1 : Int), v5 = .int .i64 x5_1 ∧ Aside0 (laganref04_SameLists.l0 kq l0 l1 x5_1 = some r) ∧ Aside0 (kq ≤ k) ∧ Drawn0 w w')
  case atStart => exact ⟨(0), (by first | rfl | (simp; done) | (simp [*]; done)), H', ⟨Nat.le_refl _⟩, by repeat (first | exact Drawn0.refl _ | apply Drawn0.step)⟩
  case round =>
   clear H'
   try clear c1
   try clear c2
   try clear p2
   try clear c3
   try clear c3b0
   try clear c3b1
   try clear c3b2
   obtain ⟨x5_1, rfl, HA, HK1, ⟨m1, rfl⟩⟩ := hrel
   cases gk with
   | zero => exact absurd HA.out (by simp [laganref04_SameLists.l0])
   | succ k1 =>
    have H := HA.out
    clear HA
    simp only [laganref04_SameLists.l0] at H
    by_cases c4 : x5_1 < (l0.length : Int)
    ·
     rw [if_pos c4] at H
     have c4b0 : decide (x5_1 < (l0.length : Int)) = true := decide_eq_true c4
     clear c4
     by_cases c5 : 0 ≤ x5_1
     ·
      rw [if_pos c5] at H
      have c5b0 : decide (0 ≤ x5_1) = true := decide_eq_true c5
      clear c5
      by_cases c6 : x5_1 < (l1.length : Int)
      ·
       rw [if_pos c6] at H
       have c6b0 : decide (x5_1 < (l1.length : Int)) = true := decide_eq_true c6
       clear c6
       replace H := Option.bind_eq_some_iff.mp H
       obtain ⟨t223, A70, H⟩ := H
       replace H : (if t223 = true then (laganref04_SameLists.l0 k1 l0 l1 (wrap64 (x5_1 + 1))) else (some false)) = some r := H
       have A7 := Aside0.mk A70
       clear A70
       by_cases c8 : t223 = true
       ·
        subst c8
        have H1 : (laganref04_SameLists.l0 k1 l0 l1 (wrap64 (x5_1 + 1))) = some r := by rw [if_pos rfl] at H; exact H
        clear H
        have H := H1
        clear H1
        have H' := Aside0.mk H
        clear H
        have p221 : 0 ≤ (x5_1 : Int) := of_decide_eq_true (by first | (with_reducible assumption) | assumption)
        have q221 : x5_1 < (l0.length : Int) := of_decide_eq_true (by first | (with_reducible assumption) | assumption)
        obtain ⟨ad221, A221_0, c221_0, e221, hx221_0, hl221_0, hi221_0⟩ := at_L1 HR0.out x5_1 p221 q221
        cases e221
        have HR221_0 := Aside0.mk hi221_0
        have HC221_0 := Aside0.mk hl221_0
        clear hi221_0 hl221_0
        replace p221 := eq_true p221
        replace q221 := eq_true q221
        have p222 : 0 ≤ (x5_1 : Int) := of_decide_eq_true (by first | (with_reducible assumption) | assumption)
        have q222 : x5_1 < (l1.length : Int) := of_decide_eq_true (by first | (with_reducible assumption) | assumption)
        obtain ⟨ad222, A222_0, c222_0, e222, hx222_0, hl222_0, hi222_0⟩ := at_L1 HR1.out x5_1 p222 q222
        cases e222
        have HR222_0 := Aside0.mk hi222_0
        have HC222_0 := Aside0.mk hl222_0
        clear hi222_0 hl222_0
        replace p222 := eq_true p222
        replace q222 := eq_true q222
        go_wp2_with (first | (go_at_call 22; (with_reducible refine (laganref04_SameInts.calls k1 _ _ (rd_L1 l0 x5_1) _ _ (rd_L1 l1 x5_1) true _ ?side1 ?side2 ?side3 ?side4 A7.out).mono ?_); (case side1 => repeat (first | exact HR221_0.out | (with_reducible refine Kd.C_alloc ?_ _) | (with_reducible refine Kd.C_drewN ?_ _) | (with_reducible refine Kd.C_drew ?_))); (case side2 => exact HC221_0.out); (case side3 => repeat (first | exact HR222_0.out | (with_reducible refine Kd.C_alloc ?_ _) | (with_reducible refine Kd.C_drewN ?_ _) | (with_reducible refine Kd.C_drew ?_))); (case side4 => exact HC222_0.out); rintro e w' ⟨rfl, ⟨nd, rfl⟩⟩; (try first | exact ⟨rfl, _, World.drewN_drewN _ _ _⟩ | exact ⟨rfl, _, Eq.trans (World.drewN_drewN _ _ _) (congrArg (World.drewN _) (Nat.add_assoc _ _ _))⟩)))
        repeat (go_quiet (first | (go_at_call 22; (with_reducible refine (laganref04_SameInts.calls k1 _ _ (rd_L1 l0 x5_1) _ _ (rd_L1 l1 x5_1) true _ ?side1 ?side2 ?side3 ?side4 A7.out).mono ?_); (case side1 => repeat (first | exact HR221_0.out | (with_reducible refine Kd.C_alloc ?_ _) | (with_reducible refine Kd.C_drewN ?_ _) | (with_reducible refine Kd.C_drew ?_))); (case side2 => exact HC221_0.out); (case side3 => repeat (first | exact HR222_0.out | (with_reducible refine Kd.C_alloc ?_ _) | (with_reducible refine Kd.C_drewN ?_ _) | (with_reducible refine Kd.C_drew ?_))); (case side4 => exact HC222_0.out); rintro e w' ⟨rfl, ⟨nd, rfl⟩⟩; (try first | exact ⟨rfl, _, World.drewN_drewN _ _ _⟩ | exact ⟨rfl, _, Eq.trans (World.drewN_drewN _ _ _) (congrArg (World.drewN _) (Nat.add_assoc _ _ _))⟩))); try go_wp2_with (first | (go_at_call 22; (with_reducible refine (laganref04_SameInts.calls k1 _ _ (rd_L1 l0 x5_1) _ _ (rd_L1 l1 x5_1) true _ ?side1 ?side2 ?side3 ?side4 A7.out).mono ?_); (case side1 => repeat (first | exact HR221_0.out | (with_reducible refine Kd.C_alloc ?_ _) | (with_reducible refine Kd.C_drewN ?_ _) | (with_reducible refine Kd.C_drew ?_))); (case side2 => exact HC221_0.out); (case side3 => repeat (first | exact HR222_0.out | (with_reducible refine Kd.C_alloc ?_ _) | (with_reducible refine Kd.C_drewN ?_ _) | (with_reducible refine Kd.C_drew ?_))); (case side4 => exact HC222_0.out); rintro e w' ⟨rfl, ⟨nd, rfl⟩⟩; (try first | exact ⟨rfl, _, World.drewN_drewN _ _ _⟩ | exact ⟨rfl, _, Eq.trans (World.drewN_drewN _ _ _) (congrArg (World.drewN _) (Nat.add_assoc _ _ _))⟩))))
        go_roundg k1
        case measure => have := HK1.out; omega
        case rel => exact ⟨(wrap64 (x5_1 + 1)), (by first | rfl | (simp; done) | (simp [*]; done)), H', ⟨by have := HK1.out; omega⟩, by repeat (first | exact Drawn0.refl _ | apply Drawn0.step)⟩
       ·
        replace c8 := Bool.eq_false_iff.mpr c8
        subst c8
        have H1 : (some false) = some r := by rw [if_neg (show ¬ (false = true) by decide)] at H; exact H
        clear H
        have H := H1
        clear H1
        obtain rfl := Option.some.inj H
        have p221 : 0 ≤ (x5_1 : Int) := of_decide_eq_true (by first | (with_reducible assumption) | assumption)
        have q221 : x5_1 < (l0.length : Int) := of_decide_eq_true (by first | (with_reducible assumption) | assumption)
        obtain ⟨ad221, A221_0, c221_0, e221, hx221_0, hl221_0, hi221_0⟩ := at_L1 HR0.out x5_1 p221 q221
        cases e221
        have HR221_0 := Aside0.mk hi221_0
        have HC221_0 := Aside0.mk hl221_0
        clear hi221_0 hl221_0
        replace p221 := eq_true p221
        replace q221 := eq_true q221
        have p222 : 0 ≤ (x5_1 : Int) := of_decide_eq_true (by first | (with_reducible assumption) | assumption)
        have q222 : x5_1 < (l1.length : Int) := of_decide_eq_true (by first | (with_reducible assumption) | assumption)
        obtain ⟨ad222, A222_0, c222_0, e222, hx222_0, hl222_0, hi222_0⟩ := at_L1 HR1.out x5_1 p222 q222
        cases e222
        have HR222_0 := Aside0.mk hi222_0
        have HC222_0 := Aside0.mk hl222_0
        clear hi222_0 hl222_0
        replace p222 := eq_true p222
        replace q222 := eq_true q222
        go_wp2_with (first | (go_at_call 22; (with_reducible refine (laganref04_SameInts.calls k1 _ _ (rd_L1 l0 x5_1) _ _ (rd_L1 l1 x5_1) false _ ?side1 ?side2 ?side3 ?side4 A7.out).mono ?_); (case side1 => repeat (first | exact HR221_0.out | (with_reducible refine Kd.C_alloc ?_ _) | (with_reducible refine Kd.C_drewN ?_ _) | (with_reducible refine Kd.C_drew ?_))); (case side2 => exact HC221_0.out); (case side3 => repeat (first | exact HR222_0.out | (with_reducible refine Kd.C_alloc ?_ _) | (with_reducible refine Kd.C_drewN ?_ _) | (with_reducible refine Kd.C_drew ?_))); (case side4 => exact HC222_0.out); rintro e w' ⟨rfl, ⟨nd, rfl⟩⟩; (try first | exact ⟨rfl, _, World.drewN_drewN _ _ _⟩ | exact ⟨rfl, _, Eq.trans (World.drewN_drewN _ _ _) (congrArg (World.drewN _) (Nat.add_assoc _ _ _))⟩)))
        repeat (go_quiet (first | (go_at_call 22; (with_reducible refine (laganref04_SameInts.calls k1 _ _ (rd_L1 l0 x5_1) _ _ (rd_L1 l1 x5_1) false _ ?side1 ?side2 ?side3 ?side4 A7.out).mono ?_); (case side1 => repeat (first | exact HR221_0.out | (with_reducible refine Kd.C_alloc ?_ _) | (with_reducible refine Kd.C_drewN ?_ _) | (with_reducible refine Kd.C_drew ?_))); (case side2 => exact HC221_0.out); (case side3 => repeat (first | exact HR222_0.out | (with_reducible refine Kd.C_alloc ?_ _) | (with_reducible refine Kd.C_drewN ?_ _) | (with_reducible refine Kd.C_drew ?_))); (case side4 => exact HC222_0.out); rintro e w' ⟨rfl, ⟨nd, rfl⟩⟩; (try first | exact ⟨rfl, _, World.drewN_drewN _ _ _⟩ | exact ⟨rfl, _, Eq.trans (World.drewN_drewN _ _ _) (congrArg (World.drewN _) (Nat.add_assoc _ _ _))⟩))); try go_wp2_with (first | (go_at_call 22; (with_reducible refine (laganref04_SameInts.calls k1 _ _ (rd_L1 l0 x5_1) _ _ (rd_L1 l1 x5_1) false _ ?side1 ?side2 ?side3 ?side4 A7.out).mono ?_); (case side1 => repeat (first | exact HR221_0.out | (with_reducible refine Kd.C_alloc ?_ _) | (with_reducible refine Kd.C_drewN ?_ _) | (with_reducible refine Kd.C_drew ?_))); (case side2 => exact HC221_0.out); (case side3 => repeat (first | exact HR222_0.out | (with_reducible refine Kd.C_alloc ?_ _) | (with_reducible refine Kd.C_drewN ?_ _) | (with_reducible refine Kd.C_drew ?_))); (case side4 => exact HC222_0.out); rintro e w' ⟨rfl, ⟨nd, rfl⟩⟩; (try first | exact ⟨rfl, _, World.drewN_drewN _ _ _⟩ | exact ⟨rfl, _, Eq.trans (World.drewN_drewN _ _ _) (congrArg (World.drewN _) (Nat.add_assoc _ _ _))⟩))))
        go_ret
        exact ⟨by first | rfl | (simp; done) | (simp [*]; done), by repeat (first | exact Drawn0.refl _ | apply Drawn0.step)⟩
      ·
       rw [if_neg c6] at H
       exact absurd H (by simp)
     ·
      rw [if_neg c5] at H
      exact absurd H (by simp)
    ·
     rw [if_neg c4] at H
     have c4b0 : decide (x5_1 < (l0.length : Int)) = false := decide_eq_false c4
     clear c4
     obtain rfl := Option.some.inj H
     go_wp2
     repeat (go_quiet (fail); try go_wp2)
     go_ret
     exact ⟨by first | rfl | (simp; done) | (simp [*]; done), by repeat (first | exact Drawn0.refl _ | apply Drawn0.step)⟩
 ·
  rw [if_neg c3] at H
  have c3b0 : ((l0.length : Int) == (l1.length : Int)) = false := beq_eq_false_iff_ne.mpr c3
  have c3b1 : ((l0.length : Int) != (l1.length : Int)) = true := bne_iff_ne.mpr c3
  have c3b2 : (l0.length == l1.length) = false := by first | simpa using c3 | (simp at c3 ⊢; omega)
  obtain rfl := Option.some.inj H
  go_enter Try.func23, Try.ntmps23
  go_wp2
  repeat (go_quiet (fail); try go_wp2)
  go_ret
  exact ⟨by first | rfl | (simp; done) | (simp [*]; done), by repeat (first | exact Drawn0.refl _ | apply Drawn0.step)⟩
end Go.Proofs.Ytkmmihadcbfkoaa.PM
end

section
namespace Go.Proofs.Ytkmmihadcbfkoaa
open Go.RowKit Go.Proofs.YtkmmihadcbfkoaaW.PrintWords PM
set_option linter.unusedVariables false
set_option linter.unusedSimpArgs false
/-- The one chance that there is alone, of each find. -/
def mustL (L : List (List Int)) : List Int := L.map fun c => if c.length = 1 then c.getD 0 0 else -1
section
variable {F : List Int} {S : List S50} {T : List (List Int)}
theorem must_ev (L : List (List Int)) (hL : L.length ≤ 1000) (m : Nat) : ∀ (i : Nat) (acc : List Int), L.length - i = m → i ≤ L.length → acc.length ≤ i → Ev (fun k => match_Must.l0 k acc L (L.length : Int) (i : Int)) (acc ++ mustL (L.drop i), 0) := by
  induction m with
  | zero =>
    intro i acc hm hi ha
    rw [List.drop_of_length_le (by omega)]
    exact Ev.into (fun k => by rw [match_Must.l0]) (Ev.neg (by omega) (by simpa [mustL] using Ev.const (acc, (0 : Int))))
  | succ m ih =>
    intro i acc hm hi ha
    have hlt : i < L.length := by omega
    have hw := wrap_pm (i := (i : Int)) (by omega) (by omega)
    have hrd : rd_L1 L (i : Int) = L[i] := by simp [rd_L1, List.getD_eq_getElem?_getD, List.getElem?_eq_getElem hlt]
    have hacc : acc.length < 17592186044416 := by omega
    have hi7 : (i : Int) + 1 = ((i + 1 : Nat) : Int) := by omega
    rw [List.drop_eq_getElem_cons hlt]
    have hcons : mustL (L[i] :: L.drop (i + 1)) = (if L[i].length = 1 then L[i].getD 0 0 else -1) :: mustL (L.drop (i + 1)) := rfl
    rw [hcons]
    refine Ev.into (fun k => by rw [match_Must.l0]) (Ev.pos (by omega) (Ev.pos (by omega) (Ev.pos (by omega) ?_)))
    rw [hrd, hw.1, hi7]
    have step : ∀ x : Int, Ev (fun k => match_Must.l0 k (acc ++ [x]) L (L.length : Int) ((i + 1 : Nat) : Int)) (acc ++ x :: mustL (L.drop (i + 1)), 0) := fun x => by
      have := ih (i + 1) (acc ++ [x]) (by omega) (by omega) (by simp; omega)
      rwa [List.append_assoc] at this
    by_cases h : L[i].length = 1
    · rw [if_pos h]
      exact Ev.pos (by omega) (Ev.pos (by omega) (Ev.pos hacc (step _)))
    · rw [if_neg h]
      exact Ev.neg (by omega) (Ev.pos hacc (step _))
theorem must_is (hc : checkB F S T = 0) (his : isF F S T = true) : Ev (fun k => match_Must.f k F S T) (mustL (allChances F S T), 0) := by
  have hC : match_Chances.f F S T = some (allChances F S T, 0) := by
    unfold match_Chances.f
    rw [if_neg (fun h => h hc), if_neg (by rw [his]; simp)]
  have hl : (allChances F S T).length ≤ 1000 := by
    have := (bok_of_check hc).nf
    simp [allChances]; omega
  refine Ev.bind (Ev.same hC) (Ev.pos rfl ?_)
  have := must_ev (allChances F S T) hl (allChances F S T).length 0 [] (by omega) (by omega) (by simp)
  simpa using this
theorem must_bad {e : Int} (he : e ≠ 0) (h : match_Chances.f F S T = some ([], e)) : Ev (fun k => match_Must.f k F S T) ([], e) :=
  Ev.bind (Ev.same h) (Ev.neg he (Ev.const _))
theorem lists_ev (a : List (List Int)) (ha : a.length ≤ 1000000) (hr : ∀ l, l ∈ a → l.length ≤ 9223372036854775807) (m : Nat) : ∀ i : Nat, a.length - i = m → i ≤ a.length → Ev (fun k => laganref04_SameLists.l0 k a a (i : Int)) true := by
  induction m with
  | zero => exact fun i hm hi => Ev.into (fun k => by rw [laganref04_SameLists.l0]) (Ev.neg (by omega) (Ev.const _))
  | succ m ih =>
    intro i hm hi
    have hlt : i < a.length := by omega
    have hw := wrap_pm (i := (i : Int)) (by omega) (by omega)
    have hrd : rd_L1 a (i : Int) = a[i] := by simp [rd_L1, List.getD_eq_getElem?_getD, List.getElem?_eq_getElem hlt]
    have hs := same_is a[i] a[i] (hr _ (List.getElem_mem hlt))
    rw [decide_eq_true rfl] at hs
    refine Ev.into (fun k => by rw [laganref04_SameLists.l0]) (Ev.pos (by omega) (Ev.pos (by omega) (Ev.pos (by omega) ?_)))
    rw [hrd, hw.1, show (i : Int) + 1 = ((i + 1 : Nat) : Int) by omega]
    exact Ev.bind hs (Ev.pos rfl (ih (i + 1) (by omega) (by omega)))
theorem lists_is (a : List (List Int)) (ha : a.length ≤ 1000000) (hr : ∀ l, l ∈ a → l.length ≤ 9223372036854775807) : Ev (fun k => laganref04_SameLists.f k a a) true :=
  Ev.pos rfl (lists_ev a ha hr a.length 0 (by omega) (by omega))
/-- The slots below s that some of these lists give a find. -/
def partCh (L : List (List Int)) (i s : Nat) : List Int := ((List.range s).filter fun s : Nat => L.any fun l => decide (l.getD i 0 = (s : Int))).map Int.ofNat
theorem partCh_step (L : List (List Int)) (i s : Nat) : partCh L i (s + 1) = if (L.any fun l => decide (l.getD i 0 = (s : Int))) = true then partCh L i s ++ [(s : Int)] else partCh L i s := by
  unfold partCh
  rw [List.range_succ, List.filter_append, List.map_append]
  by_cases h : (L.any fun l => decide (l.getD i 0 = (s : Int))) = true
  · rw [if_pos h, List.filter_cons_of_pos (p := fun s : Nat => L.any fun l => decide (l.getD i 0 = (s : Int))) h]
    rfl
  · rw [if_neg h, List.filter_cons_of_neg (p := fun s : Nat => L.any fun l => decide (l.getD i 0 = (s : Int))) h]
    simp
theorem partCh_len (L : List (List Int)) (i s : Nat) : (partCh L i s).length ≤ s := by
  unfold partCh
  rw [List.length_map]
  exact Nat.le_trans (List.length_filter_le _ _) (by simp)
/-- The rows as they are at find i, slot s. -/
structure ChAt (F : List Int) (ns : Nat) (L : List (List Int)) (i s : Nat) (X : List (List Int)) : Prop where
  len : X.length = F.length
  row : ∀ j : Nat, j < F.length → X.getD j [] = if j < i then refCh ns L j else if j = i then partCh L i s else []
theorem ch_l2 (L : List (List Int)) (X : List (List Int)) (i s : Nat) (hL : L.length ≤ 1000000) (hl : ∀ l, l ∈ L → i < l.length) (hX : i < X.length) (hXl : (X.getD i []).length ≤ 1000) (r : List (List Int))
    (hy : Ev (fun k => laganref04_Chances.l1 k L (X.set i ((X.getD i []) ++ [(s : Int)])) (i : Int) (wrap64 ((s : Int) + 1)) F S T) r → Ev (fun k => laganref04_Chances.l1 k L (X.set i ((X.getD i []) ++ [(s : Int)])) (i : Int) (wrap64 ((s : Int) + 1)) F S T) r)
    (m : Nat) : ∀ (j : Nat) (x : Bool), L.length - j = m → j ≤ L.length →
    Ev (fun k => if (x || (L.drop j).any fun l => decide (l.getD i 0 = (s : Int))) = true then laganref04_Chances.l1 k L (X.set i ((X.getD i []) ++ [(s : Int)])) (i : Int) (wrap64 ((s : Int) + 1)) F S T else laganref04_Chances.l1 k L X (i : Int) (wrap64 ((s : Int) + 1)) F S T) r →
    Ev (fun k => laganref04_Chances.l2 k L X (i : Int) (s : Int) x (j : Int) F S T) r := by
  induction m with
  | zero =>
    intro j x hm hj hend
    rw [List.drop_of_length_le (by omega)] at hend
    refine Ev.into (fun k => by rw [laganref04_Chances.l2]) (Ev.neg (by omega) ?_)
    have e1 : rd_L1 X (i : Int) = X.getD i [] := by simp [rd_L1]
    rw [e1, Int.toNat_natCast]
    cases x with
    | true =>
      have := hend.congr (f := fun k => laganref04_Chances.l1 k L (X.set i ((X.getD i []) ++ [(s : Int)])) (i : Int) (wrap64 ((s : Int) + 1)) F S T) (fun k => by simp)
      exact Ev.pos rfl (Ev.pos (by omega) (Ev.pos (by omega) (Ev.pos (by omega) this)))
    | false =>
      have := hend.congr (f := fun k => laganref04_Chances.l1 k L X (i : Int) (wrap64 ((s : Int) + 1)) F S T) (fun k => by simp)
      exact Ev.neg (by simp) this
  | succ m ih =>
    intro j x hm hj hend
    have hlt : j < L.length := by omega
    have hw := wrap_pm (i := (j : Int)) (by omega) (by omega)
    have hj7 : (j : Int) + 1 = ((j + 1 : Nat) : Int) := by omega
    have hrd : rd_L1 L (j : Int) = L[j] := by simp [rd_L1, List.getD_eq_getElem?_getD, List.getElem?_eq_getElem hlt]
    have hil := hl _ (List.getElem_mem hlt)
    refine Ev.into (fun k => by rw [laganref04_Chances.l2]) (Ev.pos (by omega) ?_)
    rw [hw.1, hj7]
    cases x with
    | true =>
      refine Ev.pos rfl (ih (j + 1) true (by omega) (by omega) ?_)
      simpa using hend
    | false =>
      refine Ev.neg (by simp) (Ev.pos (by omega) (Ev.pos (by omega) (Ev.pos (by rw [hrd]; omega) ?_)))
      refine ih (j + 1) _ (by omega) (by omega) ?_
      rw [hrd, rd_nat]
      rw [List.drop_eq_getElem_cons hlt, List.any_cons, Bool.false_or] at hend
      exact hend
theorem ch_l1 (L : List (List Int)) (hL : L.length ≤ 1000000) (hS : S.length ≤ 200) (hF : F.length ≤ 60) (i : Nat) (hi : i < F.length) (hl : ∀ l, l ∈ L → l.length = F.length) (r : List (List Int))
    (hend : ∀ X, ChAt F S.length L (i + 1) 0 X → Ev (fun k => laganref04_Chances.l0 k L X ((i + 1 : Nat) : Int) F S T) r) (m : Nat) :
    ∀ (s : Nat) (X : List (List Int)), S.length - s = m → s ≤ S.length → ChAt F S.length L i s X → Ev (fun k => laganref04_Chances.l1 k L X (i : Int) (s : Int) F S T) r := by
  induction m with
  | zero =>
    intro s X hm hs hX
    have e : s = S.length := by omega
    subst e
    have hw := wrap_pm (i := (i : Int)) (by omega) (by omega)
    refine Ev.into (fun k => by rw [laganref04_Chances.l1]) (Ev.neg (by omega) ?_)
    rw [hw.1, show (i : Int) + 1 = ((i + 1 : Nat) : Int) by omega]
    refine hend X ⟨hX.len, fun j hj => ?_⟩
    rw [hX.row j hj]
    by_cases h1 : j < i
    · rw [if_pos h1, if_pos (by omega)]
    · rw [if_neg h1]
      by_cases h2 : j = i
      · subst h2
        rw [if_pos rfl, if_pos (by omega)]
        rfl
      · rw [if_neg h2, if_neg (by omega)]
        by_cases h3 : j = i + 1
        · rw [if_pos h3]; rfl
        · rw [if_neg h3]
  | succ m ih =>
    intro s X hm hs hX
    have hlt : s < S.length := by omega
    have hiX : i < X.length := by rw [hX.len]; exact hi
    have hrow : X.getD i [] = partCh L i s := by rw [hX.row i hi, if_neg (Nat.lt_irrefl _), if_pos rfl]
    have hw := wrap_pm (i := (s : Int)) (by omega) (by omega)
    refine Ev.into (fun k => by rw [laganref04_Chances.l1]) (Ev.pos (by omega) ?_)
    refine ch_l2 (F := F) (S := S) (T := T) L X i s hL (fun l h => by rw [hl l h]; exact hi) hiX (by rw [hrow]; have := partCh_len L i s; omega) r (fun h => h) L.length 0 false (by omega) (by omega) ?_
    rw [List.drop_zero, Bool.false_or, hw.1, show (s : Int) + 1 = ((s + 1 : Nat) : Int) by omega]
    by_cases h : (L.any fun l => decide (l.getD i 0 = (s : Int))) = true
    · refine Ev.pos h (ih (s + 1) _ (by omega) (by omega) ⟨by rw [List.length_set]; exact hX.len, fun j hj => ?_⟩)
      rw [getD_set X i _ [] j hiX]
      by_cases e : j = i
      · subst e
        rw [if_pos rfl, if_neg (Nat.lt_irrefl _), if_pos rfl, partCh_step, if_pos h, hrow]
      · rw [if_neg e, hX.row j hj, if_neg e, if_neg e]
    · refine Ev.neg h (ih (s + 1) _ (by omega) (by omega) ⟨hX.len, fun j hj => ?_⟩)
      rw [hX.row j hj, partCh_step, if_neg h]
theorem ch_l0 (L : List (List Int)) (hL : L.length ≤ 1000000) (hS : S.length ≤ 200) (hF : F.length ≤ 60) (hl : ∀ l, l ∈ L → l.length = F.length) (m : Nat) :
    ∀ (i : Nat) (X : List (List Int)), F.length - i = m → i ≤ F.length → ChAt F S.length L i 0 X → Ev (fun k => laganref04_Chances.l0 k L X (i : Int) F S T) ((List.range F.length).map (refCh S.length L)) := by
  induction m with
  | zero =>
    intro i X hm hi hX
    refine Ev.into (fun k => by rw [laganref04_Chances.l0]) (Ev.neg (by omega) ?_)
    have e : X = (List.range F.length).map (refCh S.length L) := by
      refine List.ext_getElem (by simpa using hX.len) fun j h1 h2 => ?_
      have hj : j < F.length := by rw [← hX.len]; exact h1
      have := hX.row j hj
      rw [if_pos (by omega), List.getD_eq_getElem?_getD, List.getElem?_eq_getElem h1, Option.getD_some] at this
      rw [this]
      simp
    rw [← e]
    exact Ev.const X
  | succ m ih =>
    intro i X hm hi hX
    refine Ev.into (fun k => by rw [laganref04_Chances.l0]) (Ev.pos (by omega) ?_)
    exact ch_l1 (F := F) (S := S) (T := T) L hL hS hF i (by omega) hl _ (fun X' hX' => ih (i + 1) X' (by omega) (by omega) hX') S.length 0 X (by omega) (by omega) hX
theorem refchances_is (L : List (List Int)) (hL : L.length ≤ 1000000) (hS : S.length ≤ 200) (hF : F.length ≤ 60) (hl : ∀ l, l ∈ L → l.length = F.length) : Ev (fun k => laganref04_Chances.f k F S T L) ((List.range F.length).map (refCh S.length L)) := by
  have h := ch_l0 (F := F) (S := S) (T := T) L hL hS hF hl F.length 0 (List.replicate F.length []) (by omega) (by omega) ⟨by simp, fun j hj => by
    rw [if_neg (Nat.not_lt_zero _)]
    by_cases e : j = 0
    · rw [if_pos e]; simp [List.getD_eq_getElem?_getD, List.getElem?_replicate, hj, partCh]
    · rw [if_neg e]; simp [List.getD_eq_getElem?_getD, List.getElem?_replicate, hj]⟩
  refine Ev.pos (by omega) (Ev.pos (by omega) ?_)
  rw [Int.toNat_natCast]
  exact h
/-- The reference's Chances over all assignments is what Chances finds. -/
theorem refall_chances (hc : checkB F S T = 0) (his : isF F S T = true) : (List.range F.length).map (refCh S.length (allB S T)) = allChances F S T := by
  unfold allChances
  refine List.map_congr_left fun f hf => ?_
  have hnt := (bok_of_check hc).nt
  exact chances_eq hc his (by have := List.mem_range.1 hf; omega)
end
end Go.Proofs.Ytkmmihadcbfkoaa
end

section
namespace Go.Proofs.Ytkmmihadcbfkoaa
open Go.RowKit Go.Proofs.YtkmmihadcbfkoaaW.PrintWords PM
set_option linter.unusedVariables false
set_option linter.unusedSimpArgs false
section
variable {F : List Int} {S : List S50} {T : List (List Int)}
theorem ask_bad (hq : checkB F S T ≠ 0) (find slot : Int) (g0 g1 : Bool) : askB F S T find slot g0 g1 = checkB F S T := by
  unfold askB
  rw [if_pos hq]
theorem ask_out (hc : checkB F S T = 0) {slot : Int} (h : slot < 0 ∨ slot ≥ (S.length : Int)) : askB F S T 0 slot true false = 1 := by
  unfold askB
  rw [if_neg (fun k => k hc)]
  have : inB slot 0 ((S.length : Int) - 1) = false := by
    unfold inB
    rcases h with h | h
    · rw [decide_eq_false (show ¬ 0 ≤ slot by omega)]; rfl
    · rw [decide_eq_false (show ¬ slot ≤ (S.length : Int) - 1 by omega), Bool.and_false]
  rw [this]
  rfl
theorem all_A (hq : checkB F S T ≠ 0) (slot : Int) : match_Assign.f F S T = some ([], false, checkB F S T) ∧ match_Chances.f F S T = some ([], checkB F S T) ∧ (∃ K, match_Must.f K F S T = some ([], checkB F S T)) ∧ match_Load.f F S T slot = some (0, 0, checkB F S T) := by
  have hC : match_Chances.f F S T = some ([], checkB F S T) := if_pos hq
  obtain ⟨K, hK⟩ := must_bad hq hC
  refine ⟨if_pos hq, hC, ⟨K, hK K (Nat.le_refl _)⟩, ?_⟩
  unfold match_Load.f
  rw [ask_bad hq, if_pos hq]
theorem all_B (hc : checkB F S T = 0) (his : isF F S T = false) (slot : Int) : match_Assign.f F S T = some ([], false, 0) ∧ match_Chances.f F S T = some ([], 40) ∧ (∃ K, match_Must.f K F S T = some ([], 40)) ∧
    ∃ h, match_Load.f F S T slot = some (0, 0, h) ∧ (slot < 0 ∨ slot ≥ (S.length : Int) → h = 1) ∧ (¬ (slot < 0 ∨ slot ≥ (S.length : Int)) → h = 40) := by
  have hC : match_Chances.f F S T = some ([], 40) := by
    unfold match_Chances.f
    rw [if_neg (fun k => k hc), if_pos his]
  obtain ⟨K, hK⟩ := must_bad (by decide) hC
  refine ⟨?_, hC, ⟨K, hK K (Nat.le_refl _)⟩, ?_⟩
  · unfold match_Assign.f
    rw [if_neg (fun k => k hc), if_pos his]
  · by_cases ho : slot < 0 ∨ slot ≥ (S.length : Int)
    · refine ⟨1, ?_, fun _ => rfl, fun k => absurd ho k⟩
      unfold match_Load.f
      rw [ask_out hc ho, if_pos (by decide)]
    · refine ⟨40, ?_, fun k => absurd k ho, fun _ => rfl⟩
      unfold match_Load.f
      rw [ask_slot hc (by omega) (by omega), if_neg (fun k => k rfl), if_pos his]
theorem all_C (hc : checkB F S T = 0) (his : isF F S T = true) (slot : Int) : match_Assign.f F S T = some (firstF F S T, true, 0) ∧ match_Chances.f F S T = some (allChances F S T, 0) ∧ (∃ K, match_Must.f K F S T = some (mustL (allChances F S T), 0)) ∧
    ∃ lo hi h, match_Load.f F S T slot = some (lo, hi, h) ∧ (slot < 0 ∨ slot ≥ (S.length : Int) → lo = 0 ∧ hi = 0 ∧ h = 1) ∧
      (¬ (slot < 0 ∨ slot ≥ (S.length : Int)) → h = 0 ∧ minc (allB S T) slot (allB S T).length = lo ∧ maxc (allB S T) slot (allB S T).length = hi) := by
  obtain ⟨K, hK⟩ := must_is hc his
  refine ⟨?_, ?_, ⟨K, hK K (Nat.le_refl _)⟩, ?_⟩
  · unfold match_Assign.f
    rw [if_neg (fun h => h hc), if_neg (by rw [his]; simp)]
  · unfold match_Chances.f
    rw [if_neg (fun h => h hc), if_neg (by rw [his]; simp)]
  · by_cases ho : slot < 0 ∨ slot ≥ (S.length : Int)
    · refine ⟨0, 0, 1, ?_, fun _ => ⟨rfl, rfl, rfl⟩, fun k => absurd ho k⟩
      unfold match_Load.f
      rw [ask_out hc ho, if_pos (by decide)]
    · obtain ⟨s, rfl⟩ : ∃ s : Nat, slot = (s : Int) := ⟨slot.toNat, by omega⟩
      have hs : s < S.length := by omega
      obtain ⟨e1, e2⟩ := load_eq hc his hs
      refine ⟨_, _, 0, ?_, fun k => absurd k ho, fun _ => ⟨rfl, e1, e2⟩⟩
      unfold match_Load.f
      rw [if_neg (fun h => h (ask_slot hc (by omega) (by omega))), if_neg (by rw [his]; simp), Int.toNat_natCast]
/-- What MatchAll needs of a small board with an assignment. -/
theorem all_ref (hc : checkB F S T = 0) (h5 : ∀ j : Nat, (T.getD j []).length ≤ 5) (hsz : F.length ≤ 6 ∧ S.length ≤ 12 ∨ F.length > 60 ∨ S.length > 200) : T.length ≤ 6 ∧ (allB S T).length ≤ 15625 ∧ (∀ l, l ∈ allB S T → l.length = F.length) ∧ ∃ K, laganref04_All.f K F S T = some (allB S T) := by
  have hk := bok_of_check hc
  have h1 := hk.nf
  have h2 := hk.ns
  have h3 := hk.nt
  have hn : T.length ≤ 6 := by omega
  obtain ⟨K, hK⟩ := refall_is hc h5 hn
  refine ⟨hn, Nat.le_trans (all_len T.length [] h5) (pow5 hn), fun l hl => ?_, K, hK K (Nat.le_refl _)⟩
  have := ((mem_allB hc l).1 hl).len
  omega
theorem allB_first (hc : checkB F S T = 0) (his : isF F S T = true) : 0 < (allB S T).length ∧ (allB S T).getD 0 [] = firstF F S T := by
  have h := allB_head hc his
  cases e : allB S T with
  | nil => rw [e] at h; simp at h
  | cons l ls =>
    rw [e] at h
    simp only [List.head?_cons, Option.some.injEq] at h
    exact ⟨by simp, by simpa using h⟩
theorem firstF_len (hc : checkB F S T = 0) (his : isF F S T = true) : (firstF F S T).length ≤ 60 := by
  have := (first_asg hc his).len
  have := (bok_of_check hc).nf
  have := (bok_of_check hc).nt
  omega
theorem chances_small (hc : checkB F S T = 0) : (allChances F S T).length = F.length ∧ (∀ l, l ∈ allChances F S T → l.length ≤ 9223372036854775807) := by
  have hk := bok_of_check hc
  refine ⟨by simp [allChances], fun l hl => ?_⟩
  unfold allChances at hl
  obtain ⟨f, hf, rfl⟩ := List.mem_map.1 hl
  have h1 := List.mem_range.1 hf
  have := hk.row f (by rw [hk.nt]; exact h1)
  unfold chancesF
  exact Nat.le_trans (List.length_filter_le _ _) (by omega)
theorem must_at (L : List (List Int)) {i : Nat} (h : i < L.length) : (mustL L).getD i 0 = if (L.getD i []).length = 1 then (L.getD i []).getD 0 0 else -1 := by
  unfold mustL
  rw [List.getD_eq_getElem?_getD, List.getElem?_map, List.getElem?_eq_getElem h]
  have e : L.getD i [] = L[i] := by rw [List.getD_eq_getElem?_getD, List.getElem?_eq_getElem h]; rfl
  rw [e]
  rfl
end
end Go.Proofs.Ytkmmihadcbfkoaa
end

section
namespace Go.Proofs.Ytkmmihadcbfkoaa
open Go.RowKit Go.Proofs.YtkmmihadcbfkoaaW.PrintWords PM
set_option linter.unusedVariables false
set_option linter.unusedSimpArgs false
set_option maxRecDepth 100000 in
set_option maxHeartbeats 8000000 in
theorem all_walk (A0 : Option Addr) (c0 : Nat) (F : List Int) (A1 : Option Addr) (c1 : Nat) (S : List S50) (A2 : Option Addr) (c2 : Nat) (T : List (List Int)) (slot : Int) (w : World)
    (hr0 : Kd.C (Kd.int .i64) w A0 F.length F) (hc0 : F.length ≤ c0) (hr1 : Kd.C k50 w A1 S.length S) (hc1 : S.length ≤ c1) (hr2 : Kd.C (Kd.slice 3 (Kd.int .i64)) w A2 T.length T) (hc2 : T.length ≤ c2) :
    Calls Try.prog 3 #[.agg #[.slice A0 F.length c0, .slice A1 S.length c1, .slice A2 T.length c2], .int .i64 slot] w fun e w' => e = .returned (.bool true) ∧ Below w.heap.size w w' := by
  have HA := Go.Lib.hid (LAt.start hr0 hc0 hr1 hc1 hr2 hc2)
  have hB0 := (Below.refl w.heap.size w).alloc (Nat.le_refl _) (.cells #[.slice A0 F.length c0, .slice A1 S.length c1, .slice A2 T.length c2] 26)
  have HS := Go.Lib.hid (And.intro hr0.2.1 (And.intro hr1.2.1 (And.intro hr2.2.1 HA.out.rows)))
  clear hr0 hc0 hr1 hc1 hr2 hc2 hB0
  obtain ⟨b, hK, hb⟩ := few_is F S T HS.out.2.2.1
  obtain ⟨K, hK⟩ := hK
  have HK := Go.Lib.hid (hK K (Nat.le_refl _))
  have HFew := Go.Lib.hid hb
  clear hK hb
  go_enter Try.func3, Try.ntmps3
  have k0 := HA.out.k0
  have k1 := HA.out.k1
  have k2 := HA.out.k2
  have CC := laganlaw04_few.calls K A0 c0 F A1 c1 S A2 c2 T b _ HA.out.C0 HA.out.l0 HA.out.C1 HA.out.l1 HA.out.C2 HA.out.l2 HK.out
  go_wp2_with fail
  clear k0 k1 k2
  refine CC.mono ?_
  clear CC
  rintro e w1 ⟨rfl, hB⟩
  replace HA := Go.Lib.hid (HA.out.later hB)
  have k0 := HA.out.k0
  have k1 := HA.out.k1
  have k2 := HA.out.k2
  clear hB
  clear HK
  cases b with
  | false =>
    have CC := matched_walk w1
    go_wp2_with fail
    clear k0 k1 k2
    refine CC.mono ?_
    clear CC
    rintro e w2 ⟨rfl, hB⟩
    replace HA := Go.Lib.hid (HA.out.later hB)
    have k0 := HA.out.k0
    have k1 := HA.out.k1
    have k2 := HA.out.k2
    clear hB
    go_wp2_with fail
    go_ret
    exact ⟨rfl, HA.out.B⟩
  | true =>
    obtain ⟨KB, hKB⟩ := refcheck_is F S T HS.out.1 HS.out.2.1 HS.out.2.2.1 HS.out.2.2.2
    have HCb := Go.Lib.hid (hKB KB (Nat.le_refl _))
    clear hKB
    by_cases hc : checkB F S T = 0
    rotate_left
    · obtain ⟨h1, h2, ⟨KM, h3⟩, h4⟩ := all_A hc slot
      obtain ⟨q, hq⟩ : ∃ q, checkB F S T = q := ⟨_, rfl⟩
      rw [hq] at hc h1 h2 h3 h4 HCb
      have HAs := Go.Lib.hid h1
      have HCh := Go.Lib.hid h2
      have HMu := Go.Lib.hid h3
      have HLo := Go.Lib.hid h4
      clear h1 h2 h3 h4 hq
      have CC := match_Assign.calls A0 c0 F A1 c1 S A2 c2 T _ _ _ w1 HA.out.C0 HA.out.l0 HA.out.C1 HA.out.l1 HA.out.C2 HA.out.l2 HAs.out
      go_wp2_with fail
      clear k0 k1 k2
      refine CC.mono ?_
      clear CC
      rintro e w2 ⟨v, rfl, hRv, hB⟩
      obtain ⟨Aa, ca, rfl, hl9, hC9⟩ := Kd.R_reads hRv
      have Ha := Go.Lib.hid (And.intro hl9 hC9)
      clear hRv hl9 hC9
      replace HA := Go.Lib.hid (HA.out.later hB)
      have k0 := HA.out.k0
      have k1 := HA.out.k1
      have k2 := HA.out.k2
      clear hB
      have CC := match_Chances.calls A0 c0 F A1 c1 S A2 c2 T _ _ w2 HA.out.C0 HA.out.l0 HA.out.C1 HA.out.l1 HA.out.C2 HA.out.l2 HCh.out
      go_wp2_with fail
      clear k0 k1 k2
      refine CC.mono ?_
      clear CC
      rintro e w3 ⟨v, rfl, hRv, hB⟩
      obtain ⟨Ac, cc, rfl, hl9, hC9⟩ := Kd.R_reads (Kd.S_R hRv)
      have Hc := Go.Lib.hid (And.intro hl9 hC9)
      clear hRv hl9 hC9
      replace Ha := Go.Lib.hid (And.intro Ha.out.1 (Kd.C_below Ha.out.2 hB))
      replace HA := Go.Lib.hid (HA.out.later hB)
      have k0 := HA.out.k0
      have k1 := HA.out.k1
      have k2 := HA.out.k2
      clear hB
      have CC := match_Must.calls KM A0 c0 F A1 c1 S A2 c2 T _ _ w3 HA.out.C0 HA.out.l0 HA.out.C1 HA.out.l1 HA.out.C2 HA.out.l2 HMu.out
      go_wp2_with fail
      clear k0 k1 k2
      refine CC.mono ?_
      clear CC
      rintro e w4 ⟨v, rfl, hRv, hB⟩
      obtain ⟨Am, cm, rfl, hl9, hC9⟩ := Kd.R_reads hRv
      have Hm := Go.Lib.hid (And.intro hl9 hC9)
      clear hRv hl9 hC9
      replace Ha := Go.Lib.hid (And.intro Ha.out.1 (Kd.C_below Ha.out.2 hB))
      replace Hc := Go.Lib.hid (And.intro Hc.out.1 (Kd.C_below Hc.out.2 hB))
      replace HA := Go.Lib.hid (HA.out.later hB)
      have k0 := HA.out.k0
      have k1 := HA.out.k1
      have k2 := HA.out.k2
      clear hB
      have CC := match_Load.calls A0 c0 F A1 c1 S A2 c2 T slot _ _ _ w4 HA.out.C0 HA.out.l0 HA.out.C1 HA.out.l1 HA.out.C2 HA.out.l2 HLo.out
      go_wp2_with fail
      clear k0 k1 k2
      refine CC.mono ?_
      clear CC
      rintro e w5 ⟨rfl, hB⟩
      replace Ha := Go.Lib.hid (And.intro Ha.out.1 (Kd.C_below Ha.out.2 hB))
      replace Hc := Go.Lib.hid (And.intro Hc.out.1 (Kd.C_below Hc.out.2 hB))
      replace Hm := Go.Lib.hid (And.intro Hm.out.1 (Kd.C_below Hm.out.2 hB))
      replace HA := Go.Lib.hid (HA.out.later hB)
      have k0 := HA.out.k0
      have k1 := HA.out.k1
      have k2 := HA.out.k2
      clear hB
      have CC := laganref04_CheckBoard.calls KB A0 c0 F A1 c1 S A2 c2 T _ w5 HA.out.C0 HA.out.l0 HA.out.C1 HA.out.l1 HA.out.C2 HA.out.l2 HCb.out
      go_wp2_with fail
      clear k0 k1 k2
      refine CC.mono ?_
      clear CC
      rintro e w6 ⟨rfl, hB⟩
      replace Ha := Go.Lib.hid (And.intro Ha.out.1 (Kd.C_below Ha.out.2 hB))
      replace Hc := Go.Lib.hid (And.intro Hc.out.1 (Kd.C_below Hc.out.2 hB))
      replace Hm := Go.Lib.hid (And.intro Hm.out.1 (Kd.C_below Hm.out.2 hB))
      replace HA := Go.Lib.hid (HA.out.later hB)
      have k0 := HA.out.k0
      have k1 := HA.out.k1
      have k2 := HA.out.k2
      clear hB
      clear HAs HCh HMu HLo HCb
      have g5 : decide (q = 0) = false := decide_eq_false hc
      have CC := matched_walk w6
      go_wp2_with fail
      clear k0 k1 k2
      refine CC.mono ?_
      clear CC
      rintro e w7 ⟨rfl, hB⟩
      replace Ha := Go.Lib.hid (And.intro Ha.out.1 (Kd.C_below Ha.out.2 hB))
      replace Hc := Go.Lib.hid (And.intro Hc.out.1 (Kd.C_below Hc.out.2 hB))
      replace Hm := Go.Lib.hid (And.intro Hm.out.1 (Kd.C_below Hm.out.2 hB))
      replace HA := Go.Lib.hid (HA.out.later hB)
      have k0 := HA.out.k0
      have k1 := HA.out.k1
      have k2 := HA.out.k2
      clear hB
      go_wp2_with fail
      go_ret
      exact ⟨rfl, HA.out.B⟩
    · rw [hc] at HCb
      obtain ⟨hT6, hall, hlen, KA, hKA⟩ := all_ref hc (HFew.out rfl).1 (HFew.out rfl).2
      have HAll := Go.Lib.hid hKA
      have HLen := Go.Lib.hid (And.intro hall hlen)
      have HT6 := Go.Lib.hid hT6
      have HCk := Go.Lib.hid hc
      clear hKA hall hlen hT6
      cases his : isF F S T with
      | false =>
        obtain ⟨h1, h2, ⟨KM, h3⟩, h, h4, h5, h6⟩ := all_B hc his slot
        have hL : allB S T = [] := Classical.byContradiction fun k => by have := (allB_ne hc).1 k; rw [his] at this; cases this
        rw [hL] at HAll
        have HAs := Go.Lib.hid h1
        have HCh := Go.Lib.hid h2
        have HMu := Go.Lib.hid h3
        have HLo := Go.Lib.hid h4
        have HH := Go.Lib.hid (And.intro h5 h6)
        clear h1 h2 h3 h4 h5 h6 hL his hc
        have CC := match_Assign.calls A0 c0 F A1 c1 S A2 c2 T _ _ _ w1 HA.out.C0 HA.out.l0 HA.out.C1 HA.out.l1 HA.out.C2 HA.out.l2 HAs.out
        go_wp2_with fail
        clear k0 k1 k2
        refine CC.mono ?_
        clear CC
        rintro e w2 ⟨v, rfl, hRv, hB⟩
        obtain ⟨Aa, ca, rfl, hl9, hC9⟩ := Kd.R_reads hRv
        have Ha := Go.Lib.hid (And.intro hl9 hC9)
        clear hRv hl9 hC9
        replace HA := Go.Lib.hid (HA.out.later hB)
        have k0 := HA.out.k0
        have k1 := HA.out.k1
        have k2 := HA.out.k2
        clear hB
        have CC := match_Chances.calls A0 c0 F A1 c1 S A2 c2 T _ _ w2 HA.out.C0 HA.out.l0 HA.out.C1 HA.out.l1 HA.out.C2 HA.out.l2 HCh.out
        go_wp2_with fail
        clear k0 k1 k2
        refine CC.mono ?_
        clear CC
        rintro e w3 ⟨v, rfl, hRv, hB⟩
        obtain ⟨Ac, cc, rfl, hl9, hC9⟩ := Kd.R_reads (Kd.S_R hRv)
        have Hc := Go.Lib.hid (And.intro hl9 hC9)
        clear hRv hl9 hC9
        replace Ha := Go.Lib.hid (And.intro Ha.out.1 (Kd.C_below Ha.out.2 hB))
        replace HA := Go.Lib.hid (HA.out.later hB)
        have k0 := HA.out.k0
        have k1 := HA.out.k1
        have k2 := HA.out.k2
        clear hB
        have CC := match_Must.calls KM A0 c0 F A1 c1 S A2 c2 T _ _ w3 HA.out.C0 HA.out.l0 HA.out.C1 HA.out.l1 HA.out.C2 HA.out.l2 HMu.out
        go_wp2_with fail
        clear k0 k1 k2
        refine CC.mono ?_
        clear CC
        rintro e w4 ⟨v, rfl, hRv, hB⟩
        obtain ⟨Am, cm, rfl, hl9, hC9⟩ := Kd.R_reads hRv
        have Hm := Go.Lib.hid (And.intro hl9 hC9)
        clear hRv hl9 hC9
        replace Ha := Go.Lib.hid (And.intro Ha.out.1 (Kd.C_below Ha.out.2 hB))
        replace Hc := Go.Lib.hid (And.intro Hc.out.1 (Kd.C_below Hc.out.2 hB))
        replace HA := Go.Lib.hid (HA.out.later hB)
        have k0 := HA.out.k0
        have k1 := HA.out.k1
        have k2 := HA.out.k2
        clear hB
        have CC := match_Load.calls A0 c0 F A1 c1 S A2 c2 T slot _ _ _ w4 HA.out.C0 HA.out.l0 HA.out.C1 HA.out.l1 HA.out.C2 HA.out.l2 HLo.out
        go_wp2_with fail
        clear k0 k1 k2
        refine CC.mono ?_
        clear CC
        rintro e w5 ⟨rfl, hB⟩
        replace Ha := Go.Lib.hid (And.intro Ha.out.1 (Kd.C_below Ha.out.2 hB))
        replace Hc := Go.Lib.hid (And.intro Hc.out.1 (Kd.C_below Hc.out.2 hB))
        replace Hm := Go.Lib.hid (And.intro Hm.out.1 (Kd.C_below Hm.out.2 hB))
        replace HA := Go.Lib.hid (HA.out.later hB)
        have k0 := HA.out.k0
        have k1 := HA.out.k1
        have k2 := HA.out.k2
        clear hB
        have CC := laganref04_CheckBoard.calls KB A0 c0 F A1 c1 S A2 c2 T _ w5 HA.out.C0 HA.out.l0 HA.out.C1 HA.out.l1 HA.out.C2 HA.out.l2 HCb.out
        go_wp2_with fail
        clear k0 k1 k2
        refine CC.mono ?_
        clear CC
        rintro e w6 ⟨rfl, hB⟩
        replace Ha := Go.Lib.hid (And.intro Ha.out.1 (Kd.C_below Ha.out.2 hB))
        replace Hc := Go.Lib.hid (And.intro Hc.out.1 (Kd.C_below Hc.out.2 hB))
        replace Hm := Go.Lib.hid (And.intro Hm.out.1 (Kd.C_below Hm.out.2 hB))
        replace HA := Go.Lib.hid (HA.out.later hB)
        have k0 := HA.out.k0
        have k1 := HA.out.k1
        have k2 := HA.out.k2
        clear hB
        clear HAs HCh HMu HLo HCb
        have CC := laganref04_All.calls KA A0 c0 F A1 c1 S A2 c2 T _ w6 HA.out.C0 HA.out.l0 HA.out.C1 HA.out.l1 HA.out.C2 HA.out.l2 HAll.out
        go_wp2_with fail
        clear k0 k1 k2
        refine CC.mono ?_
        clear CC
        rintro e w7 ⟨v, rfl, hRv, hB⟩
        obtain ⟨Al, cl, rfl, hl9, hC9⟩ := Kd.N_reads hRv
        have Hl := Go.Lib.hid (And.intro hl9 hC9)
        clear hRv hl9 hC9
        replace Ha := Go.Lib.hid (And.intro Ha.out.1 (Kd.C_below Ha.out.2 hB))
        replace Hc := Go.Lib.hid (And.intro Hc.out.1 (Kd.C_below Hc.out.2 hB))
        replace Hm := Go.Lib.hid (And.intro Hm.out.1 (Kd.C_below Hm.out.2 hB))
        replace HA := Go.Lib.hid (HA.out.later hB)
        have k0 := HA.out.k0
        have k1 := HA.out.k1
        have k2 := HA.out.k2
        clear hB
        clear HAll
        by_cases o1 : slot < 0
        · have g1 : decide (slot < 0) = true := decide_eq_true o1
          obtain rfl := HH.out.1 (Or.inl o1)
          have CC := matched_walk w7
          go_wp2_with fail
          clear k0 k1 k2
          refine CC.mono ?_
          clear CC
          rintro e w8 ⟨rfl, hB⟩
          replace Ha := Go.Lib.hid (And.intro Ha.out.1 (Kd.C_below Ha.out.2 hB))
          replace Hc := Go.Lib.hid (And.intro Hc.out.1 (Kd.C_below Hc.out.2 hB))
          replace Hm := Go.Lib.hid (And.intro Hm.out.1 (Kd.C_below Hm.out.2 hB))
          replace Hl := Go.Lib.hid (And.intro Hl.out.1 (Kd.C_below Hl.out.2 hB))
          replace HA := Go.Lib.hid (HA.out.later hB)
          have k0 := HA.out.k0
          have k1 := HA.out.k1
          have k2 := HA.out.k2
          clear hB
          go_wp2_with fail
          go_ret
          exact ⟨rfl, HA.out.B⟩
        · have g1 : decide (slot < 0) = false := decide_eq_false o1
          by_cases o2 : slot ≥ (S.length : Int)
          · have g2 : decide (slot ≥ (S.length : Int)) = true := decide_eq_true o2
            obtain rfl := HH.out.1 (Or.inr o2)
            have CC := matched_walk w7
            go_wp2_with fail
            clear k0 k1 k2
            refine CC.mono ?_
            clear CC
            rintro e w8 ⟨rfl, hB⟩
            replace Ha := Go.Lib.hid (And.intro Ha.out.1 (Kd.C_below Ha.out.2 hB))
            replace Hc := Go.Lib.hid (And.intro Hc.out.1 (Kd.C_below Hc.out.2 hB))
            replace Hm := Go.Lib.hid (And.intro Hm.out.1 (Kd.C_below Hm.out.2 hB))
            replace Hl := Go.Lib.hid (And.intro Hl.out.1 (Kd.C_below Hl.out.2 hB))
            replace HA := Go.Lib.hid (HA.out.later hB)
            have k0 := HA.out.k0
            have k1 := HA.out.k1
            have k2 := HA.out.k2
            clear hB
            go_wp2_with fail
            go_ret
            exact ⟨rfl, HA.out.B⟩
          · have g2 : decide (slot ≥ (S.length : Int)) = false := decide_eq_false o2
            obtain rfl := HH.out.2 (fun k => k.elim o1 o2)
            have CC := matched_walk w7
            go_wp2_with fail
            clear k0 k1 k2
            refine CC.mono ?_
            clear CC
            rintro e w8 ⟨rfl, hB⟩
            replace Ha := Go.Lib.hid (And.intro Ha.out.1 (Kd.C_below Ha.out.2 hB))
            replace Hc := Go.Lib.hid (And.intro Hc.out.1 (Kd.C_below Hc.out.2 hB))
            replace Hm := Go.Lib.hid (And.intro Hm.out.1 (Kd.C_below Hm.out.2 hB))
            replace Hl := Go.Lib.hid (And.intro Hl.out.1 (Kd.C_below Hl.out.2 hB))
            replace HA := Go.Lib.hid (HA.out.later hB)
            have k0 := HA.out.k0
            have k1 := HA.out.k1
            have k2 := HA.out.k2
            clear hB
            go_wp2_with fail
            go_ret
            exact ⟨rfl, HA.out.B⟩
      | true =>
        obtain ⟨h1, h2, ⟨KM, h3⟩, lo, hi, h, h4, h5, h6⟩ := all_C hc his slot
        obtain ⟨hp, hfirst⟩ := allB_first hc his
        obtain ⟨KC, hKC⟩ := refchances_is (F := F) (S := S) (T := T) (allB S T) (by have := HLen.out.1; omega) (bok_of_check hc).ns (bok_of_check hc).nf HLen.out.2
        have hch := hKC KC (Nat.le_refl _)
        rw [refall_chances hc his] at hch
        obtain ⟨KS, hKS⟩ := same_is (firstF F S T) (firstF F S T) (by have := firstF_len hc his; omega)
        have hsm := hKS KS (Nat.le_refl _)
        rw [decide_eq_true rfl] at hsm
        obtain ⟨hcl, hcr⟩ := chances_small (F := F) (S := S) (T := T) hc
        obtain ⟨KL, hKL⟩ := lists_is (allChances F S T) (by have := (bok_of_check hc).nf; omega) hcr
        have hls := hKL KL (Nat.le_refl _)
        obtain ⟨KR, hKR⟩ := refload_is (allB S T) slot (by have := HLen.out.1; omega) (fun l hl => by have := HLen.out.2 l hl; have := (bok_of_check hc).nf; omega)
        have hrl := hKR KR (Nat.le_refl _)
        have hml : (mustL (allChances F S T)).length = F.length := by unfold mustL; rw [List.length_map]; exact hcl
        have hf60 := (bok_of_check hc).nf
        obtain ⟨ch, ech⟩ : ∃ ch, allChances F S T = ch := ⟨_, rfl⟩
        obtain ⟨ff, eff⟩ : ∃ ff, firstF F S T = ff := ⟨_, rfl⟩
        obtain ⟨al, eal⟩ : ∃ al, allB S T = al := ⟨_, rfl⟩
        have hmat := fun i h => must_at (allChances F S T) (i := i) h
        rw [ech] at h2 h3 hch hcl hls hml hmat
        rw [eff] at h1 hfirst hsm
        rw [eal] at hp hfirst hch hrl h6 HAll
        obtain ⟨ml, eml⟩ : ∃ ml, mustL ch = ml := ⟨_, rfl⟩
        rw [eml] at h3 hml hmat
        have HAs := Go.Lib.hid h1
        have HCh := Go.Lib.hid h2
        have HMu := Go.Lib.hid h3
        have HLo := Go.Lib.hid h4
        have HRC := Go.Lib.hid hch
        have HSm := Go.Lib.hid hsm
        have HLs := Go.Lib.hid hls
        have HRl := Go.Lib.hid hrl
        have HMat := Go.Lib.hid hmat
        have HH := Go.Lib.hid (And.intro h5 h6)
        have HFst := Go.Lib.hid hfirst
        have HN := Go.Lib.hid (And.intro hp (And.intro hcl (And.intro hml hf60)))
        clear h1 h2 h3 h4 h5 h6 hch hsm hls hrl hmat hfirst hp hcl hml hcr hKC hKS hKL hKR his hc ech eff eal eml hf60
        have CC := match_Assign.calls A0 c0 F A1 c1 S A2 c2 T _ _ _ w1 HA.out.C0 HA.out.l0 HA.out.C1 HA.out.l1 HA.out.C2 HA.out.l2 HAs.out
        go_wp2_with fail
        clear k0 k1 k2
        refine CC.mono ?_
        clear CC
        rintro e w2 ⟨v, rfl, hRv, hB⟩
        obtain ⟨Aa, ca, rfl, hl9, hC9⟩ := Kd.R_reads hRv
        have Ha := Go.Lib.hid (And.intro hl9 hC9)
        clear hRv hl9 hC9
        replace HA := Go.Lib.hid (HA.out.later hB)
        have k0 := HA.out.k0
        have k1 := HA.out.k1
        have k2 := HA.out.k2
        clear hB
        have CC := match_Chances.calls A0 c0 F A1 c1 S A2 c2 T _ _ w2 HA.out.C0 HA.out.l0 HA.out.C1 HA.out.l1 HA.out.C2 HA.out.l2 HCh.out
        go_wp2_with fail
        clear k0 k1 k2
        refine CC.mono ?_
        clear CC
        rintro e w3 ⟨v, rfl, hRv, hB⟩
        obtain ⟨Ac, cc, rfl, hl9, hC9⟩ := Kd.R_reads (Kd.S_R hRv)
        have Hc := Go.Lib.hid (And.intro hl9 hC9)
        clear hRv hl9 hC9
        replace Ha := Go.Lib.hid (And.intro Ha.out.1 (Kd.C_below Ha.out.2 hB))
        replace HA := Go.Lib.hid (HA.out.later hB)
        have k0 := HA.out.k0
        have k1 := HA.out.k1
        have k2 := HA.out.k2
        clear hB
        have CC := match_Must.calls KM A0 c0 F A1 c1 S A2 c2 T _ _ w3 HA.out.C0 HA.out.l0 HA.out.C1 HA.out.l1 HA.out.C2 HA.out.l2 HMu.out
        go_wp2_with fail
        clear k0 k1 k2
        refine CC.mono ?_
        clear CC
        rintro e w4 ⟨v, rfl, hRv, hB⟩
        obtain ⟨Am, cm, rfl, hl9, hC9⟩ := Kd.R_reads hRv
        have Hm := Go.Lib.hid (And.intro hl9 hC9)
        clear hRv hl9 hC9
        replace Ha := Go.Lib.hid (And.intro Ha.out.1 (Kd.C_below Ha.out.2 hB))
        replace Hc := Go.Lib.hid (And.intro Hc.out.1 (Kd.C_below Hc.out.2 hB))
        replace HA := Go.Lib.hid (HA.out.later hB)
        have k0 := HA.out.k0
        have k1 := HA.out.k1
        have k2 := HA.out.k2
        clear hB
        have CC := match_Load.calls A0 c0 F A1 c1 S A2 c2 T slot _ _ _ w4 HA.out.C0 HA.out.l0 HA.out.C1 HA.out.l1 HA.out.C2 HA.out.l2 HLo.out
        go_wp2_with fail
        clear k0 k1 k2
        refine CC.mono ?_
        clear CC
        rintro e w5 ⟨rfl, hB⟩
        replace Ha := Go.Lib.hid (And.intro Ha.out.1 (Kd.C_below Ha.out.2 hB))
        replace Hc := Go.Lib.hid (And.intro Hc.out.1 (Kd.C_below Hc.out.2 hB))
        replace Hm := Go.Lib.hid (And.intro Hm.out.1 (Kd.C_below Hm.out.2 hB))
        replace HA := Go.Lib.hid (HA.out.later hB)
        have k0 := HA.out.k0
        have k1 := HA.out.k1
        have k2 := HA.out.k2
        clear hB
        have CC := laganref04_CheckBoard.calls KB A0 c0 F A1 c1 S A2 c2 T _ w5 HA.out.C0 HA.out.l0 HA.out.C1 HA.out.l1 HA.out.C2 HA.out.l2 HCb.out
        go_wp2_with fail
        clear k0 k1 k2
        refine CC.mono ?_
        clear CC
        rintro e w6 ⟨rfl, hB⟩
        replace Ha := Go.Lib.hid (And.intro Ha.out.1 (Kd.C_below Ha.out.2 hB))
        replace Hc := Go.Lib.hid (And.intro Hc.out.1 (Kd.C_below Hc.out.2 hB))
        replace Hm := Go.Lib.hid (And.intro Hm.out.1 (Kd.C_below Hm.out.2 hB))
        replace HA := Go.Lib.hid (HA.out.later hB)
        have k0 := HA.out.k0
        have k1 := HA.out.k1
        have k2 := HA.out.k2
        clear hB
        clear HAs HCh HMu HLo HCb
        have CC := laganref04_All.calls KA A0 c0 F A1 c1 S A2 c2 T _ w6 HA.out.C0 HA.out.l0 HA.out.C1 HA.out.l1 HA.out.C2 HA.out.l2 HAll.out
        go_wp2_with fail
        clear k0 k1 k2
        refine CC.mono ?_
        clear CC
        rintro e w7 ⟨v, rfl, hRv, hB⟩
        obtain ⟨Al, cl, rfl, hl9, hC9⟩ := Kd.N_reads hRv
        have Hl := Go.Lib.hid (And.intro hl9 hC9)
        clear hRv hl9 hC9
        replace Ha := Go.Lib.hid (And.intro Ha.out.1 (Kd.C_below Ha.out.2 hB))
        replace Hc := Go.Lib.hid (And.intro Hc.out.1 (Kd.C_below Hc.out.2 hB))
        replace Hm := Go.Lib.hid (And.intro Hm.out.1 (Kd.C_below Hm.out.2 hB))
        replace HA := Go.Lib.hid (HA.out.later hB)
        have k0 := HA.out.k0
        have k1 := HA.out.k1
        have k2 := HA.out.k2
        clear hB
        clear HAll
        have g3 : decide ((al.length : Int) > 0) = true := decide_eq_true (by have := HN.out.1; omega)
        have g3a : 0 < al.length := HN.out.1
        have g3b : (al = []) = False := eq_false (fun e => by rw [e] at g3a; exact absurd g3a (by simp))
        by_cases o1 : slot < 0
        · have g1 : decide (slot < 0) = true := decide_eq_true o1
          have CC := laganref04_Chances.calls KC A0 c0 F A1 c1 S A2 c2 T Al cl al _ w7 HA.out.C0 HA.out.l0 HA.out.C1 HA.out.l1 HA.out.C2 HA.out.l2 Hl.out.2 Hl.out.1 HRC.out
          go_wp2_with fail
          clear k0 k1 k2
          refine CC.mono ?_
          clear CC
          rintro e w8 ⟨v, rfl, hRv, hB⟩
          obtain ⟨Ax, cx, rfl, hl9, hC9⟩ := Kd.R_reads (Kd.S_R hRv)
          have Hx := Go.Lib.hid (And.intro hl9 hC9)
          clear hRv hl9 hC9
          replace Ha := Go.Lib.hid (And.intro Ha.out.1 (Kd.C_below Ha.out.2 hB))
          replace Hc := Go.Lib.hid (And.intro Hc.out.1 (Kd.C_below Hc.out.2 hB))
          replace Hm := Go.Lib.hid (And.intro Hm.out.1 (Kd.C_below Hm.out.2 hB))
          replace Hl := Go.Lib.hid (And.intro Hl.out.1 (Kd.C_below Hl.out.2 hB))
          replace HA := Go.Lib.hid (HA.out.later hB)
          have k0 := HA.out.k0
          have k1 := HA.out.k1
          have k2 := HA.out.k2
          clear hB
          obtain ⟨adl, Ar, cr, ead, hcell, hlr, hCr⟩ := rows_at Hl.out.2 0 (by omega) (by have := HN.out.1; omega)
          cases ead
          rw [show ((0 : Int)).toNat = 0 from rfl] at hcell hlr hCr
          rw [HFst.out] at hcell hlr hCr
          rw [Addr.add_zero'] at hcell
          have q0 : (0 < al.length) = True := eq_true HN.out.1
          have q1 : ((0 : Int) < (al.length : Int)) = True := eq_true (by have := HN.out.1; omega)
          have HCr := Go.Lib.hid (And.intro hlr hCr)
          clear hlr hCr
          have CC := laganref04_SameInts.calls KS Aa ca ff Ar cr ff _ w8 Ha.out.2 Ha.out.1 HCr.out.2 HCr.out.1 HSm.out
          go_wp2_with fail
          clear k0 k1 k2
          refine CC.mono ?_
          clear CC
          rintro e w9 ⟨rfl, hd⟩
          have hB := hd.below
          clear hd
          replace Ha := Go.Lib.hid (And.intro Ha.out.1 (Kd.C_below Ha.out.2 hB))
          replace Hc := Go.Lib.hid (And.intro Hc.out.1 (Kd.C_below Hc.out.2 hB))
          replace Hm := Go.Lib.hid (And.intro Hm.out.1 (Kd.C_below Hm.out.2 hB))
          replace Hl := Go.Lib.hid (And.intro Hl.out.1 (Kd.C_below Hl.out.2 hB))
          replace Hx := Go.Lib.hid (And.intro Hx.out.1 (Kd.C_below Hx.out.2 hB))
          replace HA := Go.Lib.hid (HA.out.later hB)
          have k0 := HA.out.k0
          have k1 := HA.out.k1
          have k2 := HA.out.k2
          clear hB
          clear HCr hcell q0 q1
          have CC := laganref04_SameLists.calls KL Ac cc ch Ax cx ch _ w9 Hc.out.2 Hc.out.1 Hx.out.2 Hx.out.1 HLs.out
          go_wp2_with fail
          clear k0 k1 k2
          refine CC.mono ?_
          clear CC
          rintro e w10 ⟨rfl, hd⟩
          have hB := hd.below
          clear hd
          replace Ha := Go.Lib.hid (And.intro Ha.out.1 (Kd.C_below Ha.out.2 hB))
          replace Hc := Go.Lib.hid (And.intro Hc.out.1 (Kd.C_below Hc.out.2 hB))
          replace Hm := Go.Lib.hid (And.intro Hm.out.1 (Kd.C_below Hm.out.2 hB))
          replace Hl := Go.Lib.hid (And.intro Hl.out.1 (Kd.C_below Hl.out.2 hB))
          replace Hx := Go.Lib.hid (And.intro Hx.out.1 (Kd.C_below Hx.out.2 hB))
          replace HA := Go.Lib.hid (HA.out.later hB)
          have k0 := HA.out.k0
          have k1 := HA.out.k1
          have k2 := HA.out.k2
          clear hB
          have e1 : ml.length = F.length := HN.out.2.2.1
          have e2 : ch.length = F.length := HN.out.2.1
          have g4 : ((ml.length : Int) != (F.length : Int)) = false := by rw [e1]; simp
          have HE := Go.Lib.hid (And.intro e1 e2)
          clear e1 e2
          go_wp2_with fail
          clear k0 k1 k2 g4
          go_loopw [19] (fun i wr => ∃ k : Nat, k ≤ ml.length ∧ i = .int .i64 k ∧ Hid (LAt w A0 c0 F A1 c1 S A2 c2 T wr ∧ (ml.length ≤ cm ∧ Kd.C (Kd.int .i64) wr Am ml.length ml) ∧ (ch.length ≤ cx ∧ Kd.C (Kd.slice 3 (Kd.int .i64)) wr Ax ch.length ch) ∧ al.length ≤ cl ∧ Kd.C (Kd.slice 3 (Kd.int .i64)) wr (some adl) al.length al)) (fun i _ => ml.length - (intOf i).toNat)
          case atStart => exact ⟨0, Nat.zero_le _, rfl, HA.out, Hm.out, Hx.out, Hl.out⟩
          case round =>
            obtain ⟨k, hk, rfl, HI⟩ := hrel
            have h60 : ml.length ≤ 60 := by rw [HE.out.1]; exact HN.out.2.2.2
            by_cases hlt : k < ml.length
            · have hkc : k < ch.length := by rw [HE.out.2, ← HE.out.1]; exact hlt
              have hma := HMat.out k hkc
              obtain ⟨ad, Ar, cr, ead, hcell, hlr, hCr⟩ := rows_at HI.out.2.2.1.2 (k : Int) (by omega) (by omega)
              obtain ⟨am, eam, hcm⟩ := Kd.at_int HI.out.2.1.2 (k : Int) (by omega) (by omega)
              rw [Int.toNat_natCast] at hcell hlr hCr hcm
              rw [rd_nat] at hcm
              obtain ⟨row, erow⟩ : ∃ row, ch.getD k [] = row := ⟨_, rfl⟩
              obtain ⟨mk, emk⟩ : ∃ mk, ml.getD k 0 = mk := ⟨_, rfl⟩
              rw [erow] at hcell hlr hCr hma
              rw [emk] at hma hcm
              cases ead
              cases eam
              have HCr := Go.Lib.hid hCr
              clear hCr hlr erow emk
              by_cases h1 : row.length = 1
              · obtain ⟨a1, ea1, hc1⟩ := Kd.at_int HCr.out 0 (by omega) (by omega)
                rw [if_pos h1] at hma
                rw [show ((0 : Int)).toNat = 0 from rfl] at hc1
                rw [Addr.add_zero'] at hc1
                have er : rd row 0 = mk := by rw [hma]; rfl
                rw [er] at hc1
                cases ea1
                rw [h1] at hcell
                have REL := Go.Lib.hid HI.out
                clear HI HCr hma er h1
                go_wp2_with fail
                go_roundw
                case rel => exact ⟨k + 1, by omega, by simp, REL.out⟩
                case measure => simp [intOf]; omega
              · rw [if_neg h1] at hma
                have g6 : decide ((row.length : Int) = 1) = false := decide_eq_false (by omega)
                subst hma
                have REL := Go.Lib.hid HI.out
                clear HI HCr
                go_wp2_with fail
                go_roundw
                case rel => exact ⟨k + 1, by omega, by simp, REL.out⟩
                case measure => simp [intOf]; omega
            · have hke : k = ml.length := by omega
              subst hke
              replace HA := Go.Lib.hid HI.out.1
              replace Hl := Go.Lib.hid HI.out.2.2.2
              clear HI Hm Hx Ha Hc hk h60 hlt
              have k0 := HA.out.k0
              have k1 := HA.out.k1
              have k2 := HA.out.k2
              obtain ⟨rfl, rfl, rfl⟩ := HH.out.1 (Or.inl o1)
              have CC := matched_walk wr
              go_wp2_with fail
              clear k0 k1 k2
              refine CC.mono ?_
              clear CC
              rintro e w11 ⟨rfl, hB⟩
              replace Hl := Go.Lib.hid (And.intro Hl.out.1 (Kd.C_below Hl.out.2 hB))
              replace HA := Go.Lib.hid (HA.out.later hB)
              have k0 := HA.out.k0
              have k1 := HA.out.k1
              have k2 := HA.out.k2
              clear hB
              go_wp2_with fail
              go_ret
              exact ⟨rfl, HA.out.B⟩
        · have g1 : decide (slot < 0) = false := decide_eq_false o1
          by_cases o2 : slot ≥ (S.length : Int)
          · have g2 : decide (slot ≥ (S.length : Int)) = true := decide_eq_true o2
            have CC := laganref04_Chances.calls KC A0 c0 F A1 c1 S A2 c2 T Al cl al _ w7 HA.out.C0 HA.out.l0 HA.out.C1 HA.out.l1 HA.out.C2 HA.out.l2 Hl.out.2 Hl.out.1 HRC.out
            go_wp2_with fail
            clear k0 k1 k2
            refine CC.mono ?_
            clear CC
            rintro e w8 ⟨v, rfl, hRv, hB⟩
            obtain ⟨Ax, cx, rfl, hl9, hC9⟩ := Kd.R_reads (Kd.S_R hRv)
            have Hx := Go.Lib.hid (And.intro hl9 hC9)
            clear hRv hl9 hC9
            replace Ha := Go.Lib.hid (And.intro Ha.out.1 (Kd.C_below Ha.out.2 hB))
            replace Hc := Go.Lib.hid (And.intro Hc.out.1 (Kd.C_below Hc.out.2 hB))
            replace Hm := Go.Lib.hid (And.intro Hm.out.1 (Kd.C_below Hm.out.2 hB))
            replace Hl := Go.Lib.hid (And.intro Hl.out.1 (Kd.C_below Hl.out.2 hB))
            replace HA := Go.Lib.hid (HA.out.later hB)
            have k0 := HA.out.k0
            have k1 := HA.out.k1
            have k2 := HA.out.k2
            clear hB
            obtain ⟨adl, Ar, cr, ead, hcell, hlr, hCr⟩ := rows_at Hl.out.2 0 (by omega) (by have := HN.out.1; omega)
            cases ead
            rw [show ((0 : Int)).toNat = 0 from rfl] at hcell hlr hCr
            rw [HFst.out] at hcell hlr hCr
            rw [Addr.add_zero'] at hcell
            have q0 : (0 < al.length) = True := eq_true HN.out.1
            have q1 : ((0 : Int) < (al.length : Int)) = True := eq_true (by have := HN.out.1; omega)
            have HCr := Go.Lib.hid (And.intro hlr hCr)
            clear hlr hCr
            have CC := laganref04_SameInts.calls KS Aa ca ff Ar cr ff _ w8 Ha.out.2 Ha.out.1 HCr.out.2 HCr.out.1 HSm.out
            go_wp2_with fail
            clear k0 k1 k2
            refine CC.mono ?_
            clear CC
            rintro e w9 ⟨rfl, hd⟩
            have hB := hd.below
            clear hd
            replace Ha := Go.Lib.hid (And.intro Ha.out.1 (Kd.C_below Ha.out.2 hB))
            replace Hc := Go.Lib.hid (And.intro Hc.out.1 (Kd.C_below Hc.out.2 hB))
            replace Hm := Go.Lib.hid (And.intro Hm.out.1 (Kd.C_below Hm.out.2 hB))
            replace Hl := Go.Lib.hid (And.intro Hl.out.1 (Kd.C_below Hl.out.2 hB))
            replace Hx := Go.Lib.hid (And.intro Hx.out.1 (Kd.C_below Hx.out.2 hB))
            replace HA := Go.Lib.hid (HA.out.later hB)
            have k0 := HA.out.k0
            have k1 := HA.out.k1
            have k2 := HA.out.k2
            clear hB
            clear HCr hcell q0 q1
            have CC := laganref04_SameLists.calls KL Ac cc ch Ax cx ch _ w9 Hc.out.2 Hc.out.1 Hx.out.2 Hx.out.1 HLs.out
            go_wp2_with fail
            clear k0 k1 k2
            refine CC.mono ?_
            clear CC
            rintro e w10 ⟨rfl, hd⟩
            have hB := hd.below
            clear hd
            replace Ha := Go.Lib.hid (And.intro Ha.out.1 (Kd.C_below Ha.out.2 hB))
            replace Hc := Go.Lib.hid (And.intro Hc.out.1 (Kd.C_below Hc.out.2 hB))
            replace Hm := Go.Lib.hid (And.intro Hm.out.1 (Kd.C_below Hm.out.2 hB))
            replace Hl := Go.Lib.hid (And.intro Hl.out.1 (Kd.C_below Hl.out.2 hB))
            replace Hx := Go.Lib.hid (And.intro Hx.out.1 (Kd.C_below Hx.out.2 hB))
            replace HA := Go.Lib.hid (HA.out.later hB)
            have k0 := HA.out.k0
            have k1 := HA.out.k1
            have k2 := HA.out.k2
            clear hB
            have e1 : ml.length = F.length := HN.out.2.2.1
            have e2 : ch.length = F.length := HN.out.2.1
            have g4 : ((ml.length : Int) != (F.length : Int)) = false := by rw [e1]; simp
            have HE := Go.Lib.hid (And.intro e1 e2)
            clear e1 e2
            go_wp2_with fail
            clear k0 k1 k2 g4
            go_loopw [19] (fun i wr => ∃ k : Nat, k ≤ ml.length ∧ i = .int .i64 k ∧ Hid (LAt w A0 c0 F A1 c1 S A2 c2 T wr ∧ (ml.length ≤ cm ∧ Kd.C (Kd.int .i64) wr Am ml.length ml) ∧ (ch.length ≤ cx ∧ Kd.C (Kd.slice 3 (Kd.int .i64)) wr Ax ch.length ch) ∧ al.length ≤ cl ∧ Kd.C (Kd.slice 3 (Kd.int .i64)) wr (some adl) al.length al)) (fun i _ => ml.length - (intOf i).toNat)
            case atStart => exact ⟨0, Nat.zero_le _, rfl, HA.out, Hm.out, Hx.out, Hl.out⟩
            case round =>
              obtain ⟨k, hk, rfl, HI⟩ := hrel
              have h60 : ml.length ≤ 60 := by rw [HE.out.1]; exact HN.out.2.2.2
              by_cases hlt : k < ml.length
              · have hkc : k < ch.length := by rw [HE.out.2, ← HE.out.1]; exact hlt
                have hma := HMat.out k hkc
                obtain ⟨ad, Ar, cr, ead, hcell, hlr, hCr⟩ := rows_at HI.out.2.2.1.2 (k : Int) (by omega) (by omega)
                obtain ⟨am, eam, hcm⟩ := Kd.at_int HI.out.2.1.2 (k : Int) (by omega) (by omega)
                rw [Int.toNat_natCast] at hcell hlr hCr hcm
                rw [rd_nat] at hcm
                obtain ⟨row, erow⟩ : ∃ row, ch.getD k [] = row := ⟨_, rfl⟩
                obtain ⟨mk, emk⟩ : ∃ mk, ml.getD k 0 = mk := ⟨_, rfl⟩
                rw [erow] at hcell hlr hCr hma
                rw [emk] at hma hcm
                cases ead
                cases eam
                have HCr := Go.Lib.hid hCr
                clear hCr hlr erow emk
                by_cases h1 : row.length = 1
                · obtain ⟨a1, ea1, hc1⟩ := Kd.at_int HCr.out 0 (by omega) (by omega)
                  rw [if_pos h1] at hma
                  rw [show ((0 : Int)).toNat = 0 from rfl] at hc1
                  rw [Addr.add_zero'] at hc1
                  have er : rd row 0 = mk := by rw [hma]; rfl
                  rw [er] at hc1
                  cases ea1
                  rw [h1] at hcell
                  have REL := Go.Lib.hid HI.out
                  clear HI HCr hma er h1
                  go_wp2_with fail
                  go_roundw
                  case rel => exact ⟨k + 1, by omega, by simp, REL.out⟩
                  case measure => simp [intOf]; omega
                · rw [if_neg h1] at hma
                  have g6 : decide ((row.length : Int) = 1) = false := decide_eq_false (by omega)
                  subst hma
                  have REL := Go.Lib.hid HI.out
                  clear HI HCr
                  go_wp2_with fail
                  go_roundw
                  case rel => exact ⟨k + 1, by omega, by simp, REL.out⟩
                  case measure => simp [intOf]; omega
              · have hke : k = ml.length := by omega
                subst hke
                replace HA := Go.Lib.hid HI.out.1
                replace Hl := Go.Lib.hid HI.out.2.2.2
                clear HI Hm Hx Ha Hc hk h60 hlt
                have k0 := HA.out.k0
                have k1 := HA.out.k1
                have k2 := HA.out.k2
                obtain ⟨rfl, rfl, rfl⟩ := HH.out.1 (Or.inr o2)
                have CC := matched_walk wr
                go_wp2_with fail
                clear k0 k1 k2
                refine CC.mono ?_
                clear CC
                rintro e w11 ⟨rfl, hB⟩
                replace Hl := Go.Lib.hid (And.intro Hl.out.1 (Kd.C_below Hl.out.2 hB))
                replace HA := Go.Lib.hid (HA.out.later hB)
                have k0 := HA.out.k0
                have k1 := HA.out.k1
                have k2 := HA.out.k2
                clear hB
                go_wp2_with fail
                go_ret
                exact ⟨rfl, HA.out.B⟩
          · have g2 : decide (slot ≥ (S.length : Int)) = false := decide_eq_false o2
            have CC := laganref04_Chances.calls KC A0 c0 F A1 c1 S A2 c2 T Al cl al _ w7 HA.out.C0 HA.out.l0 HA.out.C1 HA.out.l1 HA.out.C2 HA.out.l2 Hl.out.2 Hl.out.1 HRC.out
            go_wp2_with fail
            clear k0 k1 k2
            refine CC.mono ?_
            clear CC
            rintro e w8 ⟨v, rfl, hRv, hB⟩
            obtain ⟨Ax, cx, rfl, hl9, hC9⟩ := Kd.R_reads (Kd.S_R hRv)
            have Hx := Go.Lib.hid (And.intro hl9 hC9)
            clear hRv hl9 hC9
            replace Ha := Go.Lib.hid (And.intro Ha.out.1 (Kd.C_below Ha.out.2 hB))
            replace Hc := Go.Lib.hid (And.intro Hc.out.1 (Kd.C_below Hc.out.2 hB))
            replace Hm := Go.Lib.hid (And.intro Hm.out.1 (Kd.C_below Hm.out.2 hB))
            replace Hl := Go.Lib.hid (And.intro Hl.out.1 (Kd.C_below Hl.out.2 hB))
            replace HA := Go.Lib.hid (HA.out.later hB)
            have k0 := HA.out.k0
            have k1 := HA.out.k1
            have k2 := HA.out.k2
            clear hB
            obtain ⟨adl, Ar, cr, ead, hcell, hlr, hCr⟩ := rows_at Hl.out.2 0 (by omega) (by have := HN.out.1; omega)
            cases ead
            rw [show ((0 : Int)).toNat = 0 from rfl] at hcell hlr hCr
            rw [HFst.out] at hcell hlr hCr
            rw [Addr.add_zero'] at hcell
            have q0 : (0 < al.length) = True := eq_true HN.out.1
            have q1 : ((0 : Int) < (al.length : Int)) = True := eq_true (by have := HN.out.1; omega)
            have HCr := Go.Lib.hid (And.intro hlr hCr)
            clear hlr hCr
            have CC := laganref04_SameInts.calls KS Aa ca ff Ar cr ff _ w8 Ha.out.2 Ha.out.1 HCr.out.2 HCr.out.1 HSm.out
            go_wp2_with fail
            clear k0 k1 k2
            refine CC.mono ?_
            clear CC
            rintro e w9 ⟨rfl, hd⟩
            have hB := hd.below
            clear hd
            replace Ha := Go.Lib.hid (And.intro Ha.out.1 (Kd.C_below Ha.out.2 hB))
            replace Hc := Go.Lib.hid (And.intro Hc.out.1 (Kd.C_below Hc.out.2 hB))
            replace Hm := Go.Lib.hid (And.intro Hm.out.1 (Kd.C_below Hm.out.2 hB))
            replace Hl := Go.Lib.hid (And.intro Hl.out.1 (Kd.C_below Hl.out.2 hB))
            replace Hx := Go.Lib.hid (And.intro Hx.out.1 (Kd.C_below Hx.out.2 hB))
            replace HA := Go.Lib.hid (HA.out.later hB)
            have k0 := HA.out.k0
            have k1 := HA.out.k1
            have k2 := HA.out.k2
            clear hB
            clear HCr hcell q0 q1
            have CC := laganref04_SameLists.calls KL Ac cc ch Ax cx ch _ w9 Hc.out.2 Hc.out.1 Hx.out.2 Hx.out.1 HLs.out
            go_wp2_with fail
            clear k0 k1 k2
            refine CC.mono ?_
            clear CC
            rintro e w10 ⟨rfl, hd⟩
            have hB := hd.below
            clear hd
            replace Ha := Go.Lib.hid (And.intro Ha.out.1 (Kd.C_below Ha.out.2 hB))
            replace Hc := Go.Lib.hid (And.intro Hc.out.1 (Kd.C_below Hc.out.2 hB))
            replace Hm := Go.Lib.hid (And.intro Hm.out.1 (Kd.C_below Hm.out.2 hB))
            replace Hl := Go.Lib.hid (And.intro Hl.out.1 (Kd.C_below Hl.out.2 hB))
            replace Hx := Go.Lib.hid (And.intro Hx.out.1 (Kd.C_below Hx.out.2 hB))
            replace HA := Go.Lib.hid (HA.out.later hB)
            have k0 := HA.out.k0
            have k1 := HA.out.k1
            have k2 := HA.out.k2
            clear hB
            have e1 : ml.length = F.length := HN.out.2.2.1
            have e2 : ch.length = F.length := HN.out.2.1
            have g4 : ((ml.length : Int) != (F.length : Int)) = false := by rw [e1]; simp
            have HE := Go.Lib.hid (And.intro e1 e2)
            clear e1 e2
            go_wp2_with fail
            clear k0 k1 k2 g4
            go_loopw [19] (fun i wr => ∃ k : Nat, k ≤ ml.length ∧ i = .int .i64 k ∧ Hid (LAt w A0 c0 F A1 c1 S A2 c2 T wr ∧ (ml.length ≤ cm ∧ Kd.C (Kd.int .i64) wr Am ml.length ml) ∧ (ch.length ≤ cx ∧ Kd.C (Kd.slice 3 (Kd.int .i64)) wr Ax ch.length ch) ∧ al.length ≤ cl ∧ Kd.C (Kd.slice 3 (Kd.int .i64)) wr (some adl) al.length al)) (fun i _ => ml.length - (intOf i).toNat)
            case atStart => exact ⟨0, Nat.zero_le _, rfl, HA.out, Hm.out, Hx.out, Hl.out⟩
            case round =>
              obtain ⟨k, hk, rfl, HI⟩ := hrel
              have h60 : ml.length ≤ 60 := by rw [HE.out.1]; exact HN.out.2.2.2
              by_cases hlt : k < ml.length
              · have hkc : k < ch.length := by rw [HE.out.2, ← HE.out.1]; exact hlt
                have hma := HMat.out k hkc
                obtain ⟨ad, Ar, cr, ead, hcell, hlr, hCr⟩ := rows_at HI.out.2.2.1.2 (k : Int) (by omega) (by omega)
                obtain ⟨am, eam, hcm⟩ := Kd.at_int HI.out.2.1.2 (k : Int) (by omega) (by omega)
                rw [Int.toNat_natCast] at hcell hlr hCr hcm
                rw [rd_nat] at hcm
                obtain ⟨row, erow⟩ : ∃ row, ch.getD k [] = row := ⟨_, rfl⟩
                obtain ⟨mk, emk⟩ : ∃ mk, ml.getD k 0 = mk := ⟨_, rfl⟩
                rw [erow] at hcell hlr hCr hma
                rw [emk] at hma hcm
                cases ead
                cases eam
                have HCr := Go.Lib.hid hCr
                clear hCr hlr erow emk
                by_cases h1 : row.length = 1
                · obtain ⟨a1, ea1, hc1⟩ := Kd.at_int HCr.out 0 (by omega) (by omega)
                  rw [if_pos h1] at hma
                  rw [show ((0 : Int)).toNat = 0 from rfl] at hc1
                  rw [Addr.add_zero'] at hc1
                  have er : rd row 0 = mk := by rw [hma]; rfl
                  rw [er] at hc1
                  cases ea1
                  rw [h1] at hcell
                  have REL := Go.Lib.hid HI.out
                  clear HI HCr hma er h1
                  go_wp2_with fail
                  go_roundw
                  case rel => exact ⟨k + 1, by omega, by simp, REL.out⟩
                  case measure => simp [intOf]; omega
                · rw [if_neg h1] at hma
                  have g6 : decide ((row.length : Int) = 1) = false := decide_eq_false (by omega)
                  subst hma
                  have REL := Go.Lib.hid HI.out
                  clear HI HCr
                  go_wp2_with fail
                  go_roundw
                  case rel => exact ⟨k + 1, by omega, by simp, REL.out⟩
                  case measure => simp [intOf]; omega
              · have hke : k = ml.length := by omega
                subst hke
                replace HA := Go.Lib.hid HI.out.1
                replace Hl := Go.Lib.hid HI.out.2.2.2
                clear HI Hm Hx Ha Hc hk h60 hlt
                have k0 := HA.out.k0
                have k1 := HA.out.k1
                have k2 := HA.out.k2
                obtain ⟨rfl, e3, e4⟩ := HH.out.2 (by omega)
                have hrl := HRl.out
                rw [e3, e4] at hrl
                have HR2 := Go.Lib.hid hrl
                clear hrl e3 e4
                have CC := laganref04_Load.calls KR (some adl) cl al slot _ _ _ Hl.out.2 Hl.out.1 HR2.out
                go_wp2_with fail
                clear k0 k1 k2
                refine CC.mono ?_
                clear CC
                rintro e w11 ⟨rfl, hB⟩
                replace Hl := Go.Lib.hid (And.intro Hl.out.1 (Kd.C_below Hl.out.2 hB))
                replace HA := Go.Lib.hid (HA.out.later hB)
                have k0 := HA.out.k0
                have k1 := HA.out.k1
                have k2 := HA.out.k2
                clear hB
                have CC := matched_walk w11
                go_wp2_with fail
                clear k0 k1 k2
                refine CC.mono ?_
                clear CC
                rintro e w12 ⟨rfl, hB⟩
                replace Hl := Go.Lib.hid (And.intro Hl.out.1 (Kd.C_below Hl.out.2 hB))
                replace HA := Go.Lib.hid (HA.out.later hB)
                have k0 := HA.out.k0
                have k1 := HA.out.k1
                have k2 := HA.out.k2
                clear hB
                go_wp2_with fail
                go_ret
                exact ⟨rfl, HA.out.B⟩
end Go.Proofs.Ytkmmihadcbfkoaa
end

section
namespace Go.Proofs.Ytkmmihadcbfkoaa
open Go.ChangeShapes Go.WideShapes Go.RowKit Go.Deep Go.Joins Go.Proofs.YtkmmihadcbfkoaaW.PrintWords PM
set_option linter.unusedVariables false
set_option linter.unusedSimpArgs false
section
variable {H : Type} {enc : TypeId × Value → H} {W : World} {base : Nat} {held : Bool}
theorem C_of_cells {A : Option Addr} {L C : Nat} {Z : List Int} (hl : L ≤ C) (hm : C ≤ maxLen) (hz : Z.length = C) (hn : A = none → C = 0) (hc : ∀ a, A = some a → ∀ c, c < C → W.cell? (a.add c) = some (.int .i64 (Z.getD c 0))) :
    (Z.take L).length = L ∧ Kd.C (Kd.int .i64) W A L (Z.take L) := by
  have hlen : (Z.take L).length = L := by rw [List.length_take]; omega
  have hmx : maxLen = 9223372036854775807 := rfl
  refine ⟨hlen, ?_⟩
  cases A with
  | none =>
    have h0 : L = 0 := by have := hn rfl; omega
    subst h0
    exact Kd.C_nil _ _
  | some a =>
    refine Kd.C_of_reads (enc := Value.int .i64) (d := (0 : Int)) (h1 := fun _ => rfl) ⟨hlen, by omega, fun _ => ⟨a, rfl, fun j hj => ?_⟩⟩
    rw [hc a rfl j (by omega)]
    simp [List.getD_eq_getElem?_getD, List.getElem?_take, hj]
theorem open_intsC {fuel : Nat} {cs : List Value} {x : DataW H × List MemPlace} (h : DataW.trod enc Try.prog W base (fun _ => true) held fuel 22 cs = some x) :
    ∃ A c F, cs = [.slice A F.length c] ∧ F.length ≤ c ∧ Kd.C (Kd.int .i64) W A F.length F := by
  rcases open_ints Try.underlying22 Try.underlying3 (by kernel_rfl) h with ⟨rfl, _⟩ | ⟨a, len, cap, zs, rfl, _, hl, hm, hz, _, hcell, _⟩
  · exact ⟨none, 0, [], rfl, Nat.zero_le _, Kd.C_nil _ _⟩
  · simp only [if_true] at hz
    obtain ⟨e, hC⟩ := C_of_cells (W := W) (A := some a) (L := len) (C := cap) (Z := zs) hl hm hz (fun k => by cases k) (fun a' k c hc => by cases k; exact hcell c (by omega))
    exact ⟨some a, cap, zs.take len, by rw [e], by rw [e]; exact hl, by rw [e]; exact hC⟩
theorem open_rowsC {fuel : Nat} {cs : List Value} {x : DataW H × List MemPlace} (h : DataW.trod enc Try.prog W base (fun _ => true) held fuel 24 cs = some x) :
    ∃ A c T, cs = [.slice A T.length c] ∧ T.length ≤ c ∧ Kd.C (Kd.slice 3 (Kd.int .i64)) W A T.length T := by
  rcases open_int_rows Try.underlying24 Try.underlying22 Try.underlying3 (by kernel_rfl) (by kernel_rfl) h with ⟨rfl, _⟩ | ⟨a, len, cap, A, L, C, Z, rfl, _, hl, hm, _, hr⟩
  · exact ⟨none, 0, [], rfl, Nat.zero_le _, Kd.C_nil _ _⟩
  · have hmx : maxLen = 9223372036854775807 := rfl
    have hlen : ((List.range len).map fun r => (Z r).take (L r)).length = len := by simp
    refine ⟨some a, cap, (List.range len).map fun r => (Z r).take (L r), by rw [hlen], by rw [hlen]; exact hl, ?_⟩
    rw [hlen]
    refine ⟨hlen, by omega, fun _ => ⟨a, rfl, fun j p hj => ?_⟩⟩
    obtain ⟨hjl, hp⟩ := List.getElem?_eq_some_iff.1 hj
    rw [hlen] at hjl
    rw [List.getElem_map, List.getElem_range] at hp
    obtain ⟨h1, h2, h3, h4, _, h6, h7⟩ := hr j (by omega)
    obtain ⟨e, hC⟩ := C_of_cells (W := W) (A := A j) h2 h3 h4 h6 (fun a' k => (h7 a' k).2)
    rw [hp] at e hC
    refine ⟨[.slice (A j) (L j) (C j)], rfl, ⟨A j, C j, by rw [e], by rw [e]; exact h2, by rw [e]; exact hC⟩, fun i u hu => ?_⟩
    cases i with
    | zero =>
      simp only [List.getElem?_cons_zero, Option.some.injEq] at hu
      subst hu
      show W.cell? (a.add (j * 1 + 0)) = _
      rw [Nat.mul_one, Nat.add_zero]
      exact h1
    | succ i => simp at hu
set_option maxRecDepth 100000 in
theorem open_slotsC {fuel : Nat} {cs : List Value} {x : DataW H × List MemPlace} (h : DataW.trod enc Try.prog W base (fun _ => true) held fuel 23 cs = some x) :
    ∃ A c S, cs = [.slice A S.length c] ∧ S.length ≤ c ∧ Kd.C k50 W A S.length S := by
  rcases open_slice Try.underlying23 h with ⟨rfl, _⟩ | ⟨a, len, cap, m, n, D, Pl, rfl, _, hl, hm, hmm, _, hx⟩
  · exact ⟨none, 0, [], rfl, Nat.zero_le _, Kd.C_nil _ _⟩
  · simp only [if_true] at hmm
    have hmx : maxLen = 9223372036854775807 := rfl
    have hsz : Try.prog.cellsOf 50 = 3 := by kernel_rfl
    have c3 : Try.prog.cellsOf 3 = 1 := by kernel_rfl
    rw [hsz] at hx
    have each : ∀ i, i < len → ∃ s : Int × Int × Int, W.cell? (a.add (i * 3 + 0)) = some (.int .i64 s.1) ∧ W.cell? (a.add (i * 3 + 1)) = some (.int .i64 s.2.1) ∧ W.cell? (a.add (i * 3 + 2)) = some (.int .i64 s.2.2) := fun i hi => by
      obtain ⟨cs', hcs, ht⟩ := hx i (by omega)
      obtain ⟨_, hlen, hcell⟩ := World.cells?_some hcs
      obtain ⟨y0, y1, y2, n', _, _, g0, g1, g2⟩ := trod_struct3 Try.underlying50 ht
      obtain ⟨u0, u1, u2, rfl⟩ : ∃ u0 u1 u2, cs' = [u0, u1, u2] := by
        match cs', hlen with
        | [u0, u1, u2], _ => exact ⟨u0, u1, u2, rfl⟩
      obtain ⟨n0, e0, _⟩ := DataW.trod_int Try.underlying3 g0
      obtain ⟨n1, e1, _⟩ := DataW.trod_int Try.underlying3 g1
      obtain ⟨n2, e2, _⟩ := DataW.trod_int Try.underlying3 g2
      rw [c3] at e0 e1 e2
      simp only [List.drop_zero, List.drop_succ_cons, List.take_succ_cons, List.take_zero, List.cons.injEq, and_true] at e0 e1 e2
      subst e0 e1 e2
      have k0 := hcell 0 (by omega)
      have k1 := hcell 1 (by omega)
      have k2 := hcell 2 (by omega)
      rw [Deep.add_add] at k0 k1 k2
      exact ⟨(n0, n1, n2), k0, k1, k2⟩
    obtain ⟨f, hf⟩ := choose_lt (α := Int × Int × Int) each
    have hlen : ((List.range len).map fun r => (⟨(f r).1, (f r).2.1, (f r).2.2⟩ : S50)).length = len := by simp
    refine ⟨some a, cap, (List.range len).map fun r => (⟨(f r).1, (f r).2.1, (f r).2.2⟩ : S50), by rw [hlen], by rw [hlen]; exact hl, ?_⟩
    rw [hlen]
    refine ⟨hlen, by omega, fun _ => ⟨a, rfl, fun j p hj => ?_⟩⟩
    obtain ⟨hjl, hp⟩ := List.getElem?_eq_some_iff.1 hj
    rw [hlen] at hjl
    rw [List.getElem_map, List.getElem_range] at hp
    obtain ⟨h0, h1, h2⟩ := hf j hjl
    refine ⟨[.int .i64 p.f0, .int .i64 p.f1, .int .i64 p.f2], rfl, k50_mk W p, fun i u hu => ?_⟩
    subst hp
    match i, hu with
    | 0, hu => simp only [List.getElem?_cons_zero, Option.some.injEq] at hu; subst hu; exact h0
    | 1, hu => simp only [List.getElem?_cons_succ, List.getElem?_cons_zero, Option.some.injEq] at hu; subst hu; exact h1
    | 2, hu => simp only [List.getElem?_cons_succ, List.getElem?_cons_zero, Option.some.injEq] at hu; subst hu; exact h2
    | i + 3, hu => simp at hu
set_option maxRecDepth 100000 in
/-- A board that came in. -/
theorem open_boardV {r : Reach} {b0 : Nat} {v : Value} {d : DataW H} {p : List MemPlace} (hv : Value.okWide Try.prog W r b0 26 v) (h : DataW.Trod enc Try.prog W base (fun _ => true) held 26 v d p) :
    ∃ A0 c0 F A1 c1 S A2 c2 T, v = .agg #[.slice A0 F.length c0, .slice A1 S.length c1, .slice A2 T.length c2] ∧ Kd.C (Kd.int .i64) W A0 F.length F ∧ F.length ≤ c0 ∧ Kd.C k50 W A1 S.length S ∧ S.length ≤ c1 ∧ Kd.C (Kd.slice 3 (Kd.int .i64)) W A2 T.length T ∧ T.length ≤ c2 := by
  obtain ⟨v0, v1, v2, y0, y1, y2, n, rfl, _, _, h0, h1, h2⟩ := open_agg3 Try.underlying26 (by kernel_rfl) (by kernel_rfl) hv h
  obtain ⟨A0, c0, F, e0, l0, C0⟩ := open_intsC h0
  obtain ⟨A1, c1, S, e1, l1, C1⟩ := open_slotsC h1
  obtain ⟨A2, c2, T, e2, l2, C2⟩ := open_rowsC h2
  simp only [List.cons.injEq, and_true] at e0 e1 e2
  subst e0 e1 e2
  exact ⟨A0, c0, F, A1, c1, S, A2, c2, T, rfl, C0, l0, C1, l1, C2, l2⟩
end
end Go.Proofs.Ytkmmihadcbfkoaa
end

section
namespace Go.Proofs.Ytkmmihadcbfkoaa
open Go.ChangeShapes Go.WideShapes Go.ChangeAt Go.RowKit Go.Proofs.YtkmmihadcbfkoaaW.PrintWords PM
set_option linter.unusedVariables false
set_option linter.unusedSimpArgs false
theorem matchAll_own : ownKnob Try.prog.godebug = none := by kernel_rfl
theorem matchAll_laid : laidOutB Try.prog = true := by kernel_rfl
set_option maxRecDepth 100000 in
theorem matchAll_lifted (os : Os) (started : os.Started) (H : Type) (enc : TypeId × Value → H) :
    ReturnsInHanded {} Try.checked os 3 .any (Rows.matchAllSpec.pre6 enc Try.prog Try.f3 Rows.matchAllRow.domain false) (Rows.matchAllSpec.post enc Try.prog Try.f3 false true false false) := by
  refine returnsInHanded_of_change (C := Try.checked) matchAll_own started (by kernel_rfl) Try.func3
    (ChangeSpec.witness6 (enc := enc) (C := Try.checked) false ⟨#[], #[.agg #[.slice none 0 0, .slice none 0 0, .slice none 0 0], .int .i64 0], []⟩ 8 (by kernel_rfl) (by kernel_rfl) (by kernel_rfl) (by kernel_rfl)) ?_
  intro W base args ds gs before hval0 hW hcnd _
  have hval : ∀ (j : Nat) t v, Try.f3.params[j]? = some t → args[j]? = some v → Value.okWide Try.prog W .any base t v := hval0
  have hW' := hW
  obtain ⟨p, q, hA0, hV, rfl, hfz, hnd⟩ := hW
  have hA : DataW.TrodAll enc Try.prog W 0 (fun _ => true) true Try.f3.params.toList args.toList ds p := hA0
  rw [Try.params3] at hA hval
  obtain ⟨v0, vs0, d0, ds0, p0, q0, hargs, rfl, rfl, h0, r0⟩ := trodAll_cons hA
  obtain ⟨v1, vs1, d1, ds1, p1, q1, rfl, rfl, rfl, h1, r1⟩ := trodAll_cons r0
  obtain ⟨rfl, rfl, rfl⟩ := trodAll_nil r1
  obtain rfl : args = #[v0, v1] := by cases args; simp_all
  obtain ⟨rfl, rfl⟩ := trodVars_none hV
  have k0 := h0
  have lt0 : ∀ x ∈ p0, x.block < W.heap.size := by obtain ⟨m, hm⟩ := k0; exact DataW.trod_lt m _ _ _ hm
  obtain ⟨A0a, c0a, F, A0b, c0b, S, A0c, c0c, T, rfl, Ca, la, Cb, lb, Cc, lc⟩ := open_boardV (hval 0 26 v0 rfl rfl) h0
  obtain ⟨x1, rfl, rfl, rfl, w1⟩ := open_int Try.underlying3 (hval 1 3 v1 rfl rfl) h1
  clear hA0 hval0
  refine (all_walk A0a c0a F A0b c0b S A0c c0c T x1 W Ca la Cb lb Cc lc).mono fun e W' ⟨he, bel⟩ => ?_
  subst he
  exact ⟨_, rfl, _, _, _, [], _, [], hW', trodAll_mk1 (shut_bool Try.underlying4 _), (trodAll_cons_mk (Below.trod matchAll_laid (by kernel_rfl) (of_decide_eq_true (by kernel_rfl)) k0 bel lt0) (trodAll_cons_mk (shut_int Try.underlying3 w1) trodAll_mk0)), rfl, bel.frame _, fun h => by cases h⟩
theorem matchAll_holds : Rows.MatchAllSaid :=
  OpenClaim.holds_of_wide 3 Try.f3 rfl rfl rfl rfl rfl rfl rfl ⟨rfl, rfl, rfl, rfl, rfl⟩ rfl rfl rfl rfl rfl (by kernel_rfl) Try.func3 (by kernel_rfl)
    (of_decide_eq_true (by kernel_rfl)) (by unfold Func.isWrapper; first | (rw [if_pos (by decide +kernel)]; kernel_rfl) | (rw [if_neg (by decide +kernel)]; exact ⟨rfl, rfl⟩))
    (fun os started H enc _ => matchAll_lifted os started H enc)
#print axioms matchAll_holds
end Go.Proofs.Ytkmmihadcbfkoaa
end
