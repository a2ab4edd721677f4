/-
  MatchMay holds: for every board, find, slot and list, the law returns true and what it is given reads as it did. (part 4 of 6 of the texts that it stands on)
-/
import Derived.Laws.EntriesVeiled
import Derived.WalkMore
import Derived.Deep.RegionHeld3
import Derived.Test.YtkmmihadcbfkoaaZMayc
section
namespace Go.Proofs.Ytkmmihadcbfkoaa
open Go.RowKit Go.Proofs.YtkmmihadcbfkoaaW.PrintWords PM
set_option linter.unusedVariables false
set_option linter.unusedSimpArgs false
theorem atTo_count (zs : List Int) (s : Int) : ∀ k, k ≤ zs.length → (atTo zs s k).length = (zs.take k).count s
 | 0, _ => rfl
 | k + 1, h => by
  have ih := atTo_count zs s k (by omega)
  have htk : zs.take (k + 1) = zs.take k ++ [zs[k]] := List.take_succ_eq_append_getElem (by omega)
  rw [htk, List.count_append, List.count_singleton]
  by_cases e : zs[k] = s
  ·
   rw [atTo_yes (by simp [List.getElem?_eq_getElem (show k < zs.length by omega), e]), List.length_append, ih]
   simp [e]
  ·
   rw [atTo_no (by simp [List.getElem?_eq_getElem (show k < zs.length by omega), e]), ih]
   simp [e]
theorem ld_count (zs : List Int) (s : Int) : ld zs s = (zs.count s : Nat) := by
 unfold ld atOf
 rw [atTo_count zs s zs.length (Nat.le_refl _), List.take_length]
theorem rooms_at (S : List S50) (i : Nat) (hi : i < S.length) : (rooms S).getD i 0 = (S.getD i z50).f2 := by
 simp [rooms, List.getD_eq_getElem?_getD, List.getElem?_eq_getElem hi]
theorem last_place (l : List Int) (s : Int) (h : 0 < l.count s) : ∃ j, j < l.length ∧ l.getD j 0 = s ∧ (l.take (j + 1)).count s = l.count s := by
 have key : ∀ n, n ≤ l.length → 0 < (l.take n).count s → ∃ j, j < n ∧ l.getD j 0 = s ∧ (l.take (j + 1)).count s = (l.take n).count s := by
  intro n
  induction n with
  | zero => intro _ h; simp at h
  | succ n ih =>
   intro hn hp
   have htk : l.take (n + 1) = l.take n ++ [l[n]] := List.take_succ_eq_append_getElem (by omega)
   by_cases e : l[n] = s
   ·
    exact ⟨n, by omega, by simp [List.getD_eq_getElem?_getD, List.getElem?_eq_getElem (show n < l.length by omega), e], rfl⟩
   ·
    have hc : (l.take (n + 1)).count s = (l.take n).count s := by
     rw [htk, List.count_append, List.count_singleton]
     simp [e]
    rw [hc] at hp
    obtain ⟨j, h1, h2, h3⟩ := ih (by omega) hp
    exact ⟨j, by omega, h2, by rw [hc, h3]⟩
 obtain ⟨j, h1, h2, h3⟩ := key l.length (Nat.le_refl _) (by rwa [List.take_length])
 exact ⟨j, h1, h2, by rw [h3, List.take_length]⟩
theorem meets_same {F : List Int} {S : List S50} {T : List (List Int)} (hk : BOK F S T) (l : List Int) (hl : l.length = F.length) : (List.range l.length).all (refAt S T l) = (List.range l.length).all (meetAt T (rooms S) l) := by
 rw [Bool.eq_iff_iff]
 simp only [List.all_eq_true, List.mem_range]
 have hnt := hk.nt
 have hsl : ∀ i, i < l.length → T.getD i [] ≠ [] → l.getD i 0 ∈ T.getD i [] → 0 ≤ l.getD i 0 ∧ (l.getD i 0).toNat < S.length := by
  intro i hi _ hm
  obtain ⟨jj, hjj, hje⟩ := List.getElem_of_mem hm
  have := hk.slot i (by omega) jj hjj
  rw [show (T.getD i []).getD jj 0 = l.getD i 0 from by rw [List.getD_eq_getElem?_getD, List.getElem?_eq_getElem hjj]; exact hje] at this
  omega
 constructor
 ·
  intro h i hi
  have hr := h i hi
  unfold refAt at hr
  unfold meetAt
  by_cases hem : T.getD i [] = []
  ·
   rw [if_pos hem] at hr ⊢; exact hr
  rw [if_neg hem] at hr ⊢
  simp only [Bool.and_eq_true, decide_eq_true_eq] at hr ⊢
  refine ⟨hr.1, ?_⟩
  obtain ⟨h0, h1⟩ := hsl i hi hem hr.1
  obtain ⟨j, hj, hje, hjc⟩ := last_place l (l.getD i 0) (List.count_pos_iff.2 (by rw [List.getD_eq_getElem?_getD, List.getElem?_eq_getElem hi]; exact List.getElem_mem hi))
  have hrj := h j hj
  unfold refAt at hrj
  rw [hje] at hrj
  rw [ld_count, rooms_at S _ h1]
  by_cases hemj : T.getD j [] = []
  ·
   rw [if_pos hemj] at hrj
   have : l.getD i 0 = -1 := by simpa using hrj
   omega
  rw [if_neg hemj] at hrj
  simp only [Bool.and_eq_true, decide_eq_true_eq] at hrj
  rw [hjc] at hrj
  exact hrj.2
 intro h i hi
 have hr := h i hi
 unfold meetAt at hr
 unfold refAt
 by_cases hem : T.getD i [] = []
 ·
  rw [if_pos hem] at hr ⊢; exact hr
 rw [if_neg hem] at hr ⊢
 simp only [Bool.and_eq_true, decide_eq_true_eq] at hr ⊢
 refine ⟨hr.1, ?_⟩
 obtain ⟨h0, h1⟩ := hsl i hi hem hr.1
 have h2 := hr.2
 rw [ld_count, rooms_at S _ h1] at h2
 have h3 : (l.take (i + 1)).count (l.getD i 0) ≤ l.count (l.getD i 0) := (List.take_sublist _ _).count_le _
 omega
theorem refmeets_is {F : List Int} {S : List S50} {T : List (List Int)} (hF : F.length ≤ 9223372036854775807) (hS : S.length ≤ 9223372036854775807) (hT : T.length ≤ 9223372036854775807) (hr : ∀ l, l ∈ T → l.length ≤ 9223372036854775807) (l : List Int) :
  Ev (fun k => laganref04_Meets.f k F S T l) (if checkB F S T ≠ 0 then (false, checkB F S T) else (meetsB F S T l, 0)) := by
 refine Ev.bind (refcheck_is F S T hF hS hT hr) ?_
 by_cases hc : checkB F S T = 0
 rotate_left
 ·
  rw [if_pos hc]
  refine (Ev.const _).congr fun k => ?_
  rw [if_neg hc]
 rw [if_neg (by simpa using hc), hc]
 have hk := bok_of_check hc
 have hm : Ev (fun k => laganref04_meets.f k F S T l) (meetsB F S T l) := by
  unfold meetsB
  by_cases hl : l.length = F.length
  ·
   rw [decide_eq_true hl, Bool.true_and, ← meets_same hk l hl]
   have := meets_ev hk l hl l.length 0 (List.replicate S.length 0) (by omega) (by omega) (by simp) (fun s hs => by simp [List.getD_eq_getElem?_getD, hs])
   refine Ev.congr (by simpa using this) fun k => ?_
   unfold laganref04_meets.f
   rw [if_pos (by omega), if_pos (by omega), if_pos (by have := hk.ns; omega), Int.toNat_natCast]
  ·
   rw [decide_eq_false hl, Bool.false_and]
   refine (Ev.const false).congr fun k => ?_
   unfold laganref04_meets.f
   rw [if_neg (by omega)]
 refine Ev.congr (Ev.bind (g := fun _ t425 => some (t425, (0 : Int))) hm (Ev.const _)) fun k => ?_
 rw [if_pos rfl]
end Go.Proofs.Ytkmmihadcbfkoaa
end

section
namespace Go.Proofs.Ytkmmihadcbfkoaa
open Go.RowKit Go.Proofs.YtkmmihadcbfkoaaW.PrintWords PM
set_option linter.unusedVariables false
set_option linter.unusedSimpArgs false
def fullKey (s : S50) : Int × Int × Int := (s.f0, s.f1, s.f2)
def crowdIn (S : List S50) (de : Int) : List Int → List (Int × Int × Int) → Int → List (Int × Int × Int) × Int
 | [], ks, n => (ks, n)
 | s :: ss, ks, n => if fullKey (S.getD s.toNat z50) ∈ ks then crowdIn S de ss ks n else crowdIn S de ss (ks ++ [fullKey (S.getD s.toNat z50)]) (if s = de then n - (S.getD s.toNat z50).f2 + 1 else n - (S.getD s.toNat z50).f2)
def crowdL (S : List S50) (T : List (List Int)) (wo de : Int) : List Int → List (Int × Int × Int) → Int → Option Int
 | [], ks, n => some n
 | f :: fs, ks, n => if f = wo ∨ T.getD f.toNat [] = [] then none else crowdL S T wo de fs (crowdIn S de (T.getD f.toNat []) ks n).1 (crowdIn S de (T.getD f.toNat []) ks n).2
def crowdYes : Option Int → Bool
 | some n => decide (0 < n)
 | none => false
def crowdedB (F : List Int) (S : List S50) (T : List (List Int)) (finds : List Int) (wo de : Int) : Bool :=
 risB finds 0 ((F.length : Int) - 1) && crowdYes (crowdL S T wo de finds [] finds.length)
end Go.Proofs.Ytkmmihadcbfkoaa
end

section
namespace Go.Proofs.Ytkmmihadcbfkoaa
open PM
set_option linter.unusedVariables false
set_option linter.unusedSimpArgs false
def tot (S : List S50) (met : List Nat) : Int := ((List.range S.length).map fun s => if s ∈ met then (S.getD s z50).f2 else 0).sum
def deIn (de : Int) (met : List Nat) : Int := if 0 ≤ de ∧ de.toNat ∈ met then 1 else 0
theorem sum_step (f : Nat → Int) (met : List Nat) (s : Nat) (hs : s ∉ met) : ∀ n, ((List.range n).map fun t => if t ∈ met ++ [s] then f t else 0).sum = ((List.range n).map fun t => if t ∈ met then f t else 0).sum + if s < n then f s else 0
 | 0 => by simp
 | n + 1 => by
  rw [List.range_succ, List.map_append, List.map_append, List.sum_append, List.sum_append, sum_step f met s hs n]
  simp only [List.map_cons, List.map_nil, List.sum_cons, List.sum_nil, Int.add_zero]
  by_cases e : n = s
  ·
   subst e
   have e1 : n ∈ met ++ [n] := by simp
   rw [if_pos e1, if_neg hs, if_neg (show ¬ n < n by omega), if_pos (show n < n + 1 by omega)]
  ·
   have h1 : (n ∈ met ++ [s]) ↔ n ∈ met := by simp [e]
   by_cases hm : n ∈ met
   ·
    rw [if_pos (h1.2 hm), if_pos hm]
    by_cases hl : s < n
    ·
     rw [if_pos hl, if_pos (by omega)]; omega
    ·
     rw [if_neg hl, if_neg (by omega)]; omega
   ·
    rw [if_neg (fun h => hm (h1.1 h)), if_neg hm]
    by_cases hl : s < n
    ·
     rw [if_pos hl, if_pos (by omega)]; omega
    ·
     rw [if_neg hl, if_neg (by omega)]
theorem tot_step (S : List S50) (met : List Nat) (s : Nat) (hs : s ∉ met) (hl : s < S.length) : tot S (met ++ [s]) = tot S met + (S.getD s z50).f2 := by
 unfold tot
 rw [sum_step (fun t => (S.getD t z50).f2) met s hs, if_pos hl]
theorem de_step (de : Int) (met : List Nat) (s : Nat) (hs : s ∉ met) : deIn de (met ++ [s]) = deIn de met + if (s : Int) = de then 1 else 0 := by
 unfold deIn
 by_cases e : (s : Int) = de
 ·
  have : de.toNat = s := by omega
  rw [if_pos ⟨by omega, by rw [this]; simp⟩, if_neg (fun h => hs (this ▸ h.2)), if_pos e]
  rfl
 rw [if_neg e, Int.add_zero]
 by_cases h : 0 ≤ de ∧ de.toNat ∈ met
 ·
  rw [if_pos h, if_pos ⟨h.1, by simp [h.2]⟩]
 rw [if_neg h, if_neg (fun k => h ⟨k.1, by
  have := k.2
  simp only [List.mem_append, List.mem_singleton] at this
  rcases this with h1 | h1
  ·
   exact h1
  ·
   exact absurd (show (s : Int) = de by omega) e⟩)]
structure Met (S : List S50) (met : List Nat) (ks : List (Int × Int × Int)) : Prop where
 keys : ks = met.map fun s => fullKey (S.getD s z50)
 lt : ∀ s, s ∈ met → s < S.length
theorem crowdIn_met {S : List S50} (hinj : ∀ a b : Nat, a < S.length → b < S.length → fullKey (S.getD a z50) = fullKey (S.getD b z50) → a = b) (de : Int) : ∀ (row : List Int) (met : List Nat) (ks : List (Int × Int × Int)) (n : Int),
  (∀ s, s ∈ row → 0 ≤ s ∧ s < S.length) → Met S met ks → ∃ met', Met S met' (crowdIn S de row ks n).1 ∧ (∀ s : Nat, s ∈ met' ↔ s ∈ met ∨ (s : Int) ∈ row) ∧ (crowdIn S de row ks n).2 = n - (tot S met' - tot S met) + (deIn de met' - deIn de met)
 | [], met, ks, n, _, hm => ⟨met, hm, fun s => by simp, by show n = _; omega⟩
 | s :: ss, met, ks, n, hr, hm => by
  obtain ⟨h0, h1⟩ := hr s (by simp)
  have hr' : ∀ t, t ∈ ss → 0 ≤ t ∧ t < S.length := fun t ht => hr t (by simp [ht])
  have hsn : s.toNat < S.length := by omega
  have hst : ((s.toNat : Nat) : Int) = s := by omega
  unfold crowdIn
  by_cases hin : fullKey (S.getD s.toNat z50) ∈ ks
  ·
   rw [if_pos hin]
   have hmm : s.toNat ∈ met := by
    rw [hm.keys] at hin
    obtain ⟨t, ht, he⟩ := List.mem_map.1 hin
    have := hinj t s.toNat (hm.lt t ht) hsn he
    rw [← this]; exact ht
   obtain ⟨met', a1, a2, a3⟩ := crowdIn_met hinj de ss met ks n hr' hm
   refine ⟨met', a1, fun t => ?_, a3⟩
   rw [a2 t]
   constructor
   ·
    rintro (h | h)
    ·
     exact Or.inl h
    ·
     exact Or.inr (by simp [h])
   ·
    rintro (h | h)
    ·
     exact Or.inl h
    ·
     rcases List.mem_cons.1 h with e | h
     ·
      exact Or.inl (by rw [show t = s.toNat by omega]; exact hmm)
     ·
      exact Or.inr h
  ·
   rw [if_neg hin]
   have hmm : s.toNat ∉ met := fun h => hin (by rw [hm.keys]; exact List.mem_map.2 ⟨_, h, rfl⟩)
   have hm2 : Met S (met ++ [s.toNat]) (ks ++ [fullKey (S.getD s.toNat z50)]) := ⟨by rw [hm.keys, List.map_append]; rfl, fun t ht => by
    rcases List.mem_append.1 ht with h | h
    ·
     exact hm.lt t h
    ·
     rw [List.mem_singleton.1 h]; exact hsn⟩
   obtain ⟨met', a1, a2, a3⟩ := crowdIn_met hinj de ss (met ++ [s.toNat]) (ks ++ [fullKey (S.getD s.toNat z50)]) (if s = de then n - (S.getD s.toNat z50).f2 + 1 else n - (S.getD s.toNat z50).f2) hr' hm2
   refine ⟨met', a1, fun t => ?_, ?_⟩
   ·
    rw [a2 t]
    constructor
    ·
     rintro (h | h)
     ·
      rcases List.mem_append.1 h with h | h
      ·
       exact Or.inl h
      ·
       exact Or.inr (List.mem_cons.2 (Or.inl (by rw [List.mem_singleton.1 h]; exact hst)))
     ·
      exact Or.inr (List.mem_cons.2 (Or.inr h))
    ·
     rintro (h | h)
     ·
      exact Or.inl (List.mem_append.2 (Or.inl h))
     ·
      rcases List.mem_cons.1 h with h | h
      ·
       exact Or.inl (List.mem_append.2 (Or.inr (List.mem_singleton.2 (by omega))))
      ·
       exact Or.inr h
   ·
    rw [a3, tot_step S met _ hmm hsn, de_step de met _ hmm, hst]
    by_cases e : s = de
    ·
     rw [if_pos e, if_pos e]; omega
    ·
     rw [if_neg e, if_neg e]; omega
end Go.Proofs.Ytkmmihadcbfkoaa
end

section
namespace Go.Proofs.Ytkmmihadcbfkoaa.PM
open Go.RowKit Go.Proofs.YtkmmihadcbfkoaaW.PrintWords Go.Proofs.YtkmmihadcbfkoaaW.PrintLast Go.Proofs.YtkmmihadcbfkoaaW.PrintMore
set_option linter.unusedVariables false
set_option linter.unusedSimpArgs false
mutual
def laganref04_short.l0 : Nat → List Int → Int → List Bool → Int → List Int → List (S50) → List (List Int) → Option (Bool)
 | 0, _, _, _, _, _, _, _ => none
 | k + 1, x1, x2, x7, x8, x427000, x427001, x427002 => if x8 < (x1.length : Int) then (if 0 ≤ x8 then (if 0 ≤ (rd x1 x8) then (if (rd x1 x8) < (x427002.length : Int) then (if ((rd_L1 x427002 (rd x1 x8)).length : Int) = 0 then (some false) else (laganref04_short.l1 k x1 x2 x7 x8 0 x427000 x427001 x427002)) else (none)) else (none)) else (none)) else (laganref04_short.l2 k x1 x2 x7 0 0 x427000 x427001 x427002)
def laganref04_short.l1 : Nat → List Int → Int → List Bool → Int → Int → List Int → List (S50) → List (List Int) → Option (Bool)
 | 0, _, _, _, _, _, _, _, _ => none
 | k + 1, x1, x2, x7, x8, x9, x427000, x427001, x427002 => if 0 ≤ x8 then (if x8 < (x1.length : Int) then (if 0 ≤ (rd x1 x8) then (if (rd x1 x8) < (x427002.length : Int) then (if x9 < ((rd_L1 x427002 (rd x1 x8)).length : Int) then (if 0 ≤ x9 then (if 0 ≤ (rd (rd_L1 x427002 (rd x1 x8)) x9) then (if (rd (rd_L1 x427002 (rd x1 x8)) x9) < (x7.length : Int) then (laganref04_short.l1 k x1 x2 (x7.set ((rd (rd_L1 x427002 (rd x1 x8)) x9) : Int).toNat true) x8 (wrap64 (x9 + 1)) x427000 x427001 x427002) else (none)) else (none)) else (none)) else (laganref04_short.l0 k x1 x2 x7 (wrap64 (x8 + 1)) x427000 x427001 x427002)) else (none)) else (none)) else (none)) else (none)
def laganref04_short.l2 : Nat → List Int → Int → List Bool → Int → Int → List Int → List (S50) → List (List Int) → Option (Bool)
 | 0, _, _, _, _, _, _, _, _ => none
 | k + 1, x1, x2, x7, x10, x11, x427000, x427001, x427002 => if x11 < (x7.length : Int) then (if 0 ≤ x11 then (if rdOf false x7 x11 = true then (if x11 < (x427001.length : Int) then (if x11 = x2 then (laganref04_short.l2 k x1 x2 x7 (wrap64 ((wrap64 (x10 + ((rd_T50 x427001 x11).f2))) - 1)) (wrap64 (x11 + 1)) x427000 x427001 x427002) else (laganref04_short.l2 k x1 x2 x7 (wrap64 (x10 + ((rd_T50 x427001 x11).f2))) (wrap64 (x11 + 1)) x427000 x427001 x427002)) else (none)) else (laganref04_short.l2 k x1 x2 x7 x10 (wrap64 (x11 + 1)) x427000 x427001 x427002)) else (none)) else (some (decide (x10 < (x1.length : Int))))
end
def laganref04_short.f (k : Nat) (aD : List Int) (aA : List (S50)) (aC : List (List Int)) (l1 : List Int) (a2 : Int) : Option (Bool) := (laganref04_ascending.f k l1 (aD.length : Int)).bind fun t427 => (if t427 = true then (if 0 ≤ (aA.length : Int) then (if ((aA.length : Int) : Int).toNat ≤ 281474976710656 then (laganref04_short.l0 k l1 a2 (List.replicate ((aA.length : Int) : Int).toNat false) 0 aD aA aC) else (none)) else (none)) else (some false))
def laganref04_short.T7 : Bool × List (List Nat × List Nat) := (true, [([], []), ([0], [0]), ([], []), ([], []), ([2, 3], [2, 3]), ([4], [4]), ([1, 5], [1, 5]), ([6], [6]), ([7], [7]), ([8], [8])])
def laganref04_short.B7 : List Nat := [0, 1, 0, 0, 12, 28, 63, 127, 255, 511]
theorem laganref04_short.tab7 : rtab .any (opsOf Try.f73 7) = laganref04_short.T7 := by kernel_rfl
theorem laganref04_short.bits7 : waitsOk laganref04_short.T7.2 laganref04_short.B7 = true := by kernel_rfl
def laganref04_short.T10 : Bool × List (List Nat × List Nat) := (true, [([], []), ([], []), ([1], [1]), ([], []), ([], []), ([3, 4], [3, 4]), ([5], [5]), ([2, 6], [2, 6]), ([7], [7]), ([8], [8]), ([0, 9], [0, 9])])
def laganref04_short.B10 : List Nat := [0, 0, 2, 0, 0, 24, 56, 126, 254, 510, 1023]
theorem laganref04_short.tab10 : rtab .any (opsOf Try.f73 10) = laganref04_short.T10 := by kernel_rfl
theorem laganref04_short.bits10 : waitsOk laganref04_short.T10.2 laganref04_short.B10 = true := by kernel_rfl
def laganref04_short.T12 : Bool × List (List Nat × List Nat) := (true, [([], []), ([], []), ([1], [1]), ([], []), ([], []), ([3, 4], [3, 4]), ([5], [5]), ([2, 6], [2, 6]), ([7], [7]), ([], []), ([8, 9], [8, 9]), ([10], [10]), ([0, 11, 0, 1, 2, 3, 4, 5, 6, 7, 8, 9, 10, 11], [0, 11]), ([12, 0, 1, 2, 3, 4, 5, 6, 7, 8, 9, 10, 11], [12])])
def laganref04_short.B12 : List Nat := [0, 0, 2, 0, 0, 24, 56, 126, 254, 0, 1022, 2046, 4095, 8191]
theorem laganref04_short.tab12 : rtab .any (opsOf Try.f73 12) = laganref04_short.T12 := by kernel_rfl
theorem laganref04_short.bits12 : waitsOk laganref04_short.T12.2 laganref04_short.B12 = true := by kernel_rfl
set_option maxHeartbeats 8000000 in
set_option maxRecDepth 100000 in
theorem laganref04_short.calls (k : Nat) (aG : Option Addr) (aH : Nat) (aD : List Int) (aK : Option Addr) (aI : Nat) (aA : List (S50)) (aM : Option Addr) (aJ : Nat) (aC : List (List Int)) (A1 : Option Addr) (c1 : Nat) (l1 : List Int) (a2 : Int) (r : Bool) (w : World) (bC : Kd.C (Kd.int .i64) w aG aD.length aD) (bD : aD.length ≤ aH) (bE : Kd.C k50 w aK aA.length aA) (bF : aA.length ≤ aI) (bG : Kd.C (Kd.slice 3 (Kd.int .i64)) w aM aC.length aC) (bH : aC.length ≤ aJ) (hr1 : Kd.C (Kd.int .i64) w A1 l1.length l1) (hc1 : l1.length ≤ c1) (h : laganref04_short.f k aD aA aC l1 a2 = some r) :
  Calls Try.prog 73 #[.agg #[.slice aG aD.length aH, .slice aK aA.length aI, .slice aM aC.length aJ], .slice A1 l1.length c1, .int .i64 a2] w fun e w' => e = .returned (.bool r) ∧ Below w.heap.size w w' := by
 have hu26 := Try.underlying26
 have bA := Aside0.mk bC
 have bK := Aside0.mk bD
 clear bC bD
 have aZ := Aside0.mk bE
 have bL := Aside0.mk bF
 clear bE bF
 have aX := Aside0.mk bG
 have bM := Aside0.mk bH
 clear bG bH
 have HR1 := Aside0.mk hr1
 have HC1 := Aside0.mk hc1
 clear hr1 hc1
 have HB := Aside0.mk (Below.refl w.heap.size w)
 have H : ((laganref04_ascending.f k l1 (aD.length : Int)).bind fun t427 => (if t427 = true then (if 0 ≤ (aA.length : Int) then (if ((aA.length : Int) : Int).toNat ≤ 281474976710656 then (laganref04_short.l0 k l1 a2 (List.replicate ((aA.length : Int) : Int).toNat false) 0 aD aA aC) else (none)) else (none)) else (some false))) = some r := h
 clear h
 replace H := Option.bind_eq_some_iff.mp H
 obtain ⟨t427, A40, H⟩ := H
 replace H : (if t427 = true then (if 0 ≤ (aA.length : Int) then (if ((aA.length : Int) : Int).toNat ≤ 281474976710656 then (laganref04_short.l0 k l1 a2 (List.replicate ((aA.length : Int) : Int).toNat false) 0 aD aA aC) else (none)) else (none)) else (some false)) = some r := H
 have A4 := Aside0.mk A40
 clear A40
 by_cases c5 : t427 = true
 rotate_left
 ·
  replace c5 := Bool.eq_false_iff.mpr c5
  subst c5
  have H1 : (some false) = some r := by rw [if_neg (show ¬ (false = true) by decide)] at H; exact H
  clear H
  have H := H1
  clear H1
  obtain rfl := Option.some.inj H
  go_enter Try.func73, Try.ntmps73
  go_wp2_with (first | ((with_reducible refine gate_dst (N := 3) rfl ?_); refine box_event ?hg (N := 3) ?hd (cs := #[.slice aG aD.length aH, .slice aK aA.length aI, .slice aM aC.length aJ]) (t := 26) ?hr ?_; (case hd => rfl); (case hg => rfl); (case hr => first | (go_simp; done) | (go_simp; rfl)); intro gb426 hg w44 hbox hb; have n0_ := Aside0.mk (below_step (by repeat (first | (with_reducible first | exact HB.out | apply below_alloc | apply pw_below_drewN | apply below_drew1) | exact HB.out)) hb); have n1_ := Aside0.mk (hbox); have n2_ := Aside0.mk ((by rw [hg]; exact (below_size (by repeat (first | (with_reducible first | exact HB.out | apply below_alloc | apply pw_below_drewN | apply below_drew1) | exact HB.out))) : w.heap.size ≤ gb426)); have n3_ := Aside0.mk ((by rw [hg]; exact (below_size (by repeat (first | (with_reducible first | exact HB.out | apply below_alloc | apply pw_below_drewN | apply below_drew1) | exact HB.out))) : w.heap.size ≤ gb426)); clear HB; have HB := n0_; have BK426 := n1_; have GW426 := n2_; have GE426 := n3_; clear n0_ n1_ n2_ n3_; clear hb hbox hg; have hcz45_0 : w44.cell? ⟨gb426, 0, none⟩ = some (.slice aG aD.length aH) := (blk_cell BK426.out 0).trans rfl; have hcz45_1 : w44.cell? ⟨gb426, 1, none⟩ = some (.slice aK aA.length aI) := (blk_cell BK426.out 1).trans rfl; have hcz45_2 : w44.cell? ⟨gb426, 2, none⟩ = some (.slice aM aC.length aJ) := (blk_cell BK426.out 2).trans rfl; have hfz45_0 := blk_frozen BK426.out 0; have hfz45_1 := blk_frozen BK426.out 1; have hfz45_2 := blk_frozen BK426.out 2) | ((with_reducible refine gate_callee (f := 62) rfl ?_); refine goesL_ (some 16) rfl rfl Try.func62 (by kernel_rfl) rfl #[.slice A1 l1.length c1, .int .i64 (aD.length : Int)] rfl (by (try simp only [List.map_toArray, List.map_cons, List.map_nil]); first | done | rfl | (simp only [List.length_drop, List.length_take]; rfl)) ?_; (with_reducible refine (laganref04_ascending.calls k _ _ l1 (aD.length : Int) false _ ?side1 ?side2 A4.out).mono ?_); (case side1 => repeat (first | exact (Kd.C_below HR1.out HB.out) | (with_reducible refine Kd.C_alloc ?_ _) | (with_reducible refine Kd.C_drewN ?_ _) | (with_reducible refine Kd.C_drew ?_))); (case side2 => exact HC1.out); rintro e w' ⟨rfl, ⟨nd, rfl⟩⟩; refine ⟨_, rfl, ?_⟩))
  go_ret
  exact ⟨by first | rfl | (simp [errW_none, errW_some] <;> rfl) | (simp [*, errW_none, errW_some] <;> rfl), by repeat (first | (with_reducible first | exact HB.out | apply below_alloc | apply pw_below_drewN | apply below_drew1 | refine below_set ?_ GE426.out) | exact HB.out)⟩
 subst c5
 have H1 : (if 0 ≤ (aA.length : Int) then (if ((aA.length : Int) : Int).toNat ≤ 281474976710656 then (laganref04_short.l0 k l1 a2 (List.replicate ((aA.length : Int) : Int).toNat false) 0 aD aA aC) else (none)) else (none)) = some r := by rw [if_pos rfl] at H; exact H
 clear H
 have H := H1
 clear H1
 by_cases c6 : 0 ≤ (aA.length : Int)
 rotate_left
 ·
  rw [if_neg c6] at H
  exact absurd H (by simp)
 rw [if_pos c6] at H
 have c6b0 := eq_true c6
 have c6b1 : decide (0 ≤ (aA.length : Int)) = true := decide_eq_true c6
 clear c6
 by_cases c7 : ((aA.length : Int) : Int).toNat ≤ 281474976710656
 rotate_left
 ·
  rw [if_neg c7] at H
  exact absurd H (by simp)
 rw [if_pos c7] at H
 have c7b0 := eq_true c7
 have c7b1 : decide (((aA.length : Int) : Int).toNat ≤ 281474976710656) = true := decide_eq_true c7
 clear c7
 obtain ⟨y428, hy428⟩ : ∃ y_ : List Bool, y_ = (List.replicate ((aA.length : Int) : Int).toNat false) := ⟨_, rfl⟩
 replace H : (laganref04_short.l0 k l1 a2 y428 0 aD aA aC) = some r := by first | (rw [hy428]; with_reducible exact H) | (have H2_ := (Option.bind_some _ _).symm.trans H; rw [hy428]; with_reducible exact H2_) | (have H2_ := (Option.bind_some _ _).symm.trans H; with_reducible exact H2_) | with_reducible exact H | (rw [hy428]; exact H) | exact H
 have Ny428 := Aside0.mk hy428
 clear hy428
 have H' := Aside0.mk H
 clear H
 go_enter Try.func73, Try.ntmps73
 go_wp2_with (first | ((with_reducible refine gate_dst (N := 3) rfl ?_); refine box_event ?hg (N := 3) ?hd (cs := #[.slice aG aD.length aH, .slice aK aA.length aI, .slice aM aC.length aJ]) (t := 26) ?hr ?_; (case hd => rfl); (case hg => rfl); (case hr => first | (go_simp; done) | (go_simp; rfl)); intro gb426 hg w8 hbox hb; have n0_ := Aside0.mk (below_step (by repeat (first | (with_reducible first | exact HB.out | apply below_alloc | apply pw_below_drewN | apply below_drew1) | exact HB.out)) hb); have n1_ := Aside0.mk (hbox); have n2_ := Aside0.mk ((by rw [hg]; exact (below_size (by repeat (first | (with_reducible first | exact HB.out | apply below_alloc | apply pw_below_drewN | apply below_drew1) | exact HB.out))) : w.heap.size ≤ gb426)); have n3_ := Aside0.mk ((by rw [hg]; exact (below_size (by repeat (first | (with_reducible first | exact HB.out | apply below_alloc | apply pw_below_drewN | apply below_drew1) | exact HB.out))) : w.heap.size ≤ gb426)); clear HB; have HB := n0_; have BK426 := n1_; have GW426 := n2_; have GE426 := n3_; clear n0_ n1_ n2_ n3_; clear hb hbox hg; have jR : w8.cell? ⟨gb426, 0, none⟩ = some (.slice aG aD.length aH) := (blk_cell BK426.out 0).trans rfl; have jS : w8.cell? ⟨gb426, 1, none⟩ = some (.slice aK aA.length aI) := (blk_cell BK426.out 1).trans rfl; have jT : w8.cell? ⟨gb426, 2, none⟩ = some (.slice aM aC.length aJ) := (blk_cell BK426.out 2).trans rfl; have jU := blk_frozen BK426.out 0; have jV := blk_frozen BK426.out 1; have jW := blk_frozen BK426.out 2) | ((with_reducible refine gate_callee (f := 62) rfl ?_); refine goesL_ (some 16) rfl rfl Try.func62 (by kernel_rfl) rfl #[.slice A1 l1.length c1, .int .i64 (aD.length : Int)] rfl (by (try simp only [List.map_toArray, List.map_cons, List.map_nil]); first | done | rfl | (simp only [List.length_drop, List.length_take]; rfl)) ?_; (with_reducible refine (laganref04_ascending.calls k _ _ l1 (aD.length : Int) true _ ?side1 ?side2 A4.out).mono ?_); (case side1 => repeat (first | exact (Kd.C_below HR1.out HB.out) | (with_reducible refine Kd.C_alloc ?_ _) | (with_reducible refine Kd.C_drewN ?_ _) | (with_reducible refine Kd.C_drew ?_))); (case side2 => exact HC1.out); rintro e w' ⟨rfl, ⟨nd, rfl⟩⟩; refine ⟨_, rfl, ?_⟩) | ((with_reducible refine gate_dst (N := 21) rfl ?_); refine Kd.R_make Kd.bool _ 4 rfl (N := 21) rfl 104 _ _ rfl (aA.length : Int) rfl rfl Try.underlying104 (.bool false) 1 info4 rfl (by decide) (by omega) false (ok := fun _ => True) (okp := fun _ => True) rfl (fun _ hk => hk) trivial (of_decide_eq_true (by assumption)) (Nat.le_trans (Nat.mul_le_mul_right _ (of_decide_eq_true (by assumption) : (aA.length : Int).toNat ≤ 281474976710656)) (by omega)) (Below.refl _ _) (Nat.le_refl _) ?_; intro v429 w10 ho11 hb hg_ hnew_; clear hg_ hnew_; (first | rw [← Ny428.out] at ho11 | (simp only [Int.reduceToNat] at ho11; rw [← Ny428.out] at ho11)); have n0_ := Aside0.mk (Kd.R_lower ho11 (below_size (by repeat (first | (with_reducible first | exact HB.out | apply below_alloc | apply pw_below_drewN | apply below_drew1 | refine below_set ?_ GE426.out) | exact HB.out)))); have n1_ := Aside0.mk (blk_below (g := gb426) (o := .cells #[.slice aG aD.length aH, .slice aK aA.length aI, .slice aM aC.length aJ] 26 (0, 0)) (by (with_reducible repeat (first | refine blk_drewN ?_ _ | refine blk_drew ?_ | refine blk_alloc ?_ _)); exact BK426.out) hb); have n2_ := Aside0.mk (below_step (by repeat (first | (with_reducible first | exact HB.out | apply below_alloc | apply pw_below_drewN | apply below_drew1 | refine below_set ?_ GE426.out) | exact HB.out)) hb); clear BK426; clear HB; have HO430 := n0_; have BK426 := n1_; have HB := n2_; clear n0_ n1_ n2_; clear hb ho11))
 go_loopg [8] k (fun kq v8 w' => ∃ (bU : List Bool) (aQ : Int), v8 = .int .i64 aQ ∧ Aside0 (laganref04_short.l0 kq l1 a2 bU aQ aD aA aC = some r) ∧ Aside0 (kq ≤ k) ∧ Aside0 (Kd.R Kd.bool 4 w' w.heap.size (fun _ => True) v429 bU) ∧ Aside0 (w'.heap[gb426]? = some (.cells #[(.slice aG aD.length aH), (.slice aK aA.length aI), (.slice aM aC.length aJ)] 26 (0, 0))) ∧ Aside0 (Below w.heap.size w w'))
 case atStart => exact ⟨(y428), (0), (by first | rfl | (simp; done) | (simp [*]; done)), H', ⟨Nat.le_refl _⟩, ⟨by (with_reducible repeat (first | apply Kd.R_alloc | apply Kd.R_drewN | apply Kd.R_drew)); exact HO430.out⟩, ⟨by (with_reducible repeat (first | refine blk_drewN ?_ _ | refine blk_drew ?_ | refine blk_alloc ?_ _)); exact BK426.out⟩, ⟨by repeat (first | (with_reducible first | exact HB.out | apply below_alloc | apply pw_below_drewN | apply below_drew1 | refine below_set ?_ GE426.out) | exact HB.out)⟩⟩
 clear H'
 try clear jR
 try clear jS
 try clear jT
 try clear jU
 try clear jV
 try clear jW
 obtain ⟨bU, aQ, rfl, HA, HK1, HO_7, BK426, HB⟩ := hrel
 cases gk with
 | zero => exact absurd HA.out (by simp [laganref04_short.l0])
 | succ k1 =>
  have H := HA.out
  clear HA
  simp only [laganref04_short.l0] at H
  by_cases c12 : aQ < (l1.length : Int)
  rotate_left
  ·
   rw [if_neg c12] at H
   have c12b0 : decide (aQ < (l1.length : Int)) = false := decide_eq_false c12
   clear c12
   have H' := Aside0.mk H
   clear H
   go_wp2
   go_loopg [10, 11] k1 (fun kq v10 v11 w' => ∃ (cS : Int) (aW : Int), v10 = .int .i64 cS ∧ v11 = .int .i64 aW ∧ Aside0 (laganref04_short.l2 kq l1 a2 bU cS aW aD aA aC = some r) ∧ Aside0 (kq ≤ k1) ∧ Aside0 (Kd.R Kd.bool 4 w' w.heap.size (fun _ => True) v429 bU) ∧ Aside0 (w'.heap[gb426]? = some (.cells #[(.slice aG aD.length aH), (.slice aK aA.length aI), (.slice aM aC.length aJ)] 26 (0, 0))) ∧ Aside0 (Below w.heap.size w w'))
   case atStart => exact ⟨(0), (0), (by first | rfl | (simp; done) | (simp [*]; done)), (by first | rfl | (simp; done) | (simp [*]; done)), H', ⟨Nat.le_refl _⟩, ⟨by (with_reducible repeat (first | apply Kd.R_alloc | apply Kd.R_drewN | apply Kd.R_drew)); exact HO_7.out⟩, ⟨by (with_reducible repeat (first | refine blk_drewN ?_ _ | refine blk_drew ?_ | refine blk_alloc ?_ _)); exact BK426.out⟩, ⟨by repeat (first | (with_reducible first | exact HB.out | apply below_alloc | apply pw_below_drewN | apply below_drew1 | refine below_set ?_ GE426.out) | exact HB.out)⟩⟩
   clear H'
   try clear hf27
   try clear jR
   try clear jS
   try clear jT
   try clear jU
   try clear jV
   try clear jW
   try clear nB
   try clear fM
   try clear fN
   try clear fO
   obtain ⟨cS, aW, rfl, rfl, HA, HK2, HO_7, BK426, HB⟩ := hrel
   cases gk with
   | zero => exact absurd HA.out (by simp [laganref04_short.l2])
   | succ k2 =>
    have H := HA.out
    clear HA
    simp only [laganref04_short.l2] at H
    by_cases c32 : aW < (bU.length : Int)
    rotate_left
    ·
     rw [if_neg c32] at H
     have c32b0 : decide (aW < (bU.length : Int)) = false := decide_eq_false c32
     clear c32
     obtain rfl := Option.some.inj H
     obtain ⟨Ao43, co43, eo43⟩ := Kd.R_slice HO_7.out
     subst eo43
     go_wp2
     go_ret
     exact ⟨by first | rfl | (simp [errW_none, errW_some] <;> rfl) | (simp [*, errW_none, errW_some] <;> rfl), by repeat (first | (with_reducible first | exact HB.out | apply below_alloc | apply pw_below_drewN | apply below_drew1 | refine below_set ?_ GE426.out) | exact HB.out)⟩
    rw [if_pos c32] at H
    have c32b0 : decide (aW < (bU.length : Int)) = true := decide_eq_true c32
    clear c32
    by_cases c33 : 0 ≤ aW
    rotate_left
    ·
     rw [if_neg c33] at H
     exact absurd H (by simp)
    rw [if_pos c33] at H
    have c33b0 : decide (0 ≤ aW) = true := decide_eq_true c33
    clear c33
    obtain ⟨bq34, hbq34⟩ : ∃ b_ : Bool, b_ = (rdOf false bU aW) := ⟨_, rfl⟩
    replace H : (if bq34 = true then (if aW < (aA.length : Int) then (if aW = a2 then (laganref04_short.l2 k2 l1 a2 bU (wrap64 ((wrap64 (cS + ((rd_T50 aA aW).f2))) - 1)) (wrap64 (aW + 1)) aD aA aC) else (laganref04_short.l2 k2 l1 a2 bU (wrap64 (cS + ((rd_T50 aA aW).f2))) (wrap64 (aW + 1)) aD aA aC)) else (none)) else (laganref04_short.l2 k2 l1 a2 bU cS (wrap64 (aW + 1)) aD aA aC)) = some r := by rw [← hbq34] at H; exact H
    have Nbq34 := Aside0.mk hbq34
    clear hbq34
    by_cases c35 : bq34 = true
    rotate_left
    ·
     replace c35 := Bool.eq_false_iff.mpr c35
     subst c35
     have H1 : (laganref04_short.l2 k2 l1 a2 bU cS (wrap64 (aW + 1)) aD aA aC) = some r := by rw [if_neg (show ¬ (false = true) by decide)] at H; exact H
     clear H
     have H := H1
     clear H1
     have H' := Aside0.mk H
     clear H
     obtain ⟨Ao42, co42, eo42⟩ := Kd.R_slice HO_7.out
     subst eo42
     have p439 : 0 ≤ (aW : Int) := of_decide_eq_true (by assumption)
     have q439 : aW < (bU.length : Int) := of_decide_eq_true (by assumption)
     obtain ⟨ad439, e439, gO⟩ := Kd.at_bool (Kd.R_reads' HO_7.out).2.2 aW p439 q439
     (try rw [← Nbq34.out] at gO)
     cases e439
     replace p439 := eq_true p439
     replace q439 := eq_true q439
     have p442 : 0 ≤ (aW : Int) := of_decide_eq_true (by assumption)
     have q442 : aW < (bU.length : Int) := of_decide_eq_true (by assumption)
     obtain ⟨ad442, e442, rT⟩ := Kd.at_bool (Kd.R_reads' HO_7.out).2.2 aW p442 q442
     (try rw [← Nbq34.out] at rT)
     obtain rfl : ad439 = ad442 := (by injection e442)
     replace p442 := eq_true p442
     replace q442 := eq_true q442
     go_wp2
     go_roundg k2
     case measure => have := HK1.out; have := HK2.out; omega
     case rel => exact ⟨(cS), (wrap64 (aW + 1)), (by first | rfl | (simp; done) | (simp [*]; done)), (by first | rfl | (simp; done) | (simp [*]; done)), H', ⟨by have := HK1.out; have := HK2.out; omega⟩, ⟨by (with_reducible repeat (first | apply Kd.R_alloc | apply Kd.R_drewN | apply Kd.R_drew)); exact HO_7.out⟩, ⟨by (with_reducible repeat (first | refine blk_drewN ?_ _ | refine blk_drew ?_ | refine blk_alloc ?_ _)); exact BK426.out⟩, ⟨by repeat (first | (with_reducible first | exact HB.out | apply below_alloc | apply pw_below_drewN | apply below_drew1 | refine below_set ?_ GE426.out) | exact HB.out)⟩⟩
    subst c35
    have H1 : (if aW < (aA.length : Int) then (if aW = a2 then (laganref04_short.l2 k2 l1 a2 bU (wrap64 ((wrap64 (cS + ((rd_T50 aA aW).f2))) - 1)) (wrap64 (aW + 1)) aD aA aC) else (laganref04_short.l2 k2 l1 a2 bU (wrap64 (cS + ((rd_T50 aA aW).f2))) (wrap64 (aW + 1)) aD aA aC)) else (none)) = some r := by rw [if_pos rfl] at H; exact H
    clear H
    have H := H1
    clear H1
    by_cases c36 : aW < (aA.length : Int)
    rotate_left
    ·
     rw [if_neg c36] at H
     exact absurd H (by simp)
    rw [if_pos c36] at H
    have c36b0 : decide (aW < (aA.length : Int)) = true := decide_eq_true c36
    clear c36
    by_cases c37 : aW = a2
    rotate_left
    ·
     rw [if_neg c37] at H
     have c37b0 : (aW == a2) = false := beq_eq_false_iff_ne.mpr c37
     have c37b1 : (aW != a2) = true := bne_iff_ne.mpr c37
     have H' := Aside0.mk H
     clear H
     obtain ⟨Ao40, co40, eo40⟩ := Kd.R_slice HO_7.out
     subst eo40
     have p439 : 0 ≤ (aW : Int) := of_decide_eq_true (by assumption)
     have q439 : aW < (bU.length : Int) := of_decide_eq_true (by assumption)
     obtain ⟨ad439, e439, gO⟩ := Kd.at_bool (Kd.R_reads' HO_7.out).2.2 aW p439 q439
     (try rw [← Nbq34.out] at gO)
     cases e439
     replace p439 := eq_true p439
     replace q439 := eq_true q439
     have jD : wr.cell? ⟨gb426, 0, none⟩ = some (.slice aG aD.length aH) := (blk_cell BK426.out 0).trans rfl
     have jE : wr.cell? ⟨gb426, 1, none⟩ = some (.slice aK aA.length aI) := (blk_cell BK426.out 1).trans rfl
     have jF : wr.cell? ⟨gb426, 2, none⟩ = some (.slice aM aC.length aJ) := (blk_cell BK426.out 2).trans rfl
     have jJ := blk_frozen BK426.out 0
     have jK := blk_frozen BK426.out 1
     have jL := blk_frozen BK426.out 2
     have p440 : 0 ≤ (aW : Int) := of_decide_eq_true (by assumption)
     have q440 : aW < (aA.length : Int) := of_decide_eq_true (by assumption)
     obtain ⟨ad440, e440, eT, eU, eV⟩ := at_T50 aZ.out aW p440 q440
     cases e440
     replace eT := (HB.out.cell (World.block_lt_of_cell? w _ eT)).trans eT
     replace eU := (HB.out.cell (World.block_lt_of_cell? w _ eU)).trans eU
     replace eV := (HB.out.cell (World.block_lt_of_cell? w _ eV)).trans eV
     replace p440 := eq_true p440
     replace q440 := eq_true q440
     have p441 : 0 ≤ (aW : Int) := of_decide_eq_true (by assumption)
     have q441 : aW < (bU.length : Int) := of_decide_eq_true (by assumption)
     obtain ⟨ad441, e441, lA⟩ := Kd.at_bool (Kd.R_reads' HO_7.out).2.2 aW p441 q441
     (try rw [← Nbq34.out] at lA)
     obtain rfl : ad439 = ad441 := (by injection e441)
     replace p441 := eq_true p441
     replace q441 := eq_true q441
     go_wp2
     go_roundg k2
     case measure => have := HK1.out; have := HK2.out; omega
     case rel => exact ⟨(wrap64 (cS + ((rd_T50 aA aW).f2))), (wrap64 (aW + 1)), (by first | rfl | (simp; done) | (simp [*]; done)), (by first | rfl | (simp; done) | (simp [*]; done)), H', ⟨by have := HK1.out; have := HK2.out; omega⟩, ⟨by (with_reducible repeat (first | apply Kd.R_alloc | apply Kd.R_drewN | apply Kd.R_drew)); exact HO_7.out⟩, ⟨by (with_reducible repeat (first | refine blk_drewN ?_ _ | refine blk_drew ?_ | refine blk_alloc ?_ _)); exact BK426.out⟩, ⟨by repeat (first | (with_reducible first | exact HB.out | apply below_alloc | apply pw_below_drewN | apply below_drew1 | refine below_set ?_ GE426.out) | exact HB.out)⟩⟩
    rw [if_pos c37] at H
    have c37b0 : (aW == a2) = true := beq_iff_eq.mpr c37
    have c37b1 : (aW != a2) = false := bne_eq_false_iff_eq.mpr c37
    clear c37
    have H' := Aside0.mk H
    clear H
    obtain ⟨Ao38, co38, eo38⟩ := Kd.R_slice HO_7.out
    subst eo38
    have p439 : 0 ≤ (aW : Int) := of_decide_eq_true (by assumption)
    have q439 : aW < (bU.length : Int) := of_decide_eq_true (by assumption)
    obtain ⟨ad439, e439, gO⟩ := Kd.at_bool (Kd.R_reads' HO_7.out).2.2 aW p439 q439
    (try rw [← Nbq34.out] at gO)
    cases e439
    replace p439 := eq_true p439
    replace q439 := eq_true q439
    have hcz39_0 : wr.cell? ⟨gb426, 0, none⟩ = some (.slice aG aD.length aH) := (blk_cell BK426.out 0).trans rfl
    have hcz39_1 : wr.cell? ⟨gb426, 1, none⟩ = some (.slice aK aA.length aI) := (blk_cell BK426.out 1).trans rfl
    have hcz39_2 : wr.cell? ⟨gb426, 2, none⟩ = some (.slice aM aC.length aJ) := (blk_cell BK426.out 2).trans rfl
    have hfz39_0 := blk_frozen BK426.out 0
    have hfz39_1 := blk_frozen BK426.out 1
    have hfz39_2 := blk_frozen BK426.out 2
    have p440 : 0 ≤ (aW : Int) := of_decide_eq_true (by assumption)
    have q440 : aW < (aA.length : Int) := of_decide_eq_true (by assumption)
    obtain ⟨ad440, e440, eT, eU, eV⟩ := at_T50 aZ.out aW p440 q440
    cases e440
    replace eT := (HB.out.cell (World.block_lt_of_cell? w _ eT)).trans eT
    replace eU := (HB.out.cell (World.block_lt_of_cell? w _ eU)).trans eU
    replace eV := (HB.out.cell (World.block_lt_of_cell? w _ eV)).trans eV
    replace p440 := eq_true p440
    replace q440 := eq_true q440
    have p441 : 0 ≤ (aW : Int) := of_decide_eq_true (by assumption)
    have q441 : aW < (bU.length : Int) := of_decide_eq_true (by assumption)
    obtain ⟨ad441, e441, lA⟩ := Kd.at_bool (Kd.R_reads' HO_7.out).2.2 aW p441 q441
    (try rw [← Nbq34.out] at lA)
    obtain rfl : ad439 = ad441 := (by injection e441)
    replace p441 := eq_true p441
    replace q441 := eq_true q441
    go_wp2
    go_roundg k2
    case measure => have := HK1.out; have := HK2.out; omega
    case rel => exact ⟨(wrap64 ((wrap64 (cS + ((rd_T50 aA aW).f2))) - 1)), (wrap64 (aW + 1)), (by first | rfl | (simp; done) | (simp [*]; done)), (by first | rfl | (simp; done) | (simp [*]; done)), H', ⟨by have := HK1.out; have := HK2.out; omega⟩, ⟨by (with_reducible repeat (first | apply Kd.R_alloc | apply Kd.R_drewN | apply Kd.R_drew)); exact HO_7.out⟩, ⟨by (with_reducible repeat (first | refine blk_drewN ?_ _ | refine blk_drew ?_ | refine blk_alloc ?_ _)); exact BK426.out⟩, ⟨by repeat (first | (with_reducible first | exact HB.out | apply below_alloc | apply pw_below_drewN | apply below_drew1 | refine below_set ?_ GE426.out) | exact HB.out)⟩⟩
  rw [if_pos c12] at H
  have c12b0 : decide (aQ < (l1.length : Int)) = true := decide_eq_true c12
  clear c12
  by_cases c13 : 0 ≤ aQ
  rotate_left
  ·
   rw [if_neg c13] at H
   exact absurd H (by simp)
  rw [if_pos c13] at H
  have c13b0 : decide (0 ≤ aQ) = true := decide_eq_true c13
  clear c13
  by_cases c14 : 0 ≤ (rd l1 aQ)
  rotate_left
  ·
   rw [if_neg c14] at H
   exact absurd H (by simp)
  rw [if_pos c14] at H
  have c14b0 : decide (0 ≤ (rd l1 aQ)) = true := decide_eq_true c14
  clear c14
  by_cases c15 : (rd l1 aQ) < (aC.length : Int)
  rotate_left
  ·
   rw [if_neg c15] at H
   exact absurd H (by simp)
  rw [if_pos c15] at H
  have c15b0 : decide ((rd l1 aQ) < (aC.length : Int)) = true := decide_eq_true c15
  clear c15
  by_cases c16 : ((rd_L1 aC (rd l1 aQ)).length : Int) = 0
  ·
   rw [if_pos c16] at H
   have c16b0 : (((rd_L1 aC (rd l1 aQ)).length : Int) == 0) = true := beq_iff_eq.mpr c16
   have c16b1 : (((rd_L1 aC (rd l1 aQ)).length : Int) != 0) = false := bne_eq_false_iff_eq.mpr c16
   clear c16
   obtain rfl := Option.some.inj H
   try go_wp2
   have n0_ := Aside0.mk (Kd.R_drew HO_7.out)
   have n1_ := Aside0.mk (blk_drew BK426.out)
   have n2_ := Aside0.mk (below_drew1 HB.out)
   clear HO_7
   clear BK426
   clear HB
   have HO_7 := n0_
   have BK426 := n1_
   have HB := n2_
   clear n0_ n1_ n2_
   have p431 : 0 ≤ (aQ : Int) := of_decide_eq_true (by assumption)
   have q431 : aQ < (l1.length : Int) := of_decide_eq_true (by assumption)
   obtain ⟨ad431, e431, cJ⟩ := Kd.at_int HR1.out aQ p431 q431
   have gP := cJ
   cases e431
   replace cJ := (HB.out.cell (World.block_lt_of_cell? w _ cJ)).trans cJ
   replace p431 := eq_true p431
   replace q431 := eq_true q431
   have p432 : 0 ≤ ((rd l1 aQ) : Int) := of_decide_eq_true (by assumption)
   have q432 : (rd l1 aQ) < (aC.length : Int) := of_decide_eq_true (by assumption)
   obtain ⟨ad432, lB, lC, e432, cK, gQ, gR⟩ := at_L1 aX.out (rd l1 aQ) p432 q432
   have gS := cK
   cases e432
   replace cK := (HB.out.cell (World.block_lt_of_cell? w _ cK)).trans cK
   have lD := Aside0.mk gR
   have rU := Aside0.mk gQ
   clear gR gQ
   replace p432 := eq_true p432
   replace q432 := eq_true q432
   refine start_ (n := 10) (S := fun w' => w'.cell? ⟨gb426, 0, none⟩ = some (.slice aG aD.length aH) ∧ w'.cell? ⟨gb426, 1, none⟩ = some (.slice aK aA.length aI) ∧ w'.cell? ⟨gb426, 2, none⟩ = some (.slice (some ad432) aC.length aJ) ∧ w'.cell? (ad431.add (aQ).toNat) = some (.int .i64 (rd l1 aQ)) ∧ w'.cell? (ad432.add ((rd l1 aQ)).toNat) = some (.slice lB (rd_L1 aC (rd l1 aQ)).length lC)) (ds := []) #[false, false, false, false, false, false, false, false, false, false] (by kernel_rfl) rfl rfl ⟨(blk_cell BK426.out 0).trans rfl, (blk_cell BK426.out 1).trans rfl, (blk_cell BK426.out 2).trans rfl, ((HB.out.cell (World.block_lt_of_cell? w _ gP)).trans gP), ((HB.out.cell (World.block_lt_of_cell? w _ gS)).trans gS)⟩ (fun hHeld => ?_); refine with_tabW laganref04_short.tab7 laganref04_short.bits7 (fun HT_ HW_ => ?_)
   generalize wr.drew = w17 at HO_7 BK426 HB lD cJ cK hHeld ⊢
   refine pure_ (i := 0) (N := some 28) (v := ?_) (a' := ?_) #[true, false, false, false, false, false, false, false, false, false] rfl rfl (any_of HT_.out (by kernel_rfl)) (fun _ _ _ h => h) (Or.inl ⟨by rfl, ?_⟩) ?_ ?_
   rotate_left
   ·
    intro w'
    go_simp
    with_reducible rfl
   rotate_left
   ·
    simp only [Act.put, List.setIfInBounds_toArray, List.set_cons_zero, List.set_cons_succ, i64_w, i32_w]
    rfl
   refine pure_ (i := 2) (N := some 30) (v := ?_) (a' := ?_) #[true, false, true, false, false, false, false, false, false, false] rfl rfl (any_of HT_.out (by kernel_rfl)) (fun _ _ _ h => h) (Or.inl ⟨by rfl, ?_⟩) ?_ ?_
   rotate_left
   ·
    intro w'
    go_simp
    with_reducible rfl
   rotate_left
   ·
    simp only [Act.put, List.setIfInBounds_toArray, List.set_cons_zero, List.set_cons_succ, i64_w, i32_w]
    rfl
   refine pure_ (i := 3) (N := some 31) (v := ?_) (a' := ?_) #[true, false, true, true, false, false, false, false, false, false] rfl rfl (any_of HT_.out (by kernel_rfl)) (fun _ _ _ h => h) (Or.inl ⟨by rfl, ?_⟩) ?_ ?_
   rotate_left
   ·
    intro w'
    go_simp
    with_reducible rfl
   rotate_left
   ·
    simp only [Act.put, List.setIfInBounds_toArray, List.set_cons_zero, List.set_cons_succ, i64_w, i32_w]
    rfl
   refine pure_ (i := 4) (N := some 32) (v := ?_) (a' := ?_) #[true, false, true, true, true, false, false, false, false, false] rfl rfl (any_of HT_.out (by kernel_rfl)) (fun _ _ _ h => h) (Or.inl ⟨by rfl, ?_⟩) ?_ ?_
   rotate_left
   ·
    intro w'
    go_simp
    with_reducible rfl
   rotate_left
   ·
    simp only [Act.put, List.setIfInBounds_toArray, List.set_cons_zero, List.set_cons_succ, i64_w, i32_w]
    rfl
   refine take_ (i := 1) (N := some 29) (v := ?_) (a' := ?_) #[true, true, true, true, true, false, false, false, false, false] rfl rfl (take_ofW HT_.out HW_.out (by kernel_rfl)) (fun _ _ _ h => h) (Or.inl ⟨by rfl, ?_⟩) hHeld ?_ ?_
   rotate_left
   ·
    rintro w' ⟨s0, s1, s2, s3, s4⟩
    go_simp
    with_reducible rfl
   rotate_left
   ·
    simp only [Act.put, List.setIfInBounds_toArray, List.set_cons_zero, List.set_cons_succ, i64_w, i32_w]
    rfl
   refine take_ (i := 5) (N := some 33) (v := ?_) (a' := ?_) #[true, true, true, true, true, true, false, false, false, false] rfl rfl (take_ofW HT_.out HW_.out (by kernel_rfl)) (fun _ _ _ h => h) (Or.inl ⟨by rfl, ?_⟩) hHeld ?_ ?_
   rotate_left
   ·
    rintro w' ⟨s0, s1, s2, s3, s4⟩
    go_simp
    with_reducible rfl
   rotate_left
   ·
    simp only [Act.put, List.setIfInBounds_toArray, List.set_cons_zero, List.set_cons_succ, i64_w, i32_w]
    rfl
   refine pure_ (i := 6) (N := some 34) (v := ?_) (a' := ?_) #[true, true, true, true, true, true, true, false, false, false] rfl rfl (any_of HT_.out (by kernel_rfl)) (fun _ _ _ h => h) (Or.inl ⟨by rfl, ?_⟩) ?_ ?_
   rotate_left
   ·
    intro w'
    go_simp
    with_reducible rfl
   rotate_left
   ·
    simp only [Act.put, List.setIfInBounds_toArray, List.set_cons_zero, List.set_cons_succ, i64_w, i32_w]
    rfl
   refine take_ (i := 7) (N := some 35) (v := ?_) (a' := ?_) #[true, true, true, true, true, true, true, true, false, false] rfl rfl (take_ofW HT_.out HW_.out (by kernel_rfl)) (fun _ _ _ h => h) (Or.inl ⟨by rfl, ?_⟩) hHeld ?_ ?_
   rotate_left
   ·
    rintro w' ⟨s0, s1, s2, s3, s4⟩
    go_simp
    with_reducible rfl
   rotate_left
   ·
    simp only [Act.put, List.setIfInBounds_toArray, List.set_cons_zero, List.set_cons_succ, i64_w, i32_w]
    rfl
   refine pure_ (i := 8) (N := some 36) (v := ?_) (a' := ?_) #[true, true, true, true, true, true, true, true, true, false] rfl rfl (any_of HT_.out (by kernel_rfl)) (fun _ _ _ h => h) (Or.inl ⟨by rfl, ?_⟩) ?_ ?_
   rotate_left
   ·
    intro w'
    go_simp
    with_reducible rfl
   rotate_left
   ·
    simp only [Act.put, List.setIfInBounds_toArray, List.set_cons_zero, List.set_cons_succ, i64_w, i32_w]
    rfl
   refine pure_ (i := 9) (N := some 37) (v := ?_) (a' := ?_) #[true, true, true, true, true, true, true, true, true, true] rfl rfl (any_of HT_.out (by kernel_rfl)) (fun _ _ _ h => h) (Or.inl ⟨by rfl, ?_⟩) ?_ ?_
   rotate_left
   ·
    intro w'
    go_simp
    with_reducible rfl
   rotate_left
   ·
    simp only [Act.put, List.setIfInBounds_toArray, List.set_cons_zero, List.set_cons_succ, i64_w, i32_w]
    rfl
   refine done_ (done_of HT_.out (by kernel_rfl)) ?_
   try go_wp2
   go_ret
   exact ⟨by first | rfl | (simp [errW_none, errW_some] <;> rfl) | (simp [*, errW_none, errW_some] <;> rfl), by repeat (first | (with_reducible first | exact HB.out | apply below_alloc | apply pw_below_drewN | apply below_drew1 | refine below_set ?_ GE426.out) | exact HB.out)⟩
  rw [if_neg c16] at H
  have c16b0 : (((rd_L1 aC (rd l1 aQ)).length : Int) == 0) = false := beq_eq_false_iff_ne.mpr c16
  have c16b1 : (((rd_L1 aC (rd l1 aQ)).length : Int) != 0) = true := bne_iff_ne.mpr c16
  have c16b2 : ¬ ((rd_L1 aC (rd l1 aQ)) = []) := fun h_ => c16 (by rw [h_]; rfl)
  have H' := Aside0.mk H
  clear H
  try go_wp2
  have n0_ := Aside0.mk (Kd.R_drew HO_7.out)
  have n1_ := Aside0.mk (blk_drew BK426.out)
  have n2_ := Aside0.mk (below_drew1 HB.out)
  clear HO_7
  clear BK426
  clear HB
  have HO_7 := n0_
  have BK426 := n1_
  have HB := n2_
  clear n0_ n1_ n2_
  have p431 : 0 ≤ (aQ : Int) := of_decide_eq_true (by assumption)
  have q431 : aQ < (l1.length : Int) := of_decide_eq_true (by assumption)
  obtain ⟨ad431, e431, cJ⟩ := Kd.at_int HR1.out aQ p431 q431
  have gP := cJ
  cases e431
  replace cJ := (HB.out.cell (World.block_lt_of_cell? w _ cJ)).trans cJ
  replace p431 := eq_true p431
  replace q431 := eq_true q431
  have p432 : 0 ≤ ((rd l1 aQ) : Int) := of_decide_eq_true (by assumption)
  have q432 : (rd l1 aQ) < (aC.length : Int) := of_decide_eq_true (by assumption)
  obtain ⟨ad432, lB, lC, e432, cK, gQ, gR⟩ := at_L1 aX.out (rd l1 aQ) p432 q432
  have gS := cK
  cases e432
  replace cK := (HB.out.cell (World.block_lt_of_cell? w _ cK)).trans cK
  have lD := Aside0.mk gR
  have rU := Aside0.mk gQ
  clear gR gQ
  replace p432 := eq_true p432
  replace q432 := eq_true q432
  refine start_ (n := 10) (S := fun w' => w'.cell? ⟨gb426, 0, none⟩ = some (.slice aG aD.length aH) ∧ w'.cell? ⟨gb426, 1, none⟩ = some (.slice aK aA.length aI) ∧ w'.cell? ⟨gb426, 2, none⟩ = some (.slice (some ad432) aC.length aJ) ∧ w'.cell? (ad431.add (aQ).toNat) = some (.int .i64 (rd l1 aQ)) ∧ w'.cell? (ad432.add ((rd l1 aQ)).toNat) = some (.slice lB (rd_L1 aC (rd l1 aQ)).length lC)) (ds := []) #[false, false, false, false, false, false, false, false, false, false] (by kernel_rfl) rfl rfl ⟨(blk_cell BK426.out 0).trans rfl, (blk_cell BK426.out 1).trans rfl, (blk_cell BK426.out 2).trans rfl, ((HB.out.cell (World.block_lt_of_cell? w _ gP)).trans gP), ((HB.out.cell (World.block_lt_of_cell? w _ gS)).trans gS)⟩ (fun hHeld => ?_); refine with_tabW laganref04_short.tab7 laganref04_short.bits7 (fun HT_ HW_ => ?_)
  generalize wr.drew = w18 at HO_7 BK426 HB lD cJ cK hHeld ⊢
  refine pure_ (i := 0) (N := some 28) (v := ?_) (a' := ?_) #[true, false, false, false, false, false, false, false, false, false] rfl rfl (any_of HT_.out (by kernel_rfl)) (fun _ _ _ h => h) (Or.inl ⟨by rfl, ?_⟩) ?_ ?_
  rotate_left
  ·
   intro w'
   go_simp
   with_reducible rfl
  rotate_left
  ·
   simp only [Act.put, List.setIfInBounds_toArray, List.set_cons_zero, List.set_cons_succ, i64_w, i32_w]
   rfl
  refine pure_ (i := 2) (N := some 30) (v := ?_) (a' := ?_) #[true, false, true, false, false, false, false, false, false, false] rfl rfl (any_of HT_.out (by kernel_rfl)) (fun _ _ _ h => h) (Or.inl ⟨by rfl, ?_⟩) ?_ ?_
  rotate_left
  ·
   intro w'
   go_simp
   with_reducible rfl
  rotate_left
  ·
   simp only [Act.put, List.setIfInBounds_toArray, List.set_cons_zero, List.set_cons_succ, i64_w, i32_w]
   rfl
  refine pure_ (i := 3) (N := some 31) (v := ?_) (a' := ?_) #[true, false, true, true, false, false, false, false, false, false] rfl rfl (any_of HT_.out (by kernel_rfl)) (fun _ _ _ h => h) (Or.inl ⟨by rfl, ?_⟩) ?_ ?_
  rotate_left
  ·
   intro w'
   go_simp
   with_reducible rfl
  rotate_left
  ·
   simp only [Act.put, List.setIfInBounds_toArray, List.set_cons_zero, List.set_cons_succ, i64_w, i32_w]
   rfl
  refine pure_ (i := 4) (N := some 32) (v := ?_) (a' := ?_) #[true, false, true, true, true, false, false, false, false, false] rfl rfl (any_of HT_.out (by kernel_rfl)) (fun _ _ _ h => h) (Or.inl ⟨by rfl, ?_⟩) ?_ ?_
  rotate_left
  ·
   intro w'
   go_simp
   with_reducible rfl
  rotate_left
  ·
   simp only [Act.put, List.setIfInBounds_toArray, List.set_cons_zero, List.set_cons_succ, i64_w, i32_w]
   rfl
  refine take_ (i := 1) (N := some 29) (v := ?_) (a' := ?_) #[true, true, true, true, true, false, false, false, false, false] rfl rfl (take_ofW HT_.out HW_.out (by kernel_rfl)) (fun _ _ _ h => h) (Or.inl ⟨by rfl, ?_⟩) hHeld ?_ ?_
  rotate_left
  ·
   rintro w' ⟨s0, s1, s2, s3, s4⟩
   go_simp
   with_reducible rfl
  rotate_left
  ·
   simp only [Act.put, List.setIfInBounds_toArray, List.set_cons_zero, List.set_cons_succ, i64_w, i32_w]
   rfl
  refine take_ (i := 5) (N := some 33) (v := ?_) (a' := ?_) #[true, true, true, true, true, true, false, false, false, false] rfl rfl (take_ofW HT_.out HW_.out (by kernel_rfl)) (fun _ _ _ h => h) (Or.inl ⟨by rfl, ?_⟩) hHeld ?_ ?_
  rotate_left
  ·
   rintro w' ⟨s0, s1, s2, s3, s4⟩
   go_simp
   with_reducible rfl
  rotate_left
  ·
   simp only [Act.put, List.setIfInBounds_toArray, List.set_cons_zero, List.set_cons_succ, i64_w, i32_w]
   rfl
  refine pure_ (i := 6) (N := some 34) (v := ?_) (a' := ?_) #[true, true, true, true, true, true, true, false, false, false] rfl rfl (any_of HT_.out (by kernel_rfl)) (fun _ _ _ h => h) (Or.inl ⟨by rfl, ?_⟩) ?_ ?_
  rotate_left
  ·
   intro w'
   go_simp
   with_reducible rfl
  rotate_left
  ·
   simp only [Act.put, List.setIfInBounds_toArray, List.set_cons_zero, List.set_cons_succ, i64_w, i32_w]
   rfl
  refine take_ (i := 7) (N := some 35) (v := ?_) (a' := ?_) #[true, true, true, true, true, true, true, true, false, false] rfl rfl (take_ofW HT_.out HW_.out (by kernel_rfl)) (fun _ _ _ h => h) (Or.inl ⟨by rfl, ?_⟩) hHeld ?_ ?_
  rotate_left
  ·
   rintro w' ⟨s0, s1, s2, s3, s4⟩
   go_simp
   with_reducible rfl
  rotate_left
  ·
   simp only [Act.put, List.setIfInBounds_toArray, List.set_cons_zero, List.set_cons_succ, i64_w, i32_w]
   rfl
  refine pure_ (i := 8) (N := some 36) (v := ?_) (a' := ?_) #[true, true, true, true, true, true, true, true, true, false] rfl rfl (any_of HT_.out (by kernel_rfl)) (fun _ _ _ h => h) (Or.inl ⟨by rfl, ?_⟩) ?_ ?_
  rotate_left
  ·
   intro w'
   go_simp
   with_reducible rfl
  rotate_left
  ·
   simp only [Act.put, List.setIfInBounds_toArray, List.set_cons_zero, List.set_cons_succ, i64_w, i32_w]
   rfl
  refine pure_ (i := 9) (N := some 37) (v := ?_) (a' := ?_) #[true, true, true, true, true, true, true, true, true, true] rfl rfl (any_of HT_.out (by kernel_rfl)) (fun _ _ _ h => h) (Or.inl ⟨by rfl, ?_⟩) ?_ ?_
  rotate_left
  ·
   intro w'
   go_simp
   with_reducible rfl
  rotate_left
  ·
   simp only [Act.put, List.setIfInBounds_toArray, List.set_cons_zero, List.set_cons_succ, i64_w, i32_w]
   rfl
  refine done_ (done_of HT_.out (by kernel_rfl)) ?_
  try go_wp2
  go_loopg [9] k1 (fun kq v9 w' => ∃ (bO : List Bool) (bP : Int), v9 = .int .i64 bP ∧ Aside0 (laganref04_short.l1 kq l1 a2 bO aQ bP aD aA aC = some r) ∧ Aside0 (kq ≤ k1) ∧ Aside0 (Kd.R Kd.bool 4 w' w.heap.size (fun _ => True) v429 bO) ∧ Aside0 (w'.heap[gb426]? = some (.cells #[(.slice aG aD.length aH), (.slice aK aA.length aI), (.slice (some ad432) aC.length aJ)] 26 (0, 0))) ∧ Aside0 (Below w.heap.size w w'))
  case atStart => exact ⟨(bU), (0), (by first | rfl | (simp; done) | (simp [*]; done)), H', ⟨Nat.le_refl _⟩, ⟨by (with_reducible repeat (first | apply Kd.R_alloc | apply Kd.R_drewN | apply Kd.R_drew)); exact HO_7.out⟩, ⟨by (with_reducible repeat (first | refine blk_drewN ?_ _ | refine blk_drew ?_ | refine blk_alloc ?_ _)); exact BK426.out⟩, ⟨by repeat (first | (with_reducible first | exact HB.out | apply below_alloc | apply pw_below_drewN | apply below_drew1 | refine below_set ?_ GE426.out) | exact HB.out)⟩⟩
  clear H'
  try clear jR
  try clear jS
  try clear jT
  try clear jU
  try clear jV
  try clear jW
  obtain ⟨bO, bP, rfl, HA, HK2, HO_7, BK426, HB⟩ := hrel
  cases gk with
  | zero => exact absurd HA.out (by simp [laganref04_short.l1])
  | succ k2 =>
   have H := HA.out
   clear HA
   simp only [laganref04_short.l1] at H
   by_cases c19 : 0 ≤ aQ
   rotate_left
   ·
    rw [if_neg c19] at H
    exact absurd H (by simp)
   rw [if_pos c19] at H
   have c19b0 : decide (0 ≤ aQ) = true := decide_eq_true c19
   clear c19
   by_cases c20 : aQ < (l1.length : Int)
   rotate_left
   ·
    rw [if_neg c20] at H
    exact absurd H (by simp)
   rw [if_pos c20] at H
   have c20b0 : decide (aQ < (l1.length : Int)) = true := decide_eq_true c20
   clear c20
   by_cases c21 : 0 ≤ (rd l1 aQ)
   rotate_left
   ·
    rw [if_neg c21] at H
    exact absurd H (by simp)
   rw [if_pos c21] at H
   have c21b0 : decide (0 ≤ (rd l1 aQ)) = true := decide_eq_true c21
   clear c21
   by_cases c22 : (rd l1 aQ) < (aC.length : Int)
   rotate_left
   ·
    rw [if_neg c22] at H
    exact absurd H (by simp)
   rw [if_pos c22] at H
   have c22b0 : decide ((rd l1 aQ) < (aC.length : Int)) = true := decide_eq_true c22
   clear c22
   by_cases c23 : bP < ((rd_L1 aC (rd l1 aQ)).length : Int)
   rotate_left
   ·
    rw [if_neg c23] at H
    have c23b0 : decide (bP < ((rd_L1 aC (rd l1 aQ)).length : Int)) = false := decide_eq_false c23
    clear c23
    have H' := Aside0.mk H
    clear H
    try go_wp2
    have n0_ := Aside0.mk (Kd.R_drew HO_7.out)
    have n1_ := Aside0.mk (blk_drew BK426.out)
    have n2_ := Aside0.mk (below_drew1 HB.out)
    clear HO_7
    clear BK426
    clear HB
    have HO_7 := n0_
    have BK426 := n1_
    have HB := n2_
    clear n0_ n1_ n2_
    have p433 : 0 ≤ (aQ : Int) := of_decide_eq_true (by assumption)
    have q433 : aQ < (l1.length : Int) := of_decide_eq_true (by assumption)
    obtain ⟨ad433, e433, cT⟩ := Kd.at_int HR1.out aQ p433 q433
    have gT := cT
    obtain rfl : ad431 = ad433 := (by injection e433)
    replace cT := (HB.out.cell (World.block_lt_of_cell? w _ cT)).trans cT
    replace p433 := eq_true p433
    replace q433 := eq_true q433
    have p434 : 0 ≤ ((rd l1 aQ) : Int) := of_decide_eq_true (by assumption)
    have q434 : (rd l1 aQ) < (aC.length : Int) := of_decide_eq_true (by assumption)
    obtain ⟨ad434, lE, lG, e434, cU, gU, gV⟩ := at_L1 aX.out (rd l1 aQ) p434 q434
    have gW := cU
    obtain rfl : ad432 = ad434 := (by injection e434)
    replace cU := (HB.out.cell (World.block_lt_of_cell? w _ cU)).trans cU
    have lH := Aside0.mk gV
    have rV := Aside0.mk gU
    clear gV gU
    replace p434 := eq_true p434
    replace q434 := eq_true q434
    refine start_ (n := 11) (S := fun w' => w'.cell? ⟨gb426, 0, none⟩ = some (.slice aG aD.length aH) ∧ w'.cell? ⟨gb426, 1, none⟩ = some (.slice aK aA.length aI) ∧ w'.cell? ⟨gb426, 2, none⟩ = some (.slice (some ad432) aC.length aJ) ∧ w'.cell? (ad431.add (aQ).toNat) = some (.int .i64 (rd l1 aQ)) ∧ w'.cell? (ad432.add ((rd l1 aQ)).toNat) = some (.slice lE (rd_L1 aC (rd l1 aQ)).length lG)) (ds := []) #[false, false, false, false, false, false, false, false, false, false, false] (by kernel_rfl) rfl rfl ⟨(blk_cell BK426.out 0).trans rfl, (blk_cell BK426.out 1).trans rfl, (blk_cell BK426.out 2).trans rfl, ((HB.out.cell (World.block_lt_of_cell? w _ gT)).trans gT), ((HB.out.cell (World.block_lt_of_cell? w _ gW)).trans gW)⟩ (fun hHeld => ?_); refine with_tabW laganref04_short.tab10 laganref04_short.bits10 (fun HT_ HW_ => ?_)
    generalize wr.drew = w31 at HO_7 BK426 HB lH cT cU hHeld ⊢
    refine pure_ (i := 0) (N := some 38) (v := ?_) (a' := ?_) #[true, false, false, false, false, false, false, false, false, false, false] rfl rfl (any_of HT_.out (by kernel_rfl)) (fun _ _ _ h => h) (Or.inl ⟨by rfl, ?_⟩) ?_ ?_
    rotate_left
    ·
     intro w'
     go_simp
     with_reducible rfl
    rotate_left
    ·
     simp only [Act.put, List.setIfInBounds_toArray, List.set_cons_zero, List.set_cons_succ, i64_w, i32_w]
     rfl
    refine pure_ (i := 1) (N := some 39) (v := ?_) (a' := ?_) #[true, true, false, false, false, false, false, false, false, false, false] rfl rfl (any_of HT_.out (by kernel_rfl)) (fun _ _ _ h => h) (Or.inl ⟨by rfl, ?_⟩) ?_ ?_
    rotate_left
    ·
     intro w'
     go_simp
     with_reducible rfl
    rotate_left
    ·
     simp only [Act.put, List.setIfInBounds_toArray, List.set_cons_zero, List.set_cons_succ, i64_w, i32_w]
     rfl
    refine pure_ (i := 3) (N := some 41) (v := ?_) (a' := ?_) #[true, true, false, true, false, false, false, false, false, false, false] rfl rfl (any_of HT_.out (by kernel_rfl)) (fun _ _ _ h => h) (Or.inl ⟨by rfl, ?_⟩) ?_ ?_
    rotate_left
    ·
     intro w'
     go_simp
     with_reducible rfl
    rotate_left
    ·
     simp only [Act.put, List.setIfInBounds_toArray, List.set_cons_zero, List.set_cons_succ, i64_w, i32_w]
     rfl
    refine pure_ (i := 4) (N := some 42) (v := ?_) (a' := ?_) #[true, true, false, true, true, false, false, false, false, false, false] rfl rfl (any_of HT_.out (by kernel_rfl)) (fun _ _ _ h => h) (Or.inl ⟨by rfl, ?_⟩) ?_ ?_
    rotate_left
    ·
     intro w'
     go_simp
     with_reducible rfl
    rotate_left
    ·
     simp only [Act.put, List.setIfInBounds_toArray, List.set_cons_zero, List.set_cons_succ, i64_w, i32_w]
     rfl
    refine pure_ (i := 5) (N := some 43) (v := ?_) (a' := ?_) #[true, true, false, true, true, true, false, false, false, false, false] rfl rfl (any_of HT_.out (by kernel_rfl)) (fun _ _ _ h => h) (Or.inl ⟨by rfl, ?_⟩) ?_ ?_
    rotate_left
    ·
     intro w'
     go_simp
     with_reducible rfl
    rotate_left
    ·
     simp only [Act.put, List.setIfInBounds_toArray, List.set_cons_zero, List.set_cons_succ, i64_w, i32_w]
     rfl
    refine take_ (i := 2) (N := some 40) (v := ?_) (a' := ?_) #[true, true, true, true, true, true, false, false, false, false, false] rfl rfl (take_ofW HT_.out HW_.out (by kernel_rfl)) (fun _ _ _ h => h) (Or.inl ⟨by rfl, ?_⟩) hHeld ?_ ?_
    rotate_left
    ·
     rintro w' ⟨s0, s1, s2, s3, s4⟩
     go_simp
     with_reducible rfl
    rotate_left
    ·
     simp only [Act.put, List.setIfInBounds_toArray, List.set_cons_zero, List.set_cons_succ, i64_w, i32_w]
     rfl
    refine take_ (i := 6) (N := some 44) (v := ?_) (a' := ?_) #[true, true, true, true, true, true, true, false, false, false, false] rfl rfl (take_ofW HT_.out HW_.out (by kernel_rfl)) (fun _ _ _ h => h) (Or.inl ⟨by rfl, ?_⟩) hHeld ?_ ?_
    rotate_left
    ·
     rintro w' ⟨s0, s1, s2, s3, s4⟩
     go_simp
     with_reducible rfl
    rotate_left
    ·
     simp only [Act.put, List.setIfInBounds_toArray, List.set_cons_zero, List.set_cons_succ, i64_w, i32_w]
     rfl
    refine pure_ (i := 7) (N := some 45) (v := ?_) (a' := ?_) #[true, true, true, true, true, true, true, true, false, false, false] rfl rfl (any_of HT_.out (by kernel_rfl)) (fun _ _ _ h => h) (Or.inl ⟨by rfl, ?_⟩) ?_ ?_
    rotate_left
    ·
     intro w'
     go_simp
     with_reducible rfl
    rotate_left
    ·
     simp only [Act.put, List.setIfInBounds_toArray, List.set_cons_zero, List.set_cons_succ, i64_w, i32_w]
     rfl
    refine take_ (i := 8) (N := some 46) (v := ?_) (a' := ?_) #[true, true, true, true, true, true, true, true, true, false, false] rfl rfl (take_ofW HT_.out HW_.out (by kernel_rfl)) (fun _ _ _ h => h) (Or.inl ⟨by rfl, ?_⟩) hHeld ?_ ?_
    rotate_left
    ·
     rintro w' ⟨s0, s1, s2, s3, s4⟩
     go_simp
     with_reducible rfl
    rotate_left
    ·
     simp only [Act.put, List.setIfInBounds_toArray, List.set_cons_zero, List.set_cons_succ, i64_w, i32_w]
     rfl
    refine pure_ (i := 9) (N := some 47) (v := ?_) (a' := ?_) #[true, true, true, true, true, true, true, true, true, true, false] rfl rfl (any_of HT_.out (by kernel_rfl)) (fun _ _ _ h => h) (Or.inl ⟨by rfl, ?_⟩) ?_ ?_
    rotate_left
    ·
     intro w'
     go_simp
     with_reducible rfl
    rotate_left
    ·
     simp only [Act.put, List.setIfInBounds_toArray, List.set_cons_zero, List.set_cons_succ, i64_w, i32_w]
     rfl
    refine pure_ (i := 10) (N := some 48) (v := ?_) (a' := ?_) #[true, true, true, true, true, true, true, true, true, true, true] rfl rfl (any_of HT_.out (by kernel_rfl)) (fun _ _ _ h => h) (Or.inl ⟨by rfl, ?_⟩) ?_ ?_
    rotate_left
    ·
     intro w'
     go_simp
     with_reducible rfl
    rotate_left
    ·
     simp only [Act.put, List.setIfInBounds_toArray, List.set_cons_zero, List.set_cons_succ, i64_w, i32_w]
     rfl
    refine done_ (done_of HT_.out (by kernel_rfl)) ?_
    try go_wp2
    go_roundg k2
    case measure => have := HK1.out; have := HK2.out; omega
    case rel => exact ⟨(bO), (wrap64 (aQ + 1)), (by first | rfl | (simp; done) | (simp [*]; done)), H', ⟨by have := HK1.out; have := HK2.out; omega⟩, ⟨by (with_reducible repeat (first | apply Kd.R_alloc | apply Kd.R_drewN | apply Kd.R_drew)); exact HO_7.out⟩, ⟨by (with_reducible repeat (first | refine blk_drewN ?_ _ | refine blk_drew ?_ | refine blk_alloc ?_ _)); exact BK426.out⟩, ⟨by repeat (first | (with_reducible first | exact HB.out | apply below_alloc | apply pw_below_drewN | apply below_drew1 | refine below_set ?_ GE426.out) | exact HB.out)⟩⟩
   rw [if_pos c23] at H
   have c23b0 : decide (bP < ((rd_L1 aC (rd l1 aQ)).length : Int)) = true := decide_eq_true c23
   clear c23
   by_cases c24 : 0 ≤ bP
   rotate_left
   ·
    rw [if_neg c24] at H
    exact absurd H (by simp)
   rw [if_pos c24] at H
   have c24b0 : decide (0 ≤ bP) = true := decide_eq_true c24
   clear c24
   by_cases c25 : 0 ≤ (rd (rd_L1 aC (rd l1 aQ)) bP)
   rotate_left
   ·
    rw [if_neg c25] at H
    exact absurd H (by simp)
   rw [if_pos c25] at H
   have c25b0 : decide (0 ≤ (rd (rd_L1 aC (rd l1 aQ)) bP)) = true := decide_eq_true c25
   clear c25
   by_cases c26 : (rd (rd_L1 aC (rd l1 aQ)) bP) < (bO.length : Int)
   rotate_left
   ·
    rw [if_neg c26] at H
    exact absurd H (by simp)
   rw [if_pos c26] at H
   have c26b0 : decide ((rd (rd_L1 aC (rd l1 aQ)) bP) < (bO.length : Int)) = true := decide_eq_true c26
   clear c26
   obtain ⟨y438, hy438⟩ : ∃ y_ : List Bool, y_ = (bO.set ((rd (rd_L1 aC (rd l1 aQ)) bP) : Int).toNat true) := ⟨_, rfl⟩
   replace H : (laganref04_short.l1 k2 l1 a2 y438 aQ (wrap64 (bP + 1)) aD aA aC) = some r := by first | (rw [hy438]; with_reducible exact H) | (have H2_ := (Option.bind_some _ _).symm.trans H; rw [hy438]; with_reducible exact H2_) | (have H2_ := (Option.bind_some _ _).symm.trans H; with_reducible exact H2_) | with_reducible exact H | (rw [hy438]; exact H) | exact H
   have Ny438 := Aside0.mk hy438
   clear hy438
   have H' := Aside0.mk H
   clear H
   try go_wp2
   have n0_ := Aside0.mk (Kd.R_drew HO_7.out)
   have n1_ := Aside0.mk (blk_drew BK426.out)
   have n2_ := Aside0.mk (below_drew1 HB.out)
   clear HO_7
   clear BK426
   clear HB
   have HO_7 := n0_
   have BK426 := n1_
   have HB := n2_
   clear n0_ n1_ n2_
   have p433 : 0 ≤ (aQ : Int) := of_decide_eq_true (by assumption)
   have q433 : aQ < (l1.length : Int) := of_decide_eq_true (by assumption)
   obtain ⟨ad433, e433, cT⟩ := Kd.at_int HR1.out aQ p433 q433
   have gT := cT
   obtain rfl : ad431 = ad433 := (by injection e433)
   replace cT := (HB.out.cell (World.block_lt_of_cell? w _ cT)).trans cT
   replace p433 := eq_true p433
   replace q433 := eq_true q433
   have p434 : 0 ≤ ((rd l1 aQ) : Int) := of_decide_eq_true (by assumption)
   have q434 : (rd l1 aQ) < (aC.length : Int) := of_decide_eq_true (by assumption)
   obtain ⟨ad434, lE, lG, e434, cU, gU, gV⟩ := at_L1 aX.out (rd l1 aQ) p434 q434
   have gW := cU
   obtain rfl : ad432 = ad434 := (by injection e434)
   replace cU := (HB.out.cell (World.block_lt_of_cell? w _ cU)).trans cU
   have lH := Aside0.mk gV
   have rV := Aside0.mk gU
   clear gV gU
   replace p434 := eq_true p434
   replace q434 := eq_true q434
   refine start_ (n := 11) (S := fun w' => w'.cell? ⟨gb426, 0, none⟩ = some (.slice aG aD.length aH) ∧ w'.cell? ⟨gb426, 1, none⟩ = some (.slice aK aA.length aI) ∧ w'.cell? ⟨gb426, 2, none⟩ = some (.slice (some ad432) aC.length aJ) ∧ w'.cell? (ad431.add (aQ).toNat) = some (.int .i64 (rd l1 aQ)) ∧ w'.cell? (ad432.add ((rd l1 aQ)).toNat) = some (.slice lE (rd_L1 aC (rd l1 aQ)).length lG)) (ds := []) #[false, false, false, false, false, false, false, false, false, false, false] (by kernel_rfl) rfl rfl ⟨(blk_cell BK426.out 0).trans rfl, (blk_cell BK426.out 1).trans rfl, (blk_cell BK426.out 2).trans rfl, ((HB.out.cell (World.block_lt_of_cell? w _ gT)).trans gT), ((HB.out.cell (World.block_lt_of_cell? w _ gW)).trans gW)⟩ (fun hHeld => ?_); refine with_tabW laganref04_short.tab10 laganref04_short.bits10 (fun HT_ HW_ => ?_)
   generalize wr.drew = w28 at HO_7 BK426 HB lH cT cU hHeld ⊢
   refine pure_ (i := 0) (N := some 38) (v := ?_) (a' := ?_) #[true, false, false, false, false, false, false, false, false, false, false] rfl rfl (any_of HT_.out (by kernel_rfl)) (fun _ _ _ h => h) (Or.inl ⟨by rfl, ?_⟩) ?_ ?_
   rotate_left
   ·
    intro w'
    go_simp
    with_reducible rfl
   rotate_left
   ·
    simp only [Act.put, List.setIfInBounds_toArray, List.set_cons_zero, List.set_cons_succ, i64_w, i32_w]
    rfl
   refine pure_ (i := 1) (N := some 39) (v := ?_) (a' := ?_) #[true, true, false, false, false, false, false, false, false, false, false] rfl rfl (any_of HT_.out (by kernel_rfl)) (fun _ _ _ h => h) (Or.inl ⟨by rfl, ?_⟩) ?_ ?_
   rotate_left
   ·
    intro w'
    go_simp
    with_reducible rfl
   rotate_left
   ·
    simp only [Act.put, List.setIfInBounds_toArray, List.set_cons_zero, List.set_cons_succ, i64_w, i32_w]
    rfl
   refine pure_ (i := 3) (N := some 41) (v := ?_) (a' := ?_) #[true, true, false, true, false, false, false, false, false, false, false] rfl rfl (any_of HT_.out (by kernel_rfl)) (fun _ _ _ h => h) (Or.inl ⟨by rfl, ?_⟩) ?_ ?_
   rotate_left
   ·
    intro w'
    go_simp
    with_reducible rfl
   rotate_left
   ·
    simp only [Act.put, List.setIfInBounds_toArray, List.set_cons_zero, List.set_cons_succ, i64_w, i32_w]
    rfl
   refine pure_ (i := 4) (N := some 42) (v := ?_) (a' := ?_) #[true, true, false, true, true, false, false, false, false, false, false] rfl rfl (any_of HT_.out (by kernel_rfl)) (fun _ _ _ h => h) (Or.inl ⟨by rfl, ?_⟩) ?_ ?_
   rotate_left
   ·
    intro w'
    go_simp
    with_reducible rfl
   rotate_left
   ·
    simp only [Act.put, List.setIfInBounds_toArray, List.set_cons_zero, List.set_cons_succ, i64_w, i32_w]
    rfl
   refine pure_ (i := 5) (N := some 43) (v := ?_) (a' := ?_) #[true, true, false, true, true, true, false, false, false, false, false] rfl rfl (any_of HT_.out (by kernel_rfl)) (fun _ _ _ h => h) (Or.inl ⟨by rfl, ?_⟩) ?_ ?_
   rotate_left
   ·
    intro w'
    go_simp
    with_reducible rfl
   rotate_left
   ·
    simp only [Act.put, List.setIfInBounds_toArray, List.set_cons_zero, List.set_cons_succ, i64_w, i32_w]
    rfl
   refine take_ (i := 2) (N := some 40) (v := ?_) (a' := ?_) #[true, true, true, true, true, true, false, false, false, false, false] rfl rfl (take_ofW HT_.out HW_.out (by kernel_rfl)) (fun _ _ _ h => h) (Or.inl ⟨by rfl, ?_⟩) hHeld ?_ ?_
   rotate_left
   ·
    rintro w' ⟨s0, s1, s2, s3, s4⟩
    go_simp
    with_reducible rfl
   rotate_left
   ·
    simp only [Act.put, List.setIfInBounds_toArray, List.set_cons_zero, List.set_cons_succ, i64_w, i32_w]
    rfl
   refine take_ (i := 6) (N := some 44) (v := ?_) (a' := ?_) #[true, true, true, true, true, true, true, false, false, false, false] rfl rfl (take_ofW HT_.out HW_.out (by kernel_rfl)) (fun _ _ _ h => h) (Or.inl ⟨by rfl, ?_⟩) hHeld ?_ ?_
   rotate_left
   ·
    rintro w' ⟨s0, s1, s2, s3, s4⟩
    go_simp
    with_reducible rfl
   rotate_left
   ·
    simp only [Act.put, List.setIfInBounds_toArray, List.set_cons_zero, List.set_cons_succ, i64_w, i32_w]
    rfl
   refine pure_ (i := 7) (N := some 45) (v := ?_) (a' := ?_) #[true, true, true, true, true, true, true, true, false, false, false] rfl rfl (any_of HT_.out (by kernel_rfl)) (fun _ _ _ h => h) (Or.inl ⟨by rfl, ?_⟩) ?_ ?_
   rotate_left
   ·
    intro w'
    go_simp
    with_reducible rfl
   rotate_left
   ·
    simp only [Act.put, List.setIfInBounds_toArray, List.set_cons_zero, List.set_cons_succ, i64_w, i32_w]
    rfl
   refine take_ (i := 8) (N := some 46) (v := ?_) (a' := ?_) #[true, true, true, true, true, true, true, true, true, false, false] rfl rfl (take_ofW HT_.out HW_.out (by kernel_rfl)) (fun _ _ _ h => h) (Or.inl ⟨by rfl, ?_⟩) hHeld ?_ ?_
   rotate_left
   ·
    rintro w' ⟨s0, s1, s2, s3, s4⟩
    go_simp
    with_reducible rfl
   rotate_left
   ·
    simp only [Act.put, List.setIfInBounds_toArray, List.set_cons_zero, List.set_cons_succ, i64_w, i32_w]
    rfl
   refine pure_ (i := 9) (N := some 47) (v := ?_) (a' := ?_) #[true, true, true, true, true, true, true, true, true, true, false] rfl rfl (any_of HT_.out (by kernel_rfl)) (fun _ _ _ h => h) (Or.inl ⟨by rfl, ?_⟩) ?_ ?_
   rotate_left
   ·
    intro w'
    go_simp
    with_reducible rfl
   rotate_left
   ·
    simp only [Act.put, List.setIfInBounds_toArray, List.set_cons_zero, List.set_cons_succ, i64_w, i32_w]
    rfl
   refine pure_ (i := 10) (N := some 48) (v := ?_) (a' := ?_) #[true, true, true, true, true, true, true, true, true, true, true] rfl rfl (any_of HT_.out (by kernel_rfl)) (fun _ _ _ h => h) (Or.inl ⟨by rfl, ?_⟩) ?_ ?_
   rotate_left
   ·
    intro w'
    go_simp
    with_reducible rfl
   rotate_left
   ·
    simp only [Act.put, List.setIfInBounds_toArray, List.set_cons_zero, List.set_cons_succ, i64_w, i32_w]
    rfl
   refine done_ (done_of HT_.out (by kernel_rfl)) ?_
   try go_wp2
   have n0_ := Aside0.mk (Kd.R_drew HO_7.out)
   have n1_ := Aside0.mk (blk_drew BK426.out)
   have n2_ := Aside0.mk (below_drew1 HB.out)
   clear HO_7
   clear BK426
   clear HB
   have HO_7 := n0_
   have BK426 := n1_
   have HB := n2_
   clear n0_ n1_ n2_
   have p435 : 0 ≤ (aQ : Int) := of_decide_eq_true (by assumption)
   have q435 : aQ < (l1.length : Int) := of_decide_eq_true (by assumption)
   obtain ⟨ad435, e435, fM⟩ := Kd.at_int HR1.out aQ p435 q435
   have nC := fM
   obtain rfl : ad431 = ad435 := (by injection e435)
   replace fM := (HB.out.cell (World.block_lt_of_cell? w _ fM)).trans fM
   replace p435 := eq_true p435
   replace q435 := eq_true q435
   have p436 : 0 ≤ ((rd l1 aQ) : Int) := of_decide_eq_true (by assumption)
   have q436 : (rd l1 aQ) < (aC.length : Int) := of_decide_eq_true (by assumption)
   obtain ⟨ad436, A436_0, rW, e436, fN, nD, nE⟩ := at_L1 aX.out (rd l1 aQ) p436 q436
   have nF := fN
   obtain rfl : ad432 = ad436 := (by injection e436)
   replace fN := (HB.out.cell (World.block_lt_of_cell? w _ fN)).trans fN
   have nG := Aside0.mk nE
   have HC436_0 := Aside0.mk nD
   clear nE nD
   replace p436 := eq_true p436
   replace q436 := eq_true q436
   have p437 : 0 ≤ (bP : Int) := of_decide_eq_true (by assumption)
   have q437 : bP < ((rd_L1 aC (rd l1 aQ)).length : Int) := of_decide_eq_true (by assumption)
   obtain ⟨ad437, e437, fO⟩ := Kd.at_int nG.out bP p437 q437
   have nH := fO
   cases e437
   replace fO := (HB.out.cell (World.block_lt_of_cell? w _ fO)).trans fO
   replace p437 := eq_true p437
   replace q437 := eq_true q437
   have p27 : 0 ≤ ((rd (rd_L1 aC (rd l1 aQ)) bP) : Int) := of_decide_eq_true (by assumption)
   have q27 : ((rd (rd_L1 aC (rd l1 aQ)) bP) : Int) < ((bO.length : Int) : Int) := of_decide_eq_true (by assumption)
   obtain ⟨go27, co27, eo27, gb27, gl27, cl27, HG27⟩ := Kd.R_form HO_7.out (by omega)
   (first | cases eo27 | (injection eo27 with ea_ en_ ec_; (first | subst ea_ | (injection ea_ with ea_; subst ea_)); subst ec_; clear en_))
   have GB27 := Aside0.mk gb27
   have GG27 := Aside0.mk HG27
   clear gb27 gl27 HG27
   obtain ⟨nB, rX⟩ := Kd.R_celln false HO_7.out ((rd (rd_L1 aC (rd l1 aQ)) bP) : Int) p27 q27
   replace p27 := eq_true p27
   replace q27 := eq_true q27
   have HP30 := Kd.R_putn HO_7.out ((rd (rd_L1 aC (rd l1 aQ)) bP) : Int) true
   rw [← Ny438.out] at HP30
   have HQ30 := Aside0.mk HP30
   clear HP30
   refine start_ (n := 14) (S := fun w' => w'.cell? ⟨gb426, 0, none⟩ = some (.slice aG aD.length aH) ∧ w'.cell? ⟨gb426, 1, none⟩ = some (.slice aK aA.length aI) ∧ w'.cell? ⟨gb426, 2, none⟩ = some (.slice (some ad432) aC.length aJ) ∧ w'.cell? (ad431.add (aQ).toNat) = some (.int .i64 (rd l1 aQ)) ∧ w'.cell? (ad432.add ((rd l1 aQ)).toNat) = some (.slice (some ad437) (rd_L1 aC (rd l1 aQ)).length rW) ∧ w'.cell? (ad437.add (bP).toNat) = some (.int .i64 (rd (rd_L1 aC (rd l1 aQ)) bP))) (ds := [13]) #[false, false, false, false, false, false, false, false, false, false, false, false, false, false] (by kernel_rfl) rfl rfl ⟨(blk_cell BK426.out 0).trans rfl, (blk_cell BK426.out 1).trans rfl, (blk_cell BK426.out 2).trans rfl, ((HB.out.cell (World.block_lt_of_cell? w _ nC)).trans nC), ((HB.out.cell (World.block_lt_of_cell? w _ nF)).trans nF), ((HB.out.cell (World.block_lt_of_cell? w _ nH)).trans nH)⟩ (fun hHeld => ?_); refine with_tabW laganref04_short.tab12 laganref04_short.bits12 (fun HT_ HW_ => ?_)
   generalize w28.drew = w29 at HO_7 BK426 HB GG27 HQ30 nG rX nB fM fN fO hHeld ⊢
   refine pure_ (i := 0) (N := some 51) (v := ?_) (a' := ?_) #[true, false, false, false, false, false, false, false, false, false, false, false, false, false] rfl rfl (any_of HT_.out (by kernel_rfl)) (fun _ _ _ h => h) (Or.inl ⟨by rfl, ?_⟩) ?_ ?_
   rotate_left
   ·
    intro w'
    go_simp
    with_reducible rfl
   rotate_left
   ·
    simp only [Act.put, List.setIfInBounds_toArray, List.set_cons_zero, List.set_cons_succ, i64_w, i32_w]
    rfl
   refine pure_ (i := 1) (N := some 52) (v := ?_) (a' := ?_) #[true, true, false, false, false, false, false, false, false, false, false, false, false, false] rfl rfl (any_of HT_.out (by kernel_rfl)) (fun _ _ _ h => h) (Or.inl ⟨by rfl, ?_⟩) ?_ ?_
   rotate_left
   ·
    intro w'
    go_simp
    with_reducible rfl
   rotate_left
   ·
    simp only [Act.put, List.setIfInBounds_toArray, List.set_cons_zero, List.set_cons_succ, i64_w, i32_w]
    rfl
   refine pure_ (i := 3) (N := some 54) (v := ?_) (a' := ?_) #[true, true, false, true, false, false, false, false, false, false, false, false, false, false] rfl rfl (any_of HT_.out (by kernel_rfl)) (fun _ _ _ h => h) (Or.inl ⟨by rfl, ?_⟩) ?_ ?_
   rotate_left
   ·
    intro w'
    go_simp
    with_reducible rfl
   rotate_left
   ·
    simp only [Act.put, List.setIfInBounds_toArray, List.set_cons_zero, List.set_cons_succ, i64_w, i32_w]
    rfl
   refine pure_ (i := 4) (N := some 55) (v := ?_) (a' := ?_) #[true, true, false, true, true, false, false, false, false, false, false, false, false, false] rfl rfl (any_of HT_.out (by kernel_rfl)) (fun _ _ _ h => h) (Or.inl ⟨by rfl, ?_⟩) ?_ ?_
   rotate_left
   ·
    intro w'
    go_simp
    with_reducible rfl
   rotate_left
   ·
    simp only [Act.put, List.setIfInBounds_toArray, List.set_cons_zero, List.set_cons_succ, i64_w, i32_w]
    rfl
   refine pure_ (i := 5) (N := some 56) (v := ?_) (a' := ?_) #[true, true, false, true, true, true, false, false, false, false, false, false, false, false] rfl rfl (any_of HT_.out (by kernel_rfl)) (fun _ _ _ h => h) (Or.inl ⟨by rfl, ?_⟩) ?_ ?_
   rotate_left
   ·
    intro w'
    go_simp
    with_reducible rfl
   rotate_left
   ·
    simp only [Act.put, List.setIfInBounds_toArray, List.set_cons_zero, List.set_cons_succ, i64_w, i32_w]
    rfl
   refine pure_ (i := 9) (N := some 60) (v := ?_) (a' := ?_) #[true, true, false, true, true, true, false, false, false, true, false, false, false, false] rfl rfl (any_of HT_.out (by kernel_rfl)) (fun _ _ _ h => h) (Or.inl ⟨by rfl, ?_⟩) ?_ ?_
   rotate_left
   ·
    intro w'
    go_simp
    with_reducible rfl
   rotate_left
   ·
    simp only [Act.put, List.setIfInBounds_toArray, List.set_cons_zero, List.set_cons_succ, i64_w, i32_w]
    rfl
   refine take_ (i := 2) (N := some 53) (v := ?_) (a' := ?_) #[true, true, true, true, true, true, false, false, false, true, false, false, false, false] rfl rfl (take_ofW HT_.out HW_.out (by kernel_rfl)) (fun _ _ _ h => h) (Or.inl ⟨by rfl, ?_⟩) hHeld ?_ ?_
   rotate_left
   ·
    rintro w' ⟨s0, s1, s2, s3, s4, s5⟩
    go_simp
    with_reducible rfl
   rotate_left
   ·
    simp only [Act.put, List.setIfInBounds_toArray, List.set_cons_zero, List.set_cons_succ, i64_w, i32_w]
    rfl
   refine take_ (i := 6) (N := some 57) (v := ?_) (a' := ?_) #[true, true, true, true, true, true, true, false, false, true, false, false, false, false] rfl rfl (take_ofW HT_.out HW_.out (by kernel_rfl)) (fun _ _ _ h => h) (Or.inl ⟨by rfl, ?_⟩) hHeld ?_ ?_
   rotate_left
   ·
    rintro w' ⟨s0, s1, s2, s3, s4, s5⟩
    go_simp
    with_reducible rfl
   rotate_left
   ·
    simp only [Act.put, List.setIfInBounds_toArray, List.set_cons_zero, List.set_cons_succ, i64_w, i32_w]
    rfl
   refine pure_ (i := 7) (N := some 58) (v := ?_) (a' := ?_) #[true, true, true, true, true, true, true, true, false, true, false, false, false, false] rfl rfl (any_of HT_.out (by kernel_rfl)) (fun _ _ _ h => h) (Or.inl ⟨by rfl, ?_⟩) ?_ ?_
   rotate_left
   ·
    intro w'
    go_simp
    with_reducible rfl
   rotate_left
   ·
    simp only [Act.put, List.setIfInBounds_toArray, List.set_cons_zero, List.set_cons_succ, i64_w, i32_w]
    rfl
   refine take_ (i := 8) (N := some 59) (v := ?_) (a' := ?_) #[true, true, true, true, true, true, true, true, true, true, false, false, false, false] rfl rfl (take_ofW HT_.out HW_.out (by kernel_rfl)) (fun _ _ _ h => h) (Or.inl ⟨by rfl, ?_⟩) hHeld ?_ ?_
   rotate_left
   ·
    rintro w' ⟨s0, s1, s2, s3, s4, s5⟩
    go_simp
    with_reducible rfl
   rotate_left
   ·
    simp only [Act.put, List.setIfInBounds_toArray, List.set_cons_zero, List.set_cons_succ, i64_w, i32_w]
    rfl
   refine pure_ (i := 10) (N := some 61) (v := ?_) (a' := ?_) #[true, true, true, true, true, true, true, true, true, true, true, false, false, false] rfl rfl (any_of HT_.out (by kernel_rfl)) (fun _ _ _ h => h) (Or.inl ⟨by rfl, ?_⟩) ?_ ?_
   rotate_left
   ·
    intro w'
    go_simp
    with_reducible rfl
   rotate_left
   ·
    simp only [Act.put, List.setIfInBounds_toArray, List.set_cons_zero, List.set_cons_succ, i64_w, i32_w]
    rfl
   refine take_ (i := 11) (N := some 62) (v := ?_) (a' := ?_) #[true, true, true, true, true, true, true, true, true, true, true, true, false, false] rfl rfl (take_ofW HT_.out HW_.out (by kernel_rfl)) (fun _ _ _ h => h) (Or.inl ⟨by rfl, ?_⟩) hHeld ?_ ?_
   rotate_left
   ·
    rintro w' ⟨s0, s1, s2, s3, s4, s5⟩
    go_simp
    with_reducible rfl
   rotate_left
   ·
    simp only [Act.put, List.setIfInBounds_toArray, List.set_cons_zero, List.set_cons_succ, i64_w, i32_w]
    rfl
   refine pure_ (i := 12) (N := some 63) (v := ?_) (a' := ?_) #[true, true, true, true, true, true, true, true, true, true, true, true, true, false] rfl rfl (any_of HT_.out (by kernel_rfl)) (fun _ _ _ h => h) (Or.inl ⟨by rfl, ?_⟩) ?_ ?_
   rotate_left
   ·
    intro w'
    go_simp
    with_reducible rfl
   rotate_left
   ·
    simp only [Act.put, List.setIfInBounds_toArray, List.set_cons_zero, List.set_cons_succ, i64_w, i32_w]
    rfl
   refine last_ (i := 13) (N := none) #[true, true, true, true, true, true, true, true, true, true, true, true, true, true] rfl rfl (one_of HT_.out (by kernel_rfl)) (by decide) (fun K hK => ?_)
   refine skip_ (w1 := ?_) (by rfl) rfl ?_ ?_
   rotate_left
   ·
    go_simp
    rfl
   refine hK.out _ _ ?_
   clear hK K
   refine done_ (done_of HT_.out (by kernel_rfl)) ?_
   try go_wp2
   go_roundg k2
   case measure => have := HK1.out; have := HK2.out; omega
   case rel => exact ⟨(y438), (wrap64 (bP + 1)), (by first | rfl | (simp; done) | (simp [*]; done)), H', ⟨by have := HK1.out; have := HK2.out; omega⟩, ⟨by (with_reducible repeat (first | apply Kd.R_alloc | apply Kd.R_drewN | apply Kd.R_drew)); exact HQ30.out⟩, ⟨by (with_reducible repeat (first | refine blk_drewN ?_ _ | refine blk_drew ?_ | refine blk_alloc ?_ _)); refine blk_far ?_ (by have h_ := Kd.R_ne HO_7.out BK426.out (by decide); intro e_; exact h_ (by rw [e_]; rfl)) _; (with_reducible repeat (first | refine blk_drewN ?_ _ | refine blk_drew ?_ | refine blk_alloc ?_ _)); exact BK426.out⟩, ⟨by repeat (first | (with_reducible first | exact HB.out | apply below_alloc | apply pw_below_drewN | apply below_drew1 | refine below_set ?_ GB27.out | refine below_set ?_ GE426.out) | exact HB.out)⟩⟩
def laganref04_CheckRefuse.f (k : Nat) (aD : List Int) (aA : List (S50)) (aC : List (List Int)) (a1 : Int) (a2 : Int) (l3 : List Int) : Option (Bool × Int) := (laganref04_there.f k aD aA aC a1 a2).bind fun t444 => (if t444 = 0 then (if 0 ≤ a1 then (if a1 < (aC.length : Int) then ((laganref04_Has.f k (rd_L1 aC a1) a2).bind fun t446 => (if t446 = true then ((laganref04_Has.f k l3 a1).bind fun t447 => (if t447 = true then (some (false, 0)) else ((laganref04_short.f k aD aA aC l3 a2).bind fun t448 => (some (t448, 0))))) else (some (((l3.length : Int) == 0), 0)))) else (none)) else (none)) else (some (false, t444)))
set_option maxHeartbeats 8000000 in
set_option maxRecDepth 100000 in
theorem laganref04_CheckRefuse.calls (k : Nat) (aG : Option Addr) (aH : Nat) (aD : List Int) (aK : Option Addr) (aI : Nat) (aA : List (S50)) (aM : Option Addr) (aJ : Nat) (aC : List (List Int)) (a1 : Int) (a2 : Int) (A3 : Option Addr) (c3 : Nat) (l3 : List Int) (r1 : Bool) (r2 : Int) (w : World) (bC : Kd.C (Kd.int .i64) w aG aD.length aD) (bD : aD.length ≤ aH) (bE : Kd.C k50 w aK aA.length aA) (bF : aA.length ≤ aI) (bG : Kd.C (Kd.slice 3 (Kd.int .i64)) w aM aC.length aC) (bH : aC.length ≤ aJ) (hr3 : Kd.C (Kd.int .i64) w A3 l3.length l3) (hc3 : l3.length ≤ c3) (h : laganref04_CheckRefuse.f k aD aA aC a1 a2 l3 = some (r1, r2)) :
  Calls Try.prog 35 #[.agg #[.slice aG aD.length aH, .slice aK aA.length aI, .slice aM aC.length aJ], .int .i64 a1, .int .i64 a2, .slice A3 l3.length c3] w fun e w' => e = .returned (.tuple #[.bool r1, .int .i64 r2]) ∧ Below w.heap.size w w' := by
 have hu26 := Try.underlying26
 have bA := Aside0.mk bC
 have bK := Aside0.mk bD
 clear bC bD
 have aZ := Aside0.mk bE
 have bL := Aside0.mk bF
 clear bE bF
 have aX := Aside0.mk bG
 have bM := Aside0.mk bH
 clear bG bH
 have HR3 := Aside0.mk hr3
 have HC3 := Aside0.mk hc3
 clear hr3 hc3
 have HB := Aside0.mk (Below.refl w.heap.size w)
 have H : ((laganref04_there.f k aD aA aC a1 a2).bind fun t444 => (if t444 = 0 then (if 0 ≤ a1 then (if a1 < (aC.length : Int) then ((laganref04_Has.f k (rd_L1 aC a1) a2).bind fun t446 => (if t446 = true then ((laganref04_Has.f k l3 a1).bind fun t447 => (if t447 = true then (some (false, 0)) else ((laganref04_short.f k aD aA aC l3 a2).bind fun t448 => (some (t448, 0))))) else (some (((l3.length : Int) == 0), 0)))) else (none)) else (none)) else (some (false, t444)))) = some (r1, r2) := h
 clear h
 replace H := Option.bind_eq_some_iff.mp H
 obtain ⟨t444, A50, H⟩ := H
 replace H : (if t444 = 0 then (if 0 ≤ a1 then (if a1 < (aC.length : Int) then ((laganref04_Has.f k (rd_L1 aC a1) a2).bind fun t446 => (if t446 = true then ((laganref04_Has.f k l3 a1).bind fun t447 => (if t447 = true then (some (false, 0)) else ((laganref04_short.f k aD aA aC l3 a2).bind fun t448 => (some (t448, 0))))) else (some (((l3.length : Int) == 0), 0)))) else (none)) else (none)) else (some (false, t444))) = some (r1, r2) := H
 have A5 := Aside0.mk A50
 clear A50
 by_cases c6 : t444 = 0
 rotate_left
 ·
  rw [if_neg c6] at H
  have c6b0 : (t444 == 0) = false := beq_eq_false_iff_ne.mpr c6
  have c6b1 : (t444 != 0) = true := bne_iff_ne.mpr c6
  simp only [Option.some.injEq, Prod.mk.injEq] at H
  obtain ⟨rfl, rfl⟩ := H
  go_enter Try.func35, Try.ntmps35
  go_wp2_with (first | ((with_reducible refine gate_dst (N := 4) rfl ?_); refine box_event ?hg (N := 4) ?hd (cs := #[.slice aG aD.length aH, .slice aK aA.length aI, .slice aM aC.length aJ]) (t := 26) ?hr ?_; (case hd => rfl); (case hg => rfl); (case hr => first | (go_simp; done) | (go_simp; rfl)); intro gb443 hg w27 hbox hb; have n0_ := Aside0.mk (below_step (by repeat (first | (with_reducible first | exact HB.out | apply below_alloc | apply pw_below_drewN | apply below_drew1) | exact HB.out)) hb); have n1_ := Aside0.mk (hbox); have n2_ := Aside0.mk ((by rw [hg]; exact (below_size (by repeat (first | (with_reducible first | exact HB.out | apply below_alloc | apply pw_below_drewN | apply below_drew1) | exact HB.out))) : w.heap.size ≤ gb443)); have n3_ := Aside0.mk ((by rw [hg]; exact (below_size (by repeat (first | (with_reducible first | exact HB.out | apply below_alloc | apply pw_below_drewN | apply below_drew1) | exact HB.out))) : w.heap.size ≤ gb443)); clear HB; have HB := n0_; have BK443 := n1_; have GW443 := n2_; have GE443 := n3_; clear n0_ n1_ n2_ n3_; clear hb hbox hg; have rH : w27.cell? ⟨gb443, 0, none⟩ = some (.slice aG aD.length aH) := (blk_cell BK443.out 0).trans rfl; have rI : w27.cell? ⟨gb443, 1, none⟩ = some (.slice aK aA.length aI) := (blk_cell BK443.out 1).trans rfl; have rJ : w27.cell? ⟨gb443, 2, none⟩ = some (.slice aM aC.length aJ) := (blk_cell BK443.out 2).trans rfl; have rK := blk_frozen BK443.out 0; have rL := blk_frozen BK443.out 1; have rM := blk_frozen BK443.out 2) | ((with_reducible refine gate_callee (f := 72) rfl ?_); refine goesL_ (some 14) rfl rfl Try.func72 (by kernel_rfl) rfl #[.agg #[.slice aG aD.length aH, .slice aK aA.length aI, .slice aM aC.length aJ], .int .i64 a1, .int .i64 a2] rfl (by (try simp only [List.map_toArray, List.map_cons, List.map_nil]); first | done | rfl | (simp only [List.length_drop, List.length_take]; rfl)) ?_; (with_reducible refine (laganref04_there.calls k _ _ aD _ _ aA _ _ aC a1 a2 t444 _ ?side1 ?side2 ?side3 ?side4 ?side5 ?side6 A5.out).mono ?_); (case side1 => repeat (first | exact (Kd.C_below bA.out HB.out) | (with_reducible refine Kd.C_alloc ?_ _) | (with_reducible refine Kd.C_drewN ?_ _) | (with_reducible refine Kd.C_drew ?_))); (case side2 => exact bK.out); (case side3 => repeat (first | exact (Kd.C_below aZ.out HB.out) | (with_reducible refine Kd.C_alloc ?_ _) | (with_reducible refine Kd.C_drewN ?_ _) | (with_reducible refine Kd.C_drew ?_))); (case side4 => exact bL.out); (case side5 => repeat (first | exact (Kd.C_below aX.out HB.out) | (with_reducible refine Kd.C_alloc ?_ _) | (with_reducible refine Kd.C_drewN ?_ _) | (with_reducible refine Kd.C_drew ?_))); (case side6 => exact bM.out); rintro e w29 ⟨rfl, hb⟩; refine ⟨_, rfl, ?_⟩; have n0_ := Aside0.mk (blk_below (g := gb443) (o := .cells #[.slice aG aD.length aH, .slice aK aA.length aI, .slice aM aC.length aJ] 26 (0, 0)) (by (with_reducible repeat (first | refine blk_drewN ?_ _ | refine blk_drew ?_ | refine blk_alloc ?_ _)); exact BK443.out) hb); have n1_ := Aside0.mk (below_step (by repeat (first | (with_reducible first | exact HB.out | apply below_alloc | apply pw_below_drewN | apply below_drew1 | refine below_set ?_ GE443.out) | exact HB.out)) hb); clear BK443; clear HB; have BK443 := n0_; have HB := n1_; clear n0_ n1_; (try clear hb); (try clear hb2); (try clear hk); (try clear hi)))
  go_ret2
  exact ⟨by first | rfl | (simp [errW_none, errW_some] <;> rfl) | (simp [*, errW_none, errW_some] <;> rfl), by repeat (first | (with_reducible first | exact HB.out | apply below_alloc | apply pw_below_drewN | apply below_drew1 | refine below_set ?_ GE443.out) | exact HB.out)⟩
 rw [if_pos c6] at H
 have c6b0 : (t444 == 0) = true := beq_iff_eq.mpr c6
 have c6b1 : (t444 != 0) = false := bne_eq_false_iff_eq.mpr c6
 clear c6
 by_cases c7 : 0 ≤ a1
 rotate_left
 ·
  rw [if_neg c7] at H
  exact absurd H (by simp)
 rw [if_pos c7] at H
 have c7b0 : decide (0 ≤ a1) = true := decide_eq_true c7
 clear c7
 by_cases c8 : a1 < (aC.length : Int)
 rotate_left
 ·
  rw [if_neg c8] at H
  exact absurd H (by simp)
 rw [if_pos c8] at H
 have c8b0 : decide (a1 < (aC.length : Int)) = true := decide_eq_true c8
 clear c8
 replace H := Option.bind_eq_some_iff.mp H
 obtain ⟨t446, A90, H⟩ := H
 replace H : (if t446 = true then ((laganref04_Has.f k l3 a1).bind fun t447 => (if t447 = true then (some (false, 0)) else ((laganref04_short.f k aD aA aC l3 a2).bind fun t448 => (some (t448, 0))))) else (some (((l3.length : Int) == 0), 0))) = some (r1, r2) := H
 have A9 := Aside0.mk A90
 clear A90
 by_cases c10 : t446 = true
 rotate_left
 ·
  replace c10 := Bool.eq_false_iff.mpr c10
  subst c10
  have H1 : (some (((l3.length : Int) == 0), 0)) = some (r1, r2) := by rw [if_neg (show ¬ (false = true) by decide)] at H; exact H
  clear H
  have H := H1
  clear H1
  simp only [Option.some.injEq, Prod.mk.injEq] at H
  obtain ⟨rfl, rfl⟩ := H
  go_enter Try.func35, Try.ntmps35
  go_wp2_with (first | ((with_reducible refine gate_dst (N := 4) rfl ?_); refine box_event ?hg (N := 4) ?hd (cs := #[.slice aG aD.length aH, .slice aK aA.length aI, .slice aM aC.length aJ]) (t := 26) ?hr ?_; (case hd => rfl); (case hg => rfl); (case hr => first | (go_simp; done) | (go_simp; rfl)); intro gb443 hg w23 hbox hb; have n0_ := Aside0.mk (below_step (by repeat (first | (with_reducible first | exact HB.out | apply below_alloc | apply pw_below_drewN | apply below_drew1) | exact HB.out)) hb); have n1_ := Aside0.mk (hbox); have n2_ := Aside0.mk ((by rw [hg]; exact (below_size (by repeat (first | (with_reducible first | exact HB.out | apply below_alloc | apply pw_below_drewN | apply below_drew1) | exact HB.out))) : w.heap.size ≤ gb443)); have n3_ := Aside0.mk ((by rw [hg]; exact (below_size (by repeat (first | (with_reducible first | exact HB.out | apply below_alloc | apply pw_below_drewN | apply below_drew1) | exact HB.out))) : w.heap.size ≤ gb443)); clear HB; have HB := n0_; have BK443 := n1_; have GW443 := n2_; have GE443 := n3_; clear n0_ n1_ n2_ n3_; clear hb hbox hg; have mV : w23.cell? ⟨gb443, 0, none⟩ = some (.slice aG aD.length aH) := (blk_cell BK443.out 0).trans rfl; have mW : w23.cell? ⟨gb443, 1, none⟩ = some (.slice aK aA.length aI) := (blk_cell BK443.out 1).trans rfl; have mX : w23.cell? ⟨gb443, 2, none⟩ = some (.slice aM aC.length aJ) := (blk_cell BK443.out 2).trans rfl; have mY := blk_frozen BK443.out 0; have mZ := blk_frozen BK443.out 1; have nA := blk_frozen BK443.out 2) | ((with_reducible refine gate_callee (f := 72) rfl ?_); refine goesL_ (some 14) rfl rfl Try.func72 (by kernel_rfl) rfl #[.agg #[.slice aG aD.length aH, .slice aK aA.length aI, .slice aM aC.length aJ], .int .i64 a1, .int .i64 a2] rfl (by (try simp only [List.map_toArray, List.map_cons, List.map_nil]); first | done | rfl | (simp only [List.length_drop, List.length_take]; rfl)) ?_; (with_reducible refine (laganref04_there.calls k _ _ aD _ _ aA _ _ aC a1 a2 t444 _ ?side1 ?side2 ?side3 ?side4 ?side5 ?side6 A5.out).mono ?_); (case side1 => repeat (first | exact (Kd.C_below bA.out HB.out) | (with_reducible refine Kd.C_alloc ?_ _) | (with_reducible refine Kd.C_drewN ?_ _) | (with_reducible refine Kd.C_drew ?_))); (case side2 => exact bK.out); (case side3 => repeat (first | exact (Kd.C_below aZ.out HB.out) | (with_reducible refine Kd.C_alloc ?_ _) | (with_reducible refine Kd.C_drewN ?_ _) | (with_reducible refine Kd.C_drew ?_))); (case side4 => exact bL.out); (case side5 => repeat (first | exact (Kd.C_below aX.out HB.out) | (with_reducible refine Kd.C_alloc ?_ _) | (with_reducible refine Kd.C_drewN ?_ _) | (with_reducible refine Kd.C_drew ?_))); (case side6 => exact bM.out); rintro e w25 ⟨rfl, hb⟩; refine ⟨_, rfl, ?_⟩; have n0_ := Aside0.mk (blk_below (g := gb443) (o := .cells #[.slice aG aD.length aH, .slice aK aA.length aI, .slice aM aC.length aJ] 26 (0, 0)) (by (with_reducible repeat (first | refine blk_drewN ?_ _ | refine blk_drew ?_ | refine blk_alloc ?_ _)); exact BK443.out) hb); have n1_ := Aside0.mk (below_step (by repeat (first | (with_reducible first | exact HB.out | apply below_alloc | apply pw_below_drewN | apply below_drew1 | refine below_set ?_ GE443.out) | exact HB.out)) hb); clear BK443; clear HB; have BK443 := n0_; have HB := n1_; clear n0_ n1_; (try clear hb); (try clear hb2); (try clear hk); (try clear hi); have jA : w25.cell? ⟨gb443, 0, none⟩ = some (.slice aG aD.length aH) := (blk_cell BK443.out 0).trans rfl; have jB : w25.cell? ⟨gb443, 1, none⟩ = some (.slice aK aA.length aI) := (blk_cell BK443.out 1).trans rfl; have jC : w25.cell? ⟨gb443, 2, none⟩ = some (.slice aM aC.length aJ) := (blk_cell BK443.out 2).trans rfl; have jG := blk_frozen BK443.out 0; have jH := blk_frozen BK443.out 1; have jI := blk_frozen BK443.out 2; have p445 : 0 ≤ (a1 : Int) := of_decide_eq_true (by assumption); have q445 : a1 < (aC.length : Int) := of_decide_eq_true (by assumption); obtain ⟨ad445, gX, gY, e445, dD, eE, eF⟩ := at_L1 aX.out a1 p445 q445; cases e445; replace dD := (HB.out.cell (World.block_lt_of_cell? w _ dD)).trans dD; have gZ := Aside0.mk eF; have hI := Aside0.mk eE; clear eF eE; replace p445 := eq_true p445; replace q445 := eq_true q445) | ((with_reducible refine gate_callee (f := 33) rfl ?_); refine goesL_ (some 24) rfl rfl Try.func33 (by kernel_rfl) rfl #[.slice gX (rd_L1 aC a1).length gY, .int .i64 a2] rfl (by (try simp only [List.map_toArray, List.map_cons, List.map_nil]); first | done | rfl | (simp only [List.length_drop, List.length_take]; rfl)) ?_; (with_reducible refine (laganref04_Has.calls k _ _ (rd_L1 aC a1) a2 false _ ?side1 ?side2 A9.out).mono ?_); (case side1 => repeat (first | exact (Kd.C_below gZ.out HB.out) | (with_reducible refine Kd.C_alloc ?_ _) | (with_reducible refine Kd.C_drewN ?_ _) | (with_reducible refine Kd.C_drew ?_))); (case side2 => exact hI.out); rintro e w' ⟨rfl, ⟨nd, rfl⟩⟩; refine ⟨_, rfl, ?_⟩))
  go_ret2
  exact ⟨by first | rfl | (simp [errW_none, errW_some] <;> rfl) | (simp [*, errW_none, errW_some] <;> rfl), by repeat (first | (with_reducible first | exact HB.out | apply below_alloc | apply pw_below_drewN | apply below_drew1 | refine below_set ?_ GE443.out) | exact HB.out)⟩
 subst c10
 have H1 : ((laganref04_Has.f k l3 a1).bind fun t447 => (if t447 = true then (some (false, 0)) else ((laganref04_short.f k aD aA aC l3 a2).bind fun t448 => (some (t448, 0))))) = some (r1, r2) := by rw [if_pos rfl] at H; exact H
 clear H
 have H := H1
 clear H1
 replace H := Option.bind_eq_some_iff.mp H
 obtain ⟨t447, A110, H⟩ := H
 replace H : (if t447 = true then (some (false, 0)) else ((laganref04_short.f k aD aA aC l3 a2).bind fun t448 => (some (t448, 0)))) = some (r1, r2) := H
 have A11 := Aside0.mk A110
 clear A110
 by_cases c12 : t447 = true
 ·
  subst c12
  have H1 : (some (false, 0)) = some (r1, r2) := by rw [if_pos rfl] at H; exact H
  clear H
  have H := H1
  clear H1
  simp only [Option.some.injEq, Prod.mk.injEq] at H
  obtain ⟨rfl, rfl⟩ := H
  go_enter Try.func35, Try.ntmps35
  go_wp2_with (first | ((with_reducible refine gate_dst (N := 4) rfl ?_); refine box_event ?hg (N := 4) ?hd (cs := #[.slice aG aD.length aH, .slice aK aA.length aI, .slice aM aC.length aJ]) (t := 26) ?hr ?_; (case hd => rfl); (case hg => rfl); (case hr => first | (go_simp; done) | (go_simp; rfl)); intro gb443 hg w13 hbox hb; have n0_ := Aside0.mk (below_step (by repeat (first | (with_reducible first | exact HB.out | apply below_alloc | apply pw_below_drewN | apply below_drew1) | exact HB.out)) hb); have n1_ := Aside0.mk (hbox); have n2_ := Aside0.mk ((by rw [hg]; exact (below_size (by repeat (first | (with_reducible first | exact HB.out | apply below_alloc | apply pw_below_drewN | apply below_drew1) | exact HB.out))) : w.heap.size ≤ gb443)); have n3_ := Aside0.mk ((by rw [hg]; exact (below_size (by repeat (first | (with_reducible first | exact HB.out | apply below_alloc | apply pw_below_drewN | apply below_drew1) | exact HB.out))) : w.heap.size ≤ gb443)); clear HB; have HB := n0_; have BK443 := n1_; have GW443 := n2_; have GE443 := n3_; clear n0_ n1_ n2_ n3_; clear hb hbox hg; have mP : w13.cell? ⟨gb443, 0, none⟩ = some (.slice aG aD.length aH) := (blk_cell BK443.out 0).trans rfl; have mQ : w13.cell? ⟨gb443, 1, none⟩ = some (.slice aK aA.length aI) := (blk_cell BK443.out 1).trans rfl; have mR : w13.cell? ⟨gb443, 2, none⟩ = some (.slice aM aC.length aJ) := (blk_cell BK443.out 2).trans rfl; have mS := blk_frozen BK443.out 0; have mT := blk_frozen BK443.out 1; have mU := blk_frozen BK443.out 2) | ((with_reducible refine gate_callee (f := 72) rfl ?_); refine goesL_ (some 14) rfl rfl Try.func72 (by kernel_rfl) rfl #[.agg #[.slice aG aD.length aH, .slice aK aA.length aI, .slice aM aC.length aJ], .int .i64 a1, .int .i64 a2] rfl (by (try simp only [List.map_toArray, List.map_cons, List.map_nil]); first | done | rfl | (simp only [List.length_drop, List.length_take]; rfl)) ?_; (with_reducible refine (laganref04_there.calls k _ _ aD _ _ aA _ _ aC a1 a2 t444 _ ?side1 ?side2 ?side3 ?side4 ?side5 ?side6 A5.out).mono ?_); (case side1 => repeat (first | exact (Kd.C_below bA.out HB.out) | (with_reducible refine Kd.C_alloc ?_ _) | (with_reducible refine Kd.C_drewN ?_ _) | (with_reducible refine Kd.C_drew ?_))); (case side2 => exact bK.out); (case side3 => repeat (first | exact (Kd.C_below aZ.out HB.out) | (with_reducible refine Kd.C_alloc ?_ _) | (with_reducible refine Kd.C_drewN ?_ _) | (with_reducible refine Kd.C_drew ?_))); (case side4 => exact bL.out); (case side5 => repeat (first | exact (Kd.C_below aX.out HB.out) | (with_reducible refine Kd.C_alloc ?_ _) | (with_reducible refine Kd.C_drewN ?_ _) | (with_reducible refine Kd.C_drew ?_))); (case side6 => exact bM.out); rintro e w15 ⟨rfl, hb⟩; refine ⟨_, rfl, ?_⟩; have n0_ := Aside0.mk (blk_below (g := gb443) (o := .cells #[.slice aG aD.length aH, .slice aK aA.length aI, .slice aM aC.length aJ] 26 (0, 0)) (by (with_reducible repeat (first | refine blk_drewN ?_ _ | refine blk_drew ?_ | refine blk_alloc ?_ _)); exact BK443.out) hb); have n1_ := Aside0.mk (below_step (by repeat (first | (with_reducible first | exact HB.out | apply below_alloc | apply pw_below_drewN | apply below_drew1 | refine below_set ?_ GE443.out) | exact HB.out)) hb); clear BK443; clear HB; have BK443 := n0_; have HB := n1_; clear n0_ n1_; (try clear hb); (try clear hb2); (try clear hk); (try clear hi); have rN : w15.cell? ⟨gb443, 0, none⟩ = some (.slice aG aD.length aH) := (blk_cell BK443.out 0).trans rfl; have rO : w15.cell? ⟨gb443, 1, none⟩ = some (.slice aK aA.length aI) := (blk_cell BK443.out 1).trans rfl; have rP : w15.cell? ⟨gb443, 2, none⟩ = some (.slice aM aC.length aJ) := (blk_cell BK443.out 2).trans rfl; have rQ := blk_frozen BK443.out 0; have rR := blk_frozen BK443.out 1; have rS := blk_frozen BK443.out 2; have p445 : 0 ≤ (a1 : Int) := of_decide_eq_true (by assumption); have q445 : a1 < (aC.length : Int) := of_decide_eq_true (by assumption); obtain ⟨ad445, gX, gY, e445, dD, eE, eF⟩ := at_L1 aX.out a1 p445 q445; cases e445; replace dD := (HB.out.cell (World.block_lt_of_cell? w _ dD)).trans dD; have gZ := Aside0.mk eF; have hI := Aside0.mk eE; clear eF eE; replace p445 := eq_true p445; replace q445 := eq_true q445) | ((with_reducible refine gate_callee (f := 33) rfl ?_); refine goesL_ (some 24) rfl rfl Try.func33 (by kernel_rfl) rfl #[.slice gX (rd_L1 aC a1).length gY, .int .i64 a2] rfl (by (try simp only [List.map_toArray, List.map_cons, List.map_nil]); first | done | rfl | (simp only [List.length_drop, List.length_take]; rfl)) ?_; (with_reducible refine (laganref04_Has.calls k _ _ (rd_L1 aC a1) a2 true _ ?side1 ?side2 A9.out).mono ?_); (case side1 => repeat (first | exact (Kd.C_below gZ.out HB.out) | (with_reducible refine Kd.C_alloc ?_ _) | (with_reducible refine Kd.C_drewN ?_ _) | (with_reducible refine Kd.C_drew ?_))); (case side2 => exact hI.out); rintro e w' ⟨rfl, ⟨nd, rfl⟩⟩; refine ⟨_, rfl, ?_⟩) | ((with_reducible refine gate_callee (f := 33) rfl ?_); refine goesL_ (some 31) rfl rfl Try.func33 (by kernel_rfl) rfl #[.slice A3 l3.length c3, .int .i64 a1] rfl (by (try simp only [List.map_toArray, List.map_cons, List.map_nil]); first | done | rfl | (simp only [List.length_drop, List.length_take]; rfl)) ?_; (with_reducible refine (laganref04_Has.calls k _ _ l3 a1 true _ ?side1 ?side2 A11.out).mono ?_); (case side1 => repeat (first | exact (Kd.C_below HR3.out (by repeat (first | (with_reducible first | exact HB.out | apply below_alloc | apply pw_below_drewN | apply below_drew1 | refine below_set ?_ GE443.out) | exact HB.out))) | (with_reducible refine Kd.C_alloc ?_ _) | (with_reducible refine Kd.C_drewN ?_ _) | (with_reducible refine Kd.C_drew ?_))); (case side2 => exact HC3.out); rintro e w' ⟨rfl, ⟨nd, rfl⟩⟩; refine ⟨_, rfl, ?_⟩))
  go_ret2
  exact ⟨by first | rfl | (simp [errW_none, errW_some] <;> rfl) | (simp [*, errW_none, errW_some] <;> rfl), by repeat (first | (with_reducible first | exact HB.out | apply below_alloc | apply pw_below_drewN | apply below_drew1 | refine below_set ?_ GE443.out) | exact HB.out)⟩
 replace c12 := Bool.eq_false_iff.mpr c12
 subst c12
 have H1 : ((laganref04_short.f k aD aA aC l3 a2).bind fun t448 => (some (t448, 0))) = some (r1, r2) := by rw [if_neg (show ¬ (false = true) by decide)] at H; exact H
 clear H
 have H := H1
 clear H1
 replace H := Option.bind_eq_some_iff.mp H
 obtain ⟨t448, A170, H⟩ := H
 replace H : (some (t448, 0)) = some (r1, r2) := H
 have A17 := Aside0.mk A170
 clear A170
 simp only [Option.some.injEq, Prod.mk.injEq] at H
 obtain ⟨rfl, rfl⟩ := H
 go_enter Try.func35, Try.ntmps35
 go_wp2_with (first | ((with_reducible refine gate_dst (N := 4) rfl ?_); refine box_event ?hg (N := 4) ?hd (cs := #[.slice aG aD.length aH, .slice aK aA.length aI, .slice aM aC.length aJ]) (t := 26) ?hr ?_; (case hd => rfl); (case hg => rfl); (case hr => first | (go_simp; done) | (go_simp; rfl)); intro gb443 hg w18 hbox hb; have n0_ := Aside0.mk (below_step (by repeat (first | (with_reducible first | exact HB.out | apply below_alloc | apply pw_below_drewN | apply below_drew1) | exact HB.out)) hb); have n1_ := Aside0.mk (hbox); have n2_ := Aside0.mk ((by rw [hg]; exact (below_size (by repeat (first | (with_reducible first | exact HB.out | apply below_alloc | apply pw_below_drewN | apply below_drew1) | exact HB.out))) : w.heap.size ≤ gb443)); have n3_ := Aside0.mk ((by rw [hg]; exact (below_size (by repeat (first | (with_reducible first | exact HB.out | apply below_alloc | apply pw_below_drewN | apply below_drew1) | exact HB.out))) : w.heap.size ≤ gb443)); clear HB; have HB := n0_; have BK443 := n1_; have GW443 := n2_; have GE443 := n3_; clear n0_ n1_ n2_ n3_; clear hb hbox hg; have fG : w18.cell? ⟨gb443, 0, none⟩ = some (.slice aG aD.length aH) := (blk_cell BK443.out 0).trans rfl; have fH : w18.cell? ⟨gb443, 1, none⟩ = some (.slice aK aA.length aI) := (blk_cell BK443.out 1).trans rfl; have fI : w18.cell? ⟨gb443, 2, none⟩ = some (.slice aM aC.length aJ) := (blk_cell BK443.out 2).trans rfl; have fJ := blk_frozen BK443.out 0; have fK := blk_frozen BK443.out 1; have fL := blk_frozen BK443.out 2) | ((with_reducible refine gate_callee (f := 72) rfl ?_); refine goesL_ (some 14) rfl rfl Try.func72 (by kernel_rfl) rfl #[.agg #[.slice aG aD.length aH, .slice aK aA.length aI, .slice aM aC.length aJ], .int .i64 a1, .int .i64 a2] rfl (by (try simp only [List.map_toArray, List.map_cons, List.map_nil]); first | done | rfl | (simp only [List.length_drop, List.length_take]; rfl)) ?_; (with_reducible refine (laganref04_there.calls k _ _ aD _ _ aA _ _ aC a1 a2 t444 _ ?side1 ?side2 ?side3 ?side4 ?side5 ?side6 A5.out).mono ?_); (case side1 => repeat (first | exact (Kd.C_below bA.out HB.out) | (with_reducible refine Kd.C_alloc ?_ _) | (with_reducible refine Kd.C_drewN ?_ _) | (with_reducible refine Kd.C_drew ?_))); (case side2 => exact bK.out); (case side3 => repeat (first | exact (Kd.C_below aZ.out HB.out) | (with_reducible refine Kd.C_alloc ?_ _) | (with_reducible refine Kd.C_drewN ?_ _) | (with_reducible refine Kd.C_drew ?_))); (case side4 => exact bL.out); (case side5 => repeat (first | exact (Kd.C_below aX.out HB.out) | (with_reducible refine Kd.C_alloc ?_ _) | (with_reducible refine Kd.C_drewN ?_ _) | (with_reducible refine Kd.C_drew ?_))); (case side6 => exact bM.out); rintro e w20 ⟨rfl, hb⟩; refine ⟨_, rfl, ?_⟩; have n0_ := Aside0.mk (blk_below (g := gb443) (o := .cells #[.slice aG aD.length aH, .slice aK aA.length aI, .slice aM aC.length aJ] 26 (0, 0)) (by (with_reducible repeat (first | refine blk_drewN ?_ _ | refine blk_drew ?_ | refine blk_alloc ?_ _)); exact BK443.out) hb); have n1_ := Aside0.mk (below_step (by repeat (first | (with_reducible first | exact HB.out | apply below_alloc | apply pw_below_drewN | apply below_drew1 | refine below_set ?_ GE443.out) | exact HB.out)) hb); clear BK443; clear HB; have BK443 := n0_; have HB := n1_; clear n0_ n1_; (try clear hb); (try clear hb2); (try clear hk); (try clear hi); have fA : w20.cell? ⟨gb443, 0, none⟩ = some (.slice aG aD.length aH) := (blk_cell BK443.out 0).trans rfl; have fB : w20.cell? ⟨gb443, 1, none⟩ = some (.slice aK aA.length aI) := (blk_cell BK443.out 1).trans rfl; have fC : w20.cell? ⟨gb443, 2, none⟩ = some (.slice aM aC.length aJ) := (blk_cell BK443.out 2).trans rfl; have fD := blk_frozen BK443.out 0; have fE := blk_frozen BK443.out 1; have fF := blk_frozen BK443.out 2; have p445 : 0 ≤ (a1 : Int) := of_decide_eq_true (by assumption); have q445 : a1 < (aC.length : Int) := of_decide_eq_true (by assumption); obtain ⟨ad445, gX, gY, e445, dD, eE, eF⟩ := at_L1 aX.out a1 p445 q445; cases e445; replace dD := (HB.out.cell (World.block_lt_of_cell? w _ dD)).trans dD; have gZ := Aside0.mk eF; have hI := Aside0.mk eE; clear eF eE; replace p445 := eq_true p445; replace q445 := eq_true q445) | ((with_reducible refine gate_callee (f := 33) rfl ?_); refine goesL_ (some 24) rfl rfl Try.func33 (by kernel_rfl) rfl #[.slice gX (rd_L1 aC a1).length gY, .int .i64 a2] rfl (by (try simp only [List.map_toArray, List.map_cons, List.map_nil]); first | done | rfl | (simp only [List.length_drop, List.length_take]; rfl)) ?_; (with_reducible refine (laganref04_Has.calls k _ _ (rd_L1 aC a1) a2 true _ ?side1 ?side2 A9.out).mono ?_); (case side1 => repeat (first | exact (Kd.C_below gZ.out HB.out) | (with_reducible refine Kd.C_alloc ?_ _) | (with_reducible refine Kd.C_drewN ?_ _) | (with_reducible refine Kd.C_drew ?_))); (case side2 => exact hI.out); rintro e w' ⟨rfl, ⟨nd, rfl⟩⟩; refine ⟨_, rfl, ?_⟩) | ((with_reducible refine gate_callee (f := 33) rfl ?_); refine goesL_ (some 31) rfl rfl Try.func33 (by kernel_rfl) rfl #[.slice A3 l3.length c3, .int .i64 a1] rfl (by (try simp only [List.map_toArray, List.map_cons, List.map_nil]); first | done | rfl | (simp only [List.length_drop, List.length_take]; rfl)) ?_; (with_reducible refine (laganref04_Has.calls k _ _ l3 a1 false _ ?side1 ?side2 A11.out).mono ?_); (case side1 => repeat (first | exact (Kd.C_below HR3.out (by repeat (first | (with_reducible first | exact HB.out | apply below_alloc | apply pw_below_drewN | apply below_drew1 | refine below_set ?_ GE443.out) | exact HB.out))) | (with_reducible refine Kd.C_alloc ?_ _) | (with_reducible refine Kd.C_drewN ?_ _) | (with_reducible refine Kd.C_drew ?_))); (case side2 => exact HC3.out); rintro e w' ⟨rfl, ⟨nd, rfl⟩⟩; refine ⟨_, rfl, ?_⟩) | (go_at_call 73; (with_reducible refine (laganref04_short.calls k _ _ aD _ _ aA _ _ aC _ _ l3 a2 t448 _ ?side1 ?side2 ?side3 ?side4 ?side5 ?side6 ?side7 ?side8 A17.out).mono ?_); (case side1 => repeat (first | exact (Kd.C_below bA.out (by repeat (first | (with_reducible first | exact HB.out | apply below_alloc | apply pw_below_drewN | apply below_drew1 | refine below_set ?_ GE443.out) | exact HB.out))) | (with_reducible refine Kd.C_alloc ?_ _) | (with_reducible refine Kd.C_drewN ?_ _) | (with_reducible refine Kd.C_drew ?_))); (case side2 => exact bK.out); (case side3 => repeat (first | exact (Kd.C_below aZ.out (by repeat (first | (with_reducible first | exact HB.out | apply below_alloc | apply pw_below_drewN | apply below_drew1 | refine below_set ?_ GE443.out) | exact HB.out))) | (with_reducible refine Kd.C_alloc ?_ _) | (with_reducible refine Kd.C_drewN ?_ _) | (with_reducible refine Kd.C_drew ?_))); (case side4 => exact bL.out); (case side5 => repeat (first | exact (Kd.C_below aX.out (by repeat (first | (with_reducible first | exact HB.out | apply below_alloc | apply pw_below_drewN | apply below_drew1 | refine below_set ?_ GE443.out) | exact HB.out))) | (with_reducible refine Kd.C_alloc ?_ _) | (with_reducible refine Kd.C_drewN ?_ _) | (with_reducible refine Kd.C_drew ?_))); (case side6 => exact bM.out); (case side7 => repeat (first | exact (Kd.C_below HR3.out (by repeat (first | (with_reducible first | exact HB.out | apply below_alloc | apply pw_below_drewN | apply below_drew1 | refine below_set ?_ GE443.out) | exact HB.out))) | (with_reducible refine Kd.C_alloc ?_ _) | (with_reducible refine Kd.C_drewN ?_ _) | (with_reducible refine Kd.C_drew ?_))); (case side8 => exact HC3.out); rintro e w22 ⟨rfl, hb⟩; have n0_ := Aside0.mk (blk_below (g := gb443) (o := .cells #[.slice aG aD.length aH, .slice aK aA.length aI, .slice (some ad445) aC.length aJ] 26 (0, 0)) (by (with_reducible repeat (first | refine blk_drewN ?_ _ | refine blk_drew ?_ | refine blk_alloc ?_ _)); exact BK443.out) hb); have n1_ := Aside0.mk (below_step (by repeat (first | (with_reducible first | exact HB.out | apply below_alloc | apply pw_below_drewN | apply below_drew1 | refine below_set ?_ GE443.out) | exact HB.out)) hb); clear BK443; clear HB; have BK443 := n0_; have HB := n1_; clear n0_ n1_; (try clear hb); (try clear hb2); (try clear hk); (try clear hi)))
 go_ret2
 exact ⟨by first | rfl | (simp [errW_none, errW_some] <;> rfl) | (simp [*, errW_none, errW_some] <;> rfl), by repeat (first | (with_reducible first | exact HB.out | apply below_alloc | apply pw_below_drewN | apply below_drew1 | refine below_set ?_ GE443.out) | exact HB.out)⟩
end Go.Proofs.Ytkmmihadcbfkoaa.PM
end

section
namespace Go.Proofs.Ytkmmihadcbfkoaa
open Go.RowKit Go.Proofs.YtkmmihadcbfkoaaW.PrintWords PM
set_option linter.unusedVariables false
set_option linter.unusedSimpArgs false
def badFind (T : List (List Int)) (wo f : Int) : Prop := f = wo ∨ T.getD f.toNat [] = []
instance (T : List (List Int)) (wo f : Int) : Decidable (badFind T wo f) := by unfold badFind; infer_instance
theorem crowdL_met {S : List S50} {T : List (List Int)} (hinj : ∀ a b : Nat, a < S.length → b < S.length → fullKey (S.getD a z50) = fullKey (S.getD b z50) → a = b) (wo de : Int)
  (hT : ∀ i : Nat, i < T.length → ∀ s, s ∈ T.getD i [] → 0 ≤ s ∧ s < S.length) : ∀ (fs : List Int) (met : List Nat) (ks : List (Int × Int × Int)) (n : Int), (∀ f, f ∈ fs → 0 ≤ f ∧ f < T.length) → Met S met ks →
  ((∃ f, f ∈ fs ∧ badFind T wo f) ∧ crowdL S T wo de fs ks n = none) ∨ ((∀ f, f ∈ fs → ¬ badFind T wo f) ∧ ∃ met', (∀ s : Nat, s ∈ met' ↔ s ∈ met ∨ ∃ f, f ∈ fs ∧ (s : Int) ∈ T.getD f.toNat []) ∧ (∀ s, s ∈ met' → s < S.length) ∧ crowdL S T wo de fs ks n = some (n - (tot S met' - tot S met) + (deIn de met' - deIn de met)))
 | [], met, ks, n, _, hm => Or.inr ⟨fun f hf => absurd hf (by simp), met, fun s => by simp, hm.lt, by
   show some n = _
   congr 1
   omega⟩
 | f :: fs, met, ks, n, hf, hm => by
  obtain ⟨h0, h1⟩ := hf f (by simp)
  have hf' : ∀ g, g ∈ fs → 0 ≤ g ∧ g < T.length := fun g hg => hf g (by simp [hg])
  unfold crowdL
  by_cases hb : badFind T wo f
  ·
   exact Or.inl ⟨⟨f, by simp, hb⟩, if_pos hb⟩
  ·
   rw [if_neg (show ¬ (f = wo ∨ T.getD f.toNat [] = []) from hb)]
   obtain ⟨m1, a1, a2, a3⟩ := crowdIn_met hinj de (T.getD f.toNat []) met ks n (hT f.toNat (by omega)) hm
   rcases crowdL_met hinj wo de hT fs m1 _ (crowdIn S de (T.getD f.toNat []) ks n).2 hf' a1 with ⟨⟨g, hg, hgb⟩, h2⟩ | ⟨hnb, m2, b1, b2, b3⟩
   ·
    exact Or.inl ⟨⟨g, by simp [hg], hgb⟩, h2⟩
   ·
    refine Or.inr ⟨fun g hg => ?_, m2, fun s => ?_, b2, ?_⟩
    ·
     rcases List.mem_cons.1 hg with e | hg
     ·
      rw [e]; exact hb
     ·
      exact hnb g hg
    ·
     rw [b1 s, a2 s]
     constructor
     ·
      rintro ((h | h) | ⟨g, hg, h⟩)
      ·
       exact Or.inl h
      ·
       exact Or.inr ⟨f, by simp, h⟩
      ·
       exact Or.inr ⟨g, by simp [hg], h⟩
     ·
      rintro (h | ⟨g, hg, h⟩)
      ·
       exact Or.inl (Or.inl h)
      ·
       rcases List.mem_cons.1 hg with e | hg
       ·
        exact Or.inl (Or.inr (e ▸ h))
       ·
        exact Or.inr ⟨g, hg, h⟩
    ·
     rw [b3, a3]
     congr 1
     omega
theorem keys_inj {F : List Int} {S : List S50} {T : List (List Int)} (hc : checkB F S T = 0) : ∀ a b : Nat, a < S.length → b < S.length → fullKey (S.getD a z50) = fullKey (S.getD b z50) → a = b := by
 have hsl := (check_parts hc).2.2.2.2.1
 rw [← slots_same] at hsl
 have hup : ∀ j, j < S.length → slotUp S j = true := fun j hj => by
  have := List.all_eq_true.1 hsl j (List.mem_range.2 hj)
  unfold slotRef at this
  simp only [Bool.and_eq_true] at this
  exact this.2
 have key : ∀ a b : Nat, a < b → b < S.length → fullKey (S.getD a z50) ≠ fullKey (S.getD b z50) := fun a b hab hb e => by
  have := up_lt (fun j (hj : j ≤ b) => hup j (by omega)) a b hab (Nat.le_refl _)
  unfold fullKey at e
  injection e with e1 e2
  injection e2 with e2 _
  unfold KeyLt at this
  omega
 intro a b ha hb e
 rcases Nat.lt_trichotomy a b with h | h | h
 ·
  exact absurd e (key a b h hb)
 ·
  exact h
 exact absurd e.symm (key b a h ha)
def markRow (near : List Bool) (row : List Int) : List Bool := row.foldl (fun n s => n.set s.toNat true) near
theorem markRow_len (row : List Int) : ∀ near, (markRow near row).length = near.length := by
 induction row with
 | nil => intro near; rfl
 | cons s ss ih => intro near; show (markRow (near.set s.toNat true) ss).length = _; rw [ih, List.length_set]
theorem markRow_at (row : List Int) : ∀ (near : List Bool) (t : Nat), (∀ s, s ∈ row → 0 ≤ s ∧ s < near.length) → t < near.length → ((markRow near row).getD t false = true ↔ near.getD t false = true ∨ (t : Int) ∈ row) := by
 induction row with
 | nil => intro near t _ _; simp [markRow]
 | cons s ss ih =>
  intro near t hr ht
  obtain ⟨h0, h1⟩ := hr s (by simp)
  show (markRow (near.set s.toNat true) ss).getD t false = true ↔ _
  rw [ih (near.set s.toNat true) t (fun u hu => by rw [List.length_set]; exact hr u (by simp [hu])) (by rw [List.length_set]; exact ht)]
  rw [show (near.set s.toNat true).getD t false = if s.toNat = t then true else near.getD t false from by
   rw [List.getD_eq_getElem?_getD, List.getElem?_set]
   by_cases e : s.toNat = t
   ·
    rw [if_pos e, if_pos e, if_pos (by omega)]; rfl
   ·
    rw [if_neg e, if_neg e, List.getD_eq_getElem?_getD]]
  by_cases e : s.toNat = t
  ·
   rw [if_pos e]
   exact ⟨fun _ => Or.inr (List.mem_cons.2 (Or.inl (by omega))), fun _ => Or.inl rfl⟩
  rw [if_neg e]
  constructor
  ·
   rintro (h | h)
   ·
    exact Or.inl h
   exact Or.inr (List.mem_cons.2 (Or.inr h))
  rintro (h | h)
  ·
   exact Or.inl h
  rcases List.mem_cons.1 h with h | h
  ·
   exact absurd (by omega) e
  exact Or.inr h
end Go.Proofs.Ytkmmihadcbfkoaa
end

section
namespace Go.Proofs.Ytkmmihadcbfkoaa
open Go.RowKit Go.Proofs.YtkmmihadcbfkoaaW.PrintWords PM
set_option linter.unusedVariables false
set_option linter.unusedSimpArgs false
def pieceOf (S : List S50) (near : List Bool) (less : Int) (s : Nat) : Int := if near.getD s false = true then (S.getD s z50).f2 - (if (s : Int) = less then 1 else 0) else 0
def restSum (S : List S50) (near : List Bool) (less : Int) (i : Nat) : Int := (((List.range S.length).drop i).map (pieceOf S near less)).sum
theorem restSum_step {S : List S50} {near : List Bool} {less : Int} {i : Nat} (h : i < S.length) : restSum S near less i = pieceOf S near less i + restSum S near less (i + 1) := by
 unfold restSum
 rw [List.drop_eq_getElem_cons (by simpa using h)]
 simp
theorem wrap_id {x : Int} (h0 : -9223372036854775808 ≤ x) (h1 : x ≤ 9223372036854775807) : wrap64 x = x := by
 unfold wrap64
 omega
theorem short2_ev {F : List Int} {S : List S50} {T : List (List Int)} (hS : S.length ≤ 200) (hp : ∀ i : Nat, i < S.length → 1 ≤ (S.getD i z50).f2 ∧ (S.getD i z50).f2 ≤ 20) (fs : List Int) (less : Int) (near : List Bool) (hn : near.length = S.length) (d : Nat) : ∀ (i : Nat) (p : Int), S.length - i = d → i ≤ S.length → 0 ≤ p → p ≤ 20 * i →
  Ev (fun k => laganref04_short.l2 k fs less near p (i : Int) F S T) (decide (p + restSum S near less i < (fs.length : Int))) := by
 induction d with
 | zero =>
  intro i p hd hi h0 h1
  have : restSum S near less i = 0 := by unfold restSum; rw [List.drop_of_length_le (by simp; omega)]; rfl
  rw [this, Int.add_zero]
  exact (Ev.const _).step fun k => by simp only [laganref04_short.l2]; rw [if_neg (by omega)]
 | succ d ih =>
  intro i p hd hi h0 h1
  have hlt : i < S.length := by omega
  have hw := wrap_pm (i := (i : Int)) (by omega) (by omega)
  have hb := hp i hlt
  have hrn : rdOf false near (i : Int) = near.getD i false := by simp [rdOf]
  rw [restSum_step hlt]
  by_cases hnr : near.getD i false = true
  rotate_left
  ·
   have hpi : pieceOf S near less i = 0 := by unfold pieceOf; rw [if_neg hnr]
   have ih' := ih (i + 1) p (by omega) (by omega) (by omega) (by omega)
   rw [show (((i + 1 : Nat)) : Int) = (i : Int) + 1 from by omega, show p + restSum S near less (i + 1) = p + (pieceOf S near less i + restSum S near less (i + 1)) from by omega] at ih'
   exact Ev.step ih' fun k => by
    simp only [laganref04_short.l2]
    rw [if_pos (by omega), if_pos (by omega), hrn, if_neg hnr, hw.1]
  by_cases hle : (i : Int) = less
  rotate_left
  ·
   have hpi : pieceOf S near less i = (S.getD i z50).f2 := by unfold pieceOf; rw [if_pos hnr, if_neg hle]; omega
   have ih' := ih (i + 1) (p + (S.getD i z50).f2) (by omega) (by omega) (by omega) (by omega)
   rw [show (((i + 1 : Nat)) : Int) = (i : Int) + 1 from by omega, show p + (S.getD i z50).f2 + restSum S near less (i + 1) = p + (pieceOf S near less i + restSum S near less (i + 1)) from by omega] at ih'
   exact Ev.step ih' fun k => by
    simp only [laganref04_short.l2]
    rw [if_pos (by omega), if_pos (by omega), hrn, if_pos hnr, if_pos (by omega), if_neg hle, rd_S, hw.1, wrap_id (x := p + (S.getD i z50).f2) (by omega) (by omega)]
  have hpi : pieceOf S near less i = (S.getD i z50).f2 - 1 := by unfold pieceOf; rw [if_pos hnr, if_pos hle]
  have ih' := ih (i + 1) (p + (S.getD i z50).f2 - 1) (by omega) (by omega) (by omega) (by omega)
  rw [show (((i + 1 : Nat)) : Int) = (i : Int) + 1 from by omega, show p + (S.getD i z50).f2 - 1 + restSum S near less (i + 1) = p + (pieceOf S near less i + restSum S near less (i + 1)) from by omega] at ih'
  exact Ev.step ih' fun k => by
   simp only [laganref04_short.l2]
   rw [if_pos (by omega), if_pos (by omega), hrn, if_pos hnr, if_pos (by omega), if_pos hle, rd_S, hw.1, wrap_id (x := p + (S.getD i z50).f2) (by omega) (by omega), wrap_id (by omega) (by omega)]
theorem short1_ev {F : List Int} {S : List S50} {T : List (List Int)} (fs : List Int) (less : Int) (i : Nat) (hi : i < fs.length) (hfl : fs.length ≤ 60) (f : Nat) (hf : fs.getD i 0 = (f : Int)) (hfT : f < T.length) (row : List Int) (hrow : T.getD f [] = row) (hrl : row.length ≤ 1000) (hr : ∀ j : Nat, j < row.length → 0 ≤ row.getD j 0 ∧ row.getD j 0 < S.length) {r : Bool} (d : Nat) : ∀ (j : Nat) (near : List Bool), row.length - j = d → j ≤ row.length → near.length = S.length →
  Ev (fun k => laganref04_short.l0 k fs less (markRow near (row.drop j)) ((i : Int) + 1) F S T) r → Ev (fun k => laganref04_short.l1 k fs less near (i : Int) (j : Int) F S T) r := by
 have hrd : rd fs (i : Int) = (f : Int) := by rw [rd_nat, hf]
 have hrT : rd_L1 T (f : Int) = row := by rw [← hrow]; simp [rd_L1]
 have hwi := wrap_pm (i := (i : Int)) (by omega) (by omega)
 induction d with
 | zero =>
  intro j near hd hj hn h
  rw [List.drop_of_length_le (by omega), show markRow near [] = near from rfl] at h
  exact Ev.step h fun k => by
   simp only [laganref04_short.l1]
   rw [if_pos (by omega), if_pos (by omega), hrd, if_pos (by omega), if_pos (by omega), hrT, if_neg (by omega), hwi.1]
 | succ d ih =>
  intro j near hd hj hn h
  have hlt : j < row.length := by omega
  have hwj := wrap_pm (i := (j : Int)) (by omega) (by omega)
  have hs := hr j hlt
  rw [show row.drop j = row.getD j 0 :: row.drop (j + 1) from by rw [List.drop_eq_getElem_cons hlt]; simp [List.getD_eq_getElem?_getD, List.getElem?_eq_getElem hlt]] at h
  rw [show markRow near (row.getD j 0 :: row.drop (j + 1)) = markRow (near.set (row.getD j 0).toNat true) (row.drop (j + 1)) from rfl] at h
  have e1 : row.length - (j + 1) = d := by rw [Nat.sub_add_eq, hd]; rfl
  have ih' := ih (j + 1) (near.set (row.getD j 0).toNat true) e1 hlt (by rw [List.length_set]; exact hn) h
  clear h
  rw [show (((j + 1 : Nat)) : Int) = (j : Int) + 1 from by omega] at ih'
  have c1 : (0 : Int) ≤ (i : Int) := Int.natCast_nonneg _
  have c2 : (i : Int) < (fs.length : Int) := Int.ofNat_lt.2 hi
  have c3 : (0 : Int) ≤ (f : Int) := Int.natCast_nonneg _
  have c4 : (f : Int) < (T.length : Int) := Int.ofNat_lt.2 hfT
  have c5 : (j : Int) < (row.length : Int) := Int.ofNat_lt.2 hlt
  have c6 : (0 : Int) ≤ (j : Int) := Int.natCast_nonneg _
  have c8 : row.getD j 0 < (near.length : Int) := by rw [hn]; exact hs.2
  refine Ev.step ih' fun k => ?_
  simp only [laganref04_short.l1]
  rw [if_pos c1, if_pos c2, hrd, if_pos c3, if_pos c4, hrT, if_pos c5, if_pos c6, rd_nat, if_pos hs.1, if_pos c8, hwj.1]
def markAll (T : List (List Int)) (near : List Bool) (fs : List Int) : List Bool := fs.foldl (fun n f => markRow n (T.getD f.toNat [])) near
theorem short0_ev {F : List Int} {S : List S50} {T : List (List Int)} (hk : BOK F S T) (hp : ∀ i : Nat, i < S.length → 1 ≤ (S.getD i z50).f2 ∧ (S.getD i z50).f2 ≤ 20) (fs : List Int) (less : Int) (hfl : fs.length ≤ 60) (hfs : ∀ i : Nat, i < fs.length → 0 ≤ fs.getD i 0 ∧ fs.getD i 0 < T.length) (d : Nat) : ∀ (i : Nat) (near : List Bool), fs.length - i = d → i ≤ fs.length → near.length = S.length →
  Ev (fun k => laganref04_short.l0 k fs less near (i : Int) F S T) (if (fs.drop i).all (fun f => !decide (T.getD f.toNat [] = [])) then decide (restSum S (markAll T near (fs.drop i)) less 0 < (fs.length : Int)) else false) := by
 induction d with
 | zero =>
  intro i near hd hi hn
  rw [List.drop_of_length_le (by omega)]
  have h2 := short2_ev (F := F) (T := T) hk.ns hp fs less near hn S.length 0 0 (by omega) (by omega) (by omega) (by omega)
  refine Ev.step (g := fun k => laganref04_short.l2 k fs less near 0 0 F S T) (by simpa [markAll] using h2) fun k => by
   simp only [laganref04_short.l0]
   rw [if_neg (by omega)]
 | succ d ih =>
  intro i near hd hi hn
  have hlt : i < fs.length := by omega
  obtain ⟨h0, h1⟩ := hfs i hlt
  obtain ⟨f, hf⟩ : ∃ f : Nat, fs.getD i 0 = (f : Int) := ⟨(fs.getD i 0).toNat, by omega⟩
  rw [hf] at h0 h1
  have hfT : f < T.length := by omega
  have hrd : rd fs (i : Int) = (f : Int) := by rw [rd_nat, hf]
  rw [show fs.drop i = (f : Int) :: fs.drop (i + 1) from by rw [List.drop_eq_getElem_cons hlt, ← hf]; simp [List.getD_eq_getElem?_getD, List.getElem?_eq_getElem hlt], List.all_cons, Int.toNat_natCast]
  obtain ⟨row, hrow⟩ : ∃ row, T.getD f [] = row := ⟨_, rfl⟩
  have hrT : rd_L1 T (f : Int) = row := by rw [← hrow]; simp [rd_L1]
  rw [hrow]
  by_cases hem : row = []
  ·
   rw [decide_eq_true hem, Bool.not_true, Bool.false_and]
   exact (Ev.const false).step fun k => by
    simp only [laganref04_short.l0]
    rw [if_pos (by omega), if_pos (by omega), hrd, if_pos (by omega), if_pos (by omega), hrT, if_pos (by rw [hem]; rfl)]
  rw [decide_eq_false hem, Bool.not_false, Bool.true_and]
  have hrl := hk.row f hfT
  have hrs := hk.slot f hfT
  rw [hrow] at hrl hrs
  have ih' := ih (i + 1) (markRow near row) (by omega) (by omega) (by rw [markRow_len]; exact hn)
  rw [show (((i + 1 : Nat)) : Int) = (i : Int) + 1 from by omega] at ih'
  have h1 := short1_ev (F := F) (S := S) (T := T) fs less i hlt hfl f hf hfT row hrow hrl hrs row.length 0 near (by omega) (by omega) hn ih'
  have hm : markAll T near ((f : Int) :: fs.drop (i + 1)) = markAll T (markRow near row) (fs.drop (i + 1)) := by
   show markAll T (markRow near (T.getD ((f : Int)).toNat [])) _ = _
   rw [Int.toNat_natCast, hrow]
  rw [hm]
  refine Ev.step (g := fun k => laganref04_short.l1 k fs less near (i : Int) 0 F S T) h1 fun k => ?_
  simp only [laganref04_short.l0]
  rw [if_pos (by omega), if_pos (by omega), hrd, if_pos (by omega), if_pos (by omega), hrT, if_neg (by
   intro e
   exact hem (List.length_eq_zero_iff.1 (by omega)))]
end Go.Proofs.Ytkmmihadcbfkoaa
end

section
namespace Go.Proofs.Ytkmmihadcbfkoaa
open PM
set_option linter.unusedVariables false
set_option linter.unusedSimpArgs false
theorem sum_de (less : Int) (met : List Nat) : ∀ n, ((List.range n).map fun s : Nat => if s ∈ met ∧ (s : Int) = less then (1 : Int) else 0).sum = if 0 ≤ less ∧ less.toNat ∈ met ∧ less.toNat < n then 1 else 0
 | 0 => by
  rw [if_neg (fun h => absurd h.2.2 (Nat.not_lt_zero _))]
  rfl
 | n + 1 => by
  rw [List.range_succ, List.map_append, List.sum_append, sum_de less met n]
  simp only [List.map_cons, List.map_nil, List.sum_cons, List.sum_nil, Int.add_zero]
  by_cases h : n ∈ met ∧ (n : Int) = less
  ·
   have e : less.toNat = n := by omega
   rw [if_pos h, if_neg (fun k => by have := k.2.2; omega), if_pos ⟨by omega, by rw [e]; exact h.1, by omega⟩]
   rfl
  ·
   rw [if_neg h, Int.add_zero]
   by_cases k : 0 ≤ less ∧ less.toNat ∈ met ∧ less.toNat < n
   ·
    rw [if_pos k, if_pos ⟨k.1, k.2.1, by omega⟩]
   ·
    rw [if_neg k, if_neg (fun m => by
     have m3 := m.2.2
     by_cases e : less.toNat = n
     ·
      exact h ⟨e ▸ m.2.1, by omega⟩
     ·
      exact k ⟨m.1, m.2.1, by omega⟩)]
theorem sum_sub (f g : Nat → Int) : ∀ l : List Nat, (l.map fun s => f s - g s).sum = (l.map f).sum - (l.map g).sum
 | [] => rfl
 | a :: l => by
  simp only [List.map_cons, List.sum_cons]
  rw [sum_sub f g l]
  omega
theorem rest_is {S : List S50} {near : List Bool} {less : Int} {met : List Nat} (h : ∀ s, s < S.length → (near.getD s false = true ↔ s ∈ met)) (hl : ∀ s, s ∈ met → s < S.length) : restSum S near less 0 = tot S met - deIn less met := by
 have e : restSum S near less 0 = ((List.range S.length).map fun s => (if s ∈ met then (S.getD s z50).f2 else 0) - (if s ∈ met ∧ (s : Int) = less then (1 : Int) else 0)).sum := by
  unfold restSum
  rw [List.drop_zero]
  congr 1
  refine List.map_congr_left fun s hs => ?_
  have hs' := List.mem_range.1 hs
  unfold pieceOf
  by_cases hm : s ∈ met
  ·
   rw [if_pos ((h s hs').2 hm), if_pos hm]
   by_cases e : (s : Int) = less
   ·
    rw [if_pos e, if_pos ⟨hm, e⟩]
   ·
    rw [if_neg e, if_neg (fun k => e k.2)]
  ·
   rw [if_neg (fun k => hm ((h s hs').1 k)), if_neg hm, if_neg (fun k => hm k.1)]
   rfl
 rw [e, sum_sub, sum_de]
 unfold tot deIn
 congr 1
 by_cases k : 0 ≤ less ∧ less.toNat ∈ met
 ·
  rw [if_pos k, if_pos ⟨k.1, k.2, hl _ k.2⟩]
 rw [if_neg k, if_neg (fun m => k ⟨m.1, m.2.1⟩)]
end Go.Proofs.Ytkmmihadcbfkoaa
end

section
namespace Go.Proofs.Ytkmmihadcbfkoaa
open PM
set_option linter.unusedVariables false
set_option linter.unusedSimpArgs false
theorem markAll_at {T : List (List Int)} {n : Nat} (hT : ∀ i : Nat, i < T.length → ∀ s, s ∈ T.getD i [] → 0 ≤ s ∧ s < n) (fs : List Int) : ∀ (near : List Bool) (t : Nat), near.length = n → (∀ f, f ∈ fs → 0 ≤ f ∧ f < T.length) → t < n →
  ((markAll T near fs).getD t false = true ↔ near.getD t false = true ∨ ∃ f, f ∈ fs ∧ (t : Int) ∈ T.getD f.toNat []) := by
 induction fs with
 | nil => intro near t _ _ _; simp [markAll]
 | cons f fs ih =>
  intro near t hn hf ht
  obtain ⟨h0, h1⟩ := hf f (by simp)
  show (markAll T (markRow near (T.getD f.toNat [])) fs).getD t false = true ↔ _
  rw [ih _ t (by rw [markRow_len]; exact hn) (fun g hg => hf g (by simp [hg])) ht, markRow_at _ near t (fun s hs => by rw [hn]; exact hT f.toNat (by omega) s hs) (by omega)]
  constructor
  ·
   rintro ((h | h) | ⟨g, hg, h⟩)
   ·
    exact Or.inl h
   ·
    exact Or.inr ⟨f, by simp, h⟩
   exact Or.inr ⟨g, by simp [hg], h⟩
  rintro (h | ⟨g, hg, h⟩)
  ·
   exact Or.inl (Or.inl h)
  rcases List.mem_cons.1 hg with e | hg
  ·
   exact Or.inl (Or.inr (e ▸ h))
  exact Or.inr ⟨g, hg, h⟩
def shortB (F : List Int) (S : List S50) (T : List (List Int)) (fs : List Int) (less : Int) : Bool :=
 risB fs 0 ((F.length : Int) - 1) && (fs.all (fun f => !decide (T.getD f.toNat [] = [])) && decide (restSum S (markAll T (List.replicate S.length false) fs) less 0 < (fs.length : Int)))
theorem ris_mem {l : List Int} {n : Nat} (h : risB l 0 ((n : Int) - 1) = true) : ∀ f, f ∈ l → 0 ≤ f ∧ f < n := by
 intro f hf
 obtain ⟨j, hj, he⟩ := List.getElem_of_mem hf
 have := risB_at h j hj
 rw [List.getD_eq_getElem?_getD, List.getElem?_eq_getElem hj, Option.getD_some, he] at this
 omega
theorem short_is {F : List Int} {S : List S50} {T : List (List Int)} (hc : checkB F S T = 0) (fs : List Int) (less : Int) (hl : fs.length ≤ 9223372036854775807) : Ev (fun k => laganref04_short.f k F S T fs less) (shortB F S T fs less) := by
 have hk := bok_of_check hc
 have hns := hk.ns
 have hnf := hk.nf
 refine Ev.bind (ascending_is fs (F.length : Int) hl) ?_
 unfold shortB
 cases hr : risB fs 0 ((F.length : Int) - 1) with
 | false => exact (Ev.const false).congr fun k => by rw [if_neg (by simp)]
 | true =>
  have hfl : fs.length ≤ 60 := by
   rcases risB_len hr with h | h
   ·
    omega
   ·
    rw [h]; simp
  have h0 := short0_ev hk (fun i hi => by
   have := room_bound hc i hi
   rwa [rooms_at S i hi] at this) fs less hfl (fun i hi => by
   have := risB_at hr i hi
   have := hk.nt
   omega) fs.length 0 (List.replicate S.length false) (by omega) (by omega) (by simp)
  rw [List.drop_zero] at h0
  refine Ev.congr (g := fun k => laganref04_short.l0 k fs less (List.replicate S.length false) ((0 : Nat) : Int) F S T) ?_ fun k => ?_
  ·
   rw [Bool.true_and]
   cases ha : fs.all (fun f => !decide (T.getD f.toNat [] = [])) with
   | true => rw [ha, if_pos rfl] at h0; rw [Bool.true_and]; exact h0
   | false => rw [ha, if_neg (by simp)] at h0; rw [Bool.false_and]; exact h0
  rw [if_pos rfl, if_pos (by omega), if_pos (by omega), Int.toNat_natCast]
  rfl
end Go.Proofs.Ytkmmihadcbfkoaa
end

section
namespace Go.Proofs.Ytkmmihadcbfkoaa
open PM
set_option linter.unusedVariables false
set_option linter.unusedSimpArgs false
theorem fits_mem {F : List Int} {S : List S50} {T : List (List Int)} (hk : BOK F S T) : ∀ i : Nat, i < T.length → ∀ s, s ∈ T.getD i [] → 0 ≤ s ∧ s < S.length := by
 intro i hi s hs
 obtain ⟨j, hj, he⟩ := List.getElem_of_mem hs
 have := hk.slot i hi j hj
 rwa [List.getD_eq_getElem?_getD (l := T.getD i []), List.getElem?_eq_getElem hj, Option.getD_some, he] at this
theorem crowded_is {F : List Int} {S : List S50} {T : List (List Int)} (hc : checkB F S T = 0) (fs : List Int) (wo less : Int) : crowdedB F S T fs wo less = (shortB F S T fs less && !decide (wo ∈ fs)) := by
 have hk := bok_of_check hc
 unfold crowdedB shortB
 cases hr : risB fs 0 ((F.length : Int) - 1) with
 | false => rfl
 | true =>
  rw [Bool.true_and, Bool.true_and]
  have hfs : ∀ f, f ∈ fs → 0 ≤ f ∧ f < T.length := fun f hf => by rw [hk.nt]; exact ris_mem hr f hf
  have hT := fits_mem hk
  rcases crowdL_met (keys_inj hc) wo less hT fs [] [] fs.length hfs ⟨rfl, fun s hs => absurd hs (by simp)⟩ with ⟨⟨f, hf, hb⟩, he⟩ | ⟨hnb, met, hm, hml, he⟩
  ·
   rw [he]
   show false = _
   rcases hb with e | e
   ·
    have hw : wo ∈ fs := by rw [← e]; exact hf
    rw [decide_eq_true hw, Bool.not_true, Bool.and_false]
   rw [show fs.all (fun f => !decide (T.getD f.toNat [] = [])) = false from List.all_eq_false.2 ⟨f, hf, by rw [decide_eq_true e]; simp⟩]
   rfl
  rw [he]
  have hwo : wo ∉ fs := fun h => hnb wo h (Or.inl rfl)
  have hne : fs.all (fun f => !decide (T.getD f.toNat [] = [])) = true := List.all_eq_true.2 fun f hf => by
   rw [decide_eq_false (fun e => hnb f hf (Or.inr e))]
   rfl
  rw [decide_eq_false hwo, hne, Bool.not_false, Bool.and_true, Bool.true_and]
  have hrest := rest_is (less := less) (near := markAll T (List.replicate S.length false) fs) (met := met) (fun s hs => by
   rw [markAll_at hT fs _ s (by simp) hfs hs, hm s]
   simp [List.getD_eq_getElem?_getD, hs]) hml
  rw [hrest]
  have ht0 : tot S [] = 0 := by
   unfold tot
   induction (List.range S.length) with
   | nil => rfl
   | cons a l ih => simp only [List.map_cons, List.sum_cons]; rw [ih, if_neg (by simp)]; rfl
  have hd0 : deIn less [] = 0 := by unfold deIn; rw [if_neg (fun h => absurd h.2 (by simp))]
  rw [ht0, hd0]
  show decide _ = decide _
  exact decide_eq_decide.2 ⟨fun h => by omega, fun h => by omega⟩
end Go.Proofs.Ytkmmihadcbfkoaa
end

section
namespace Go.Proofs.Ytkmmihadcbfkoaa
open Go.RowKit Go.Proofs.YtkmmihadcbfkoaaW.PrintWords PM
set_option linter.unusedVariables false
set_option linter.unusedSimpArgs false
def askB (F : List Int) (S : List S50) (T : List (List Int)) (find slot : Int) (g0 g1 : Bool) : Int :=
 if checkB F S T ≠ 0 then checkB F S T
 else if (!g0 && !inB find 0 ((F.length : Int) - 1) || !g1 && !inB slot 0 ((S.length : Int) - 1)) = true then 1 else 0
set_option maxRecDepth 100000 in
set_option maxHeartbeats 8000000 in
theorem asked_calls (A0 : Option Addr) (c0 : Nat) (F : List Int) (A1 : Option Addr) (c1 : Nat) (S : List S50) (A2 : Option Addr) (c2 : Nat) (T : List (List Int)) (find slot : Int) (g : Nat) (g0 g1 : Bool) (w : World)
  (hr0 : Kd.C (Kd.int .i64) w A0 F.length F) (hc0 : F.length ≤ c0) (hr1 : Kd.C k50 w A1 S.length S) (hr2 : Kd.C (Kd.slice 3 (Kd.int .i64)) w A2 T.length T)
  (hg0 : w.cell? ⟨g, 0, none⟩ = some (.bool g0)) (hg1 : w.cell? ⟨g, 1, none⟩ = some (.bool g1)) :
  Calls Try.prog 58 #[.agg #[.slice A0 F.length c0, .slice A1 S.length c1, .slice A2 T.length c2], .int .i64 find, .int .i64 slot, .slice (some ⟨g, 0, none⟩) 2 2] w (CbPost (askB F S T find slot g0 g1) w) := by
 have hB0 := (Below.refl w.heap.size w).alloc (Nat.le_refl _) (.cells #[.slice A0 F.length c0, .slice A1 S.length c1, .slice A2 T.length c2] 26)
 have lF : F.length ≤ 9223372036854775807 := hr0.2.1
 have lS : S.length ≤ 9223372036854775807 := hr1.2.1
 have CB := checkboard_calls A0 c0 F A1 c1 S A2 c2 T _ (Kd.C_below hr0 hB0) hc0 (Kd.C_below hr1 hB0) (Kd.C_below hr2 hB0)
 obtain ⟨q, hq⟩ : ∃ q, checkB F S T = q := ⟨_, rfl⟩
 obtain ⟨r, hr⟩ : ∃ r, askB F S T find slot g0 g1 = r := ⟨_, rfl⟩
 rw [hq] at CB
 rw [hr]
 unfold askB at hr
 rw [hq] at hr
 have hgl := World.block_lt_of_cell? w _ hg0
 have HB0 := Go.Lib.hid hB0
 have HR := Go.Lib.hid hr
 have HG := Go.Lib.hid (And.intro hg0 hg1)
 clear hq hr0 hr1 hr2 hB0 hr hg0 hg1
 go_enter Try.func58, Try.ntmps58
 go_wp2_with fail
 refine CB.mono ?_
 clear CB
 rintro e w1 ⟨rfl, hB1⟩
 have b1 : w1.heap[w.heap.size]? = some (.cells #[.slice A0 F.length c0, .slice A1 S.length c1, .slice A2 T.length c2] 26 (0, 0)) := by
  rw [hB1.block w.heap.size (by simp)]
  exact World.alloc_heap_new w _
 have hW1 : Below w.heap.size w w1 := HB0.out.trans (hB1.mono HB0.out.size)
 have y0 := (hW1.cell (p := ⟨g, 0, none⟩) hgl).trans HG.out.1
 have y1 := (hW1.cell (p := ⟨g, 1, none⟩) hgl).trans HG.out.2
 have k0 := cell_of_heap b1 (j := 0) rfl
 have k1 := cell_of_heap b1 (j := 1) rfl
 have HW1 := Go.Lib.hid hW1
 have BX := Go.Lib.hid b1
 clear hB1 b1 hW1
 by_cases hq0 : q = 0
 rotate_left
 ·
  have g9 : decide (q = 0) = false := by simpa using hq0
  have hr0 : r = q := by have := HR.out; rw [if_pos hq0] at this; exact this.symm
  subst hr0
  go_wp2_with fail
  go_ret
  exact ⟨rfl, HW1.out⟩
 subst hq0
 have hr' := HR.out
 rw [if_neg (by simp)] at hr'
 have HR := Go.Lib.hid hr'
 have IC0 := in_calls find 0 ((F.length : Int) - 1) w1
 clear hr'
 cases g0 with
 | true =>
  cases g1 with
  | true =>
   have hr0 : r = 0 := by have := HR.out; simpa [] using this.symm
   subst hr0
   go_wp2_with fail
   go_ret
   exact ⟨rfl, HW1.out⟩
  | false =>
   have IC1 := in_calls slot 0 ((S.length : Int) - 1) w1
   go_wp2_with fail
   refine IC1.mono ?_
   clear IC1
   rintro e w3 ⟨rfl, hd3⟩
   have hW3 : Below w.heap.size w w3 := HW1.out.trans (hd3.below.mono HW1.out.size)
   have HW3 := Go.Lib.hid hW3
   clear hW3 hd3
   cases hi1 : inB slot 0 ((S.length : Int) - 1) with
   | false =>
    have HI1 := Go.Lib.hid hi1
    clear hi1
    have hr0 : r = 1 := by have := HR.out; simpa [HI1.out] using this.symm
    subst hr0
    go_wp2_with fail
    go_ret
    exact ⟨rfl, HW3.out⟩
   | true =>
    have HI1 := Go.Lib.hid hi1
    clear hi1
    have hr0 : r = 0 := by have := HR.out; simpa [HI1.out] using this.symm
    subst hr0
    go_wp2_with fail
    go_ret
    exact ⟨rfl, HW3.out⟩
 | false =>
  go_wp2_with fail
  refine IC0.mono ?_
  clear IC0
  rintro e w2 ⟨rfl, hd2⟩
  have hW2 : Below w.heap.size w w2 := HW1.out.trans (hd2.below.mono HW1.out.size)
  have y1 := (hW2.cell (p := ⟨g, 1, none⟩) hgl).trans HG.out.2
  have k1 := cell_of_heap ((hd2.below.block w.heap.size (Array.getElem?_eq_some_iff.1 BX.out).1).trans BX.out) (j := 1) rfl
  have HW2 := Go.Lib.hid hW2
  clear hW2 hd2
  cases hi0 : inB find 0 ((F.length : Int) - 1) with
  | false =>
   have HI0 := Go.Lib.hid hi0
   clear hi0
   have hr0 : r = 1 := by have := HR.out; simpa [HI0.out] using this.symm
   subst hr0
   go_wp2_with fail
   go_ret
   exact ⟨rfl, HW2.out⟩
  | true =>
   have HI0 := Go.Lib.hid hi0
   clear hi0
   cases g1 with
   | true =>
    have hr0 : r = 0 := by have := HR.out; simpa [HI0.out] using this.symm
    subst hr0
    go_wp2_with fail
    go_ret
    exact ⟨rfl, HW2.out⟩
   | false =>
    have IC1 := in_calls slot 0 ((S.length : Int) - 1) w2
    go_wp2_with fail
    refine IC1.mono ?_
    clear IC1
    rintro e w3 ⟨rfl, hd3⟩
    have hW3 : Below w.heap.size w w3 := HW2.out.trans (hd3.below.mono HW2.out.size)
    have HW3 := Go.Lib.hid hW3
    clear hW3 hd3
    cases hi1 : inB slot 0 ((S.length : Int) - 1) with
    | false =>
     have HI1 := Go.Lib.hid hi1
     clear hi1
     have hr0 : r = 1 := by have := HR.out; simpa [HI0.out, HI1.out] using this.symm
     subst hr0
     go_wp2_with fail
     go_ret
     exact ⟨rfl, HW3.out⟩
    | true =>
     have HI1 := Go.Lib.hid hi1
     clear hi1
     have hr0 : r = 0 := by have := HR.out; simpa [HI0.out, HI1.out] using this.symm
     subst hr0
     go_wp2_with fail
     go_ret
     exact ⟨rfl, HW3.out⟩
theorem asked_new (A0 : Option Addr) (c0 : Nat) (F : List Int) (A1 : Option Addr) (c1 : Nat) (S : List S50) (A2 : Option Addr) (c2 : Nat) (T : List (List Int)) (find slot : Int) (g0 g1 : Bool) (w : World)
  (hr0 : Kd.C (Kd.int .i64) w A0 F.length F) (hc0 : F.length ≤ c0) (hr1 : Kd.C k50 w A1 S.length S) (hr2 : Kd.C (Kd.slice 3 (Kd.int .i64)) w A2 T.length T) :
  Calls Try.prog 58 #[.agg #[.slice A0 F.length c0, .slice A1 S.length c1, .slice A2 T.length c2], .int .i64 find, .int .i64 slot, .slice (some ⟨w.heap.size, 0, none⟩) 2 2] (w.alloc (.cells #[.bool g0, .bool g1] 4)) (CbPost (askB F S T find slot g0 g1) w) := by
 have hB := (Below.refl w.heap.size w).alloc (Nat.le_refl _) (.cells #[.bool g0, .bool g1] 4)
 have b0 := World.alloc_heap_new w (.cells #[.bool g0, .bool g1] 4)
 refine (asked_calls A0 c0 F A1 c1 S A2 c2 T find slot w.heap.size g0 g1 _ (Kd.C_below hr0 hB) hc0 (Kd.C_below hr1 hB) (Kd.C_below hr2 hB) (cell_of_heap b0 rfl) (cell_of_heap b0 rfl)).mono ?_
 rintro e w' ⟨rfl, h⟩
 exact ⟨rfl, hB.trans (h.mono hB.size)⟩
theorem asked_boxed (A0 : Option Addr) (c0 : Nat) (F : List Int) (A1 : Option Addr) (c1 : Nat) (S : List S50) (A2 : Option Addr) (c2 : Nat) (T : List (List Int)) (find slot : Int) (g0 g1 : Bool) (w : World)
  (hr0 : Kd.C (Kd.int .i64) w A0 F.length F) (hc0 : F.length ≤ c0) (hr1 : Kd.C k50 w A1 S.length S) (hr2 : Kd.C (Kd.slice 3 (Kd.int .i64)) w A2 T.length T) (o : Obj) :
  Calls Try.prog 58 #[.agg #[.slice A0 F.length c0, .slice A1 S.length c1, .slice A2 T.length c2], .int .i64 find, .int .i64 slot, .slice (some ⟨w.heap.size + 1, 0, none⟩) 2 2] ((w.alloc o).alloc (.cells #[.bool g0, .bool g1] 4)) (fun e w' => CbPost (askB F S T find slot g0 g1) w e w' ∧ w'.heap[w.heap.size]? = some o) := by
 have hB := (Below.refl w.heap.size w).alloc (Nat.le_refl _) o
 have AN := asked_new A0 c0 F A1 c1 S A2 c2 T find slot g0 g1 (w.alloc o) (Kd.C_below hr0 hB) hc0 (Kd.C_below hr1 hB) (Kd.C_below hr2 hB)
 rw [show (w.alloc o).heap.size = w.heap.size + 1 from by simp] at AN
 refine AN.mono ?_
 rintro e w' ⟨rfl, h⟩
 exact ⟨⟨rfl, hB.trans (h.mono hB.size)⟩, (h.block _ (by simp)).trans (World.alloc_heap_new w o)⟩
set_option maxRecDepth 100000 in
set_option maxHeartbeats 8000000 in
theorem both_calls (A0 : Option Addr) (c0 : Nat) (F : List Int) (A1 : Option Addr) (c1 : Nat) (S : List S50) (A2 : Option Addr) (c2 : Nat) (T : List (List Int)) (find slot : Int) (w : World)
  (hr0 : Kd.C (Kd.int .i64) w A0 F.length F) (hc0 : F.length ≤ c0) (hr1 : Kd.C k50 w A1 S.length S) (hr2 : Kd.C (Kd.slice 3 (Kd.int .i64)) w A2 T.length T) :
  Calls Try.prog 66 #[.agg #[.slice A0 F.length c0, .slice A1 S.length c1, .slice A2 T.length c2], .int .i64 find, .int .i64 slot] w (CbPost (askB F S T find slot false false) w) := by
 have AC := asked_boxed A0 c0 F A1 c1 S A2 c2 T find slot false false w hr0 hc0 hr1 hr2 (.cells #[.slice A0 F.length c0, .slice A1 S.length c1, .slice A2 T.length c2] 26)
 obtain ⟨r, hr⟩ : ∃ r, askB F S T find slot false false = r := ⟨_, rfl⟩
 rw [hr] at AC ⊢
 clear hr hr0 hr1 hr2
 go_enter Try.func66, Try.ntmps66
 go_wp2_with fail
 refine AC.mono ?_
 clear AC
 rintro e w1 ⟨⟨rfl, hB1⟩, _⟩
 have HB1 := Go.Lib.hid hB1
 clear hB1
 go_wp2_with fail
 go_ret
 exact ⟨rfl, HB1.out⟩
end Go.Proofs.Ytkmmihadcbfkoaa
end

section
namespace Go.Proofs.Ytkmmihadcbfkoaa
open PM
theorem ask_parts {F : List Int} {S : List S50} {T : List (List Int)} {find slot : Int} {g0 g1 : Bool} (h : askB F S T find slot g0 g1 = 0) :
  checkB F S T = 0 ∧ (g0 = false → 0 ≤ find ∧ find < F.length) ∧ (g1 = false → 0 ≤ slot ∧ slot < S.length) := by
 unfold askB at h
 split at h
 ·
  rename_i h1; exact absurd h h1
 rename_i h1
 split at h
 ·
  exact absurd h (by decide)
 rename_i h2
 refine ⟨by simpa using h1, fun e => ?_, fun e => ?_⟩
 ·
  have hi : inB find 0 ((F.length : Int) - 1) = true := by
   cases hh : inB find 0 ((F.length : Int) - 1) with
   | false => exact absurd (by rw [hh, e]; rfl) h2
   | true => rfl
  unfold inB at hi
  simp only [Bool.and_eq_true, decide_eq_true_eq] at hi
  omega
 have hi : inB slot 0 ((S.length : Int) - 1) = true := by
  cases hh : inB slot 0 ((S.length : Int) - 1) with
  | false => exact absurd (by rw [hh, e]; cases (!g0 && !inB find 0 ((F.length : Int) - 1)) <;> rfl) h2
  | true => rfl
 unfold inB at hi
 simp only [Bool.and_eq_true, decide_eq_true_eq] at hi
 omega
end Go.Proofs.Ytkmmihadcbfkoaa
end

section
namespace Go.Proofs.Ytkmmihadcbfkoaa
open Go.RowKit Go.Proofs.YtkmmihadcbfkoaaW.PrintWords PM
set_option linter.unusedVariables false
set_option linter.unusedSimpArgs false
def hallR (F : List Int) (S : List S50) (T : List (List Int)) (out : Int) (room : List Int) : FR := fillF T room S.length out (List.replicate F.length (-1))
def PM.match_Hall.f (F : List Int) (S : List S50) (T : List (List Int)) : Option (List Int × Bool × Int) :=
 if checkB F S T ≠ 0 then some ([], false, checkB F S T) else some ((hallR F S T (-1) (rooms S)).hall, !(hallR F S T (-1) (rooms S)).ok, 0)
theorem R_nil (w : World) (b : Nat) : Kd.R (Kd.int .i64) 3 w b (fun _ => True) (.slice none 0 0) [] :=
 Kd.R_of_own (enc := Value.int .i64) (h1 := fun _ => rfl) (ok := fun _ => True) (World.ownsRow_nil w b 3 1) (fun _ _ => trivial)
def LBE (l : List Int) (b : Bool) (e : Int) (w : World) (en : Ending) (w' : World) : Prop :=
 ∃ v0_ : Value, en = .returned (.tuple #[v0_, .bool b, .int .i64 e]) ∧ Kd.R (Kd.int .i64) 3 w' w.heap.size (fun _ => True) v0_ l ∧ Below w.heap.size w w'
set_option maxRecDepth 100000 in
set_option maxHeartbeats 8000000 in
theorem hall_walk (A0 : Option Addr) (c0 : Nat) (F : List Int) (A1 : Option Addr) (c1 : Nat) (S : List S50) (A2 : Option Addr) (c2 : Nat) (T : List (List Int)) (r1 : List Int) (r2 : Bool) (r3 : Int) (w : World)
  (hr0 : Kd.C (Kd.int .i64) w A0 F.length F) (hc0 : F.length ≤ c0) (hr1 : Kd.C k50 w A1 S.length S) (hr2 : Kd.C (Kd.slice 3 (Kd.int .i64)) w A2 T.length T) (h : match_Hall.f F S T = some (r1, r2, r3)) :
  Calls Try.prog 38 #[.agg #[.slice A0 F.length c0, .slice A1 S.length c1, .slice A2 T.length c2]] w (LBE r1 r2 r3 w) := by
 have hB0 := (Below.refl w.heap.size w).alloc (Nat.le_refl _) (.cells #[.slice A0 F.length c0, .slice A1 S.length c1, .slice A2 T.length c2] 26)
 have CB := checkboard_calls A0 c0 F A1 c1 S A2 c2 T _ (Kd.C_below hr0 hB0) hc0 (Kd.C_below hr1 hB0) (Kd.C_below hr2 hB0)
 unfold match_Hall.f at h
 obtain ⟨q, hq⟩ : ∃ q, checkB F S T = q := ⟨_, rfl⟩
 rw [hq] at h CB
 have HB0 := Go.Lib.hid hB0
 have HR := Go.Lib.hid (And.intro hr1 hr2)
 have HQ := Go.Lib.hid hq
 have HH := Go.Lib.hid h
 clear hr0 hr1 hr2 hB0 hq h
 go_enter Try.func38, Try.ntmps38
 go_wp2_with fail
 refine CB.mono ?_
 clear CB
 rintro e w1 ⟨rfl, hB1⟩
 have b1 : w1.heap[w.heap.size]? = some (.cells #[.slice A0 F.length c0, .slice A1 S.length c1, .slice A2 T.length c2] 26 (0, 0)) := by
  rw [hB1.block w.heap.size (by simp)]
  exact World.alloc_heap_new w _
 have hW1 : Below w.heap.size w w1 := HB0.out.trans (hB1.mono HB0.out.size)
 have k0 := cell_of_heap b1 (j := 0) rfl
 have k1 := cell_of_heap b1 (j := 1) rfl
 have k2 := cell_of_heap b1 (j := 2) rfl
 have HW1 := Go.Lib.hid hW1
 clear hB1 b1 hW1
 by_cases hq0 : q = 0
 rotate_left
 ·
  have g9 : decide (q = 0) = false := by simpa using hq0
  have hf := HH.out
  rw [if_pos hq0] at hf
  injection hf with hf
  injection hf with hf1 hf
  injection hf with hf2 hf3
  subst hf1 hf2 hf3
  go_wp2_with fail
  go_ret3
  exact ⟨_, rfl, R_nil _ _, HW1.out⟩
 subst hq0
 have hk := bok_of_check HQ.out
 have TC := tried_calls2 A0 c0 F A1 c1 S A2 c2 T w1 hk (Kd.C_below HR.out.1 HW1.out) (Kd.C_below HR.out.2 HW1.out)
 have hf := HH.out
 rw [if_neg (by simp)] at hf
 injection hf with hf
 obtain ⟨rr, hrr⟩ : ∃ rr, hallR F S T (-1) (rooms S) = rr := ⟨_, rfl⟩
 rw [hrr] at hf
 injection hf with hf1 hf
 injection hf with hf2 hf3
 subst hf2 hf3
 have HRR := Go.Lib.hid hrr
 have HF1 := Go.Lib.hid hf1
 clear hk hrr hf1 HH HQ
 go_wp2_with fail
 refine TC.mono ?_
 clear TC
 rintro e w2 ⟨t, rfl, e1, e2, e3, hT, hB, _⟩
 have FC := fill_calls t T (rooms S) hT.fit (-1) _ hT.len w2 hT.st hT.row
 rw [e1, show fillF T (rooms S) S.length (-1) (List.replicate F.length (-1)) = rr from HRR.out] at FC
 have HT := Go.Lib.hid hT
 have HB := Go.Lib.hid hB
 clear hT hB e1 e2 e3
 go_wp2_with fail
 refine FC.mono ?_
 clear FC
 rintro e w3 ⟨v, rfl, hag, _, how⟩
 have HAG := Go.Lib.hid hag
 have HOW := Go.Lib.hid how
 clear hag how
 go_wp2_with fail
 go_ret3
 have hb2 : Below w.heap.size w w2 := HW1.out.trans (HB.out.mono HW1.out.size)
 have hbl : w.heap.size ≤ t.bh := Nat.le_trans HW1.out.size HT.out.bl
 refine ⟨v, rfl, ?_, HAG.out.below hb2 hb2.size hbl hbl⟩
 rw [← HF1.out]
 exact Kd.R_of_own (enc := Value.int .i64) (h1 := fun _ => rfl) (ok := fun _ => True) (own_weaken HOW.out hb2.size) (fun _ _ => trivial)
theorem PM.match_Hall.calls (A0 : Option Addr) (c0 : Nat) (F : List Int) (A1 : Option Addr) (c1 : Nat) (S : List S50) (A2 : Option Addr) (c2 : Nat) (T : List (List Int)) (r1 : List Int) (r2 : Bool) (r3 : Int) (w : World)
  (hr0 : Kd.C (Kd.int .i64) w A0 F.length F) (hc0 : F.length ≤ c0) (hr1 : Kd.C k50 w A1 S.length S) (hc1 : S.length ≤ c1) (hr2 : Kd.C (Kd.slice 3 (Kd.int .i64)) w A2 T.length T) (hc2 : T.length ≤ c2) (h : match_Hall.f F S T = some (r1, r2, r3)) :
  Calls Try.prog 38 #[.agg #[.slice A0 F.length c0, .slice A1 S.length c1, .slice A2 T.length c2]] w (LBE r1 r2 r3 w) := hall_walk A0 c0 F A1 c1 S A2 c2 T r1 r2 r3 w hr0 hc0 hr1 hr2 h
end Go.Proofs.Ytkmmihadcbfkoaa
end

section
namespace Go.Proofs.Ytkmmihadcbfkoaa
open Go.RowKit Go.Proofs.YtkmmihadcbfkoaaW.PrintWords PM
set_option linter.unusedVariables false
set_option linter.unusedSimpArgs false
def roomsLess (S : List S50) (slot : Int) : List Int := (rooms S).set slot.toNat ((rooms S).getD slot.toNat 0 - 1)
def PM.match_Refuse.f (F : List Int) (S : List S50) (T : List (List Int)) (find slot : Int) : Option (List Int × Bool × Int) :=
 if askB F S T find slot false false ≠ 0 then some ([], false, askB F S T find slot false false)
 else if isF F S T = false then some ([], false, 40)
 else if slot ∉ T.getD find.toNat [] then some ([], true, 0)
 else some ((hallR F S T find (roomsLess S slot)).hall, !(hallR F S T find (roomsLess S slot)).ok, 0)
set_option maxRecDepth 100000 in
set_option maxHeartbeats 8000000 in
theorem refuse_walk (A0 : Option Addr) (c0 : Nat) (F : List Int) (A1 : Option Addr) (c1 : Nat) (S : List S50) (A2 : Option Addr) (c2 : Nat) (T : List (List Int)) (find slot : Int) (r1 : List Int) (r2 : Bool) (r3 : Int) (w : World)
  (hr0 : Kd.C (Kd.int .i64) w A0 F.length F) (hc0 : F.length ≤ c0) (hr1 : Kd.C k50 w A1 S.length S) (hr2 : Kd.C (Kd.slice 3 (Kd.int .i64)) w A2 T.length T) (h : match_Refuse.f F S T find slot = some (r1, r2, r3)) :
  Calls Try.prog 31 #[.agg #[.slice A0 F.length c0, .slice A1 S.length c1, .slice A2 T.length c2], .int .i64 find, .int .i64 slot] w (LBE r1 r2 r3 w) := by
 have hB0 := (Below.refl w.heap.size w).alloc (Nat.le_refl _) (.cells #[.slice A0 F.length c0, .slice A1 S.length c1, .slice A2 T.length c2] 26)
 have CB := both_calls A0 c0 F A1 c1 S A2 c2 T find slot _ (Kd.C_below hr0 hB0) hc0 (Kd.C_below hr1 hB0) (Kd.C_below hr2 hB0)
 unfold match_Refuse.f at h
 obtain ⟨q, hq⟩ : ∃ q, askB F S T find slot false false = q := ⟨_, rfl⟩
 rw [hq] at h CB
 have HB0 := Go.Lib.hid hB0
 have HR := Go.Lib.hid (And.intro hr1 hr2)
 have HQ := Go.Lib.hid hq
 have HH := Go.Lib.hid h
 clear hr0 hr1 hr2 hB0 hq h
 go_enter Try.func31, Try.ntmps31
 go_wp2_with fail
 refine CB.mono ?_
 clear CB
 rintro e w1 ⟨rfl, hB1⟩
 have b1 : w1.heap[w.heap.size]? = some (.cells #[.slice A0 F.length c0, .slice A1 S.length c1, .slice A2 T.length c2] 26 (0, 0)) := by
  rw [hB1.block w.heap.size (by simp)]
  exact World.alloc_heap_new w _
 have hW1 : Below w.heap.size w w1 := HB0.out.trans (hB1.mono HB0.out.size)
 have k0 := cell_of_heap b1 (j := 0) rfl
 have k1 := cell_of_heap b1 (j := 1) rfl
 have k2 := cell_of_heap b1 (j := 2) rfl
 have HW1 := Go.Lib.hid hW1
 have BX1 := Go.Lib.hid b1
 clear hB1 b1 hW1
 by_cases hq0 : q = 0
 rotate_left
 ·
  have g9 : decide (q = 0) = false := by simpa using hq0
  have hf := HH.out
  rw [if_pos hq0] at hf
  injection hf with hf
  injection hf with hf1 hf
  injection hf with hf2 hf3
  subst hf1 hf2 hf3
  go_wp2_with fail
  go_ret3
  exact ⟨_, rfl, R_nil _ _, HW1.out⟩
 subst hq0
 obtain ⟨hcb, hfd, hsl⟩ := ask_parts HQ.out
 obtain ⟨hfd0, hfd1⟩ := hfd rfl
 obtain ⟨hsl0, hsl1⟩ := hsl rfl
 have hk := bok_of_check hcb
 have hfd2 : find < (T.length : Int) := by rw [hk.nt]; exact hfd1
 have hf := HH.out
 rw [if_neg (by simp)] at hf
 have HK := Go.Lib.hid hk
 have HCB := Go.Lib.hid hcb
 clear HH HQ hk hcb
 cases hok : isF F S T with
 | false =>
  have MC := matched_no A0 c0 F A1 c1 S A2 c2 T w1 HK.out (Kd.C_below HR.out.1 HW1.out) (Kd.C_below HR.out.2 HW1.out) hok
  rw [if_pos hok] at hf
  injection hf with hf
  injection hf with hf1 hf
  injection hf with hf2 hf3
  subst hf1 hf2 hf3
  clear hok
  go_wp2_with fail
  refine MC.mono ?_
  clear MC
  rintro e w2 ⟨rfl, hB2⟩
  have HB2 := Go.Lib.hid (HW1.out.trans (hB2.mono HW1.out.size))
  clear hB2
  go_wp2_with fail
  go_ret3
  exact ⟨_, rfl, R_nil _ _, HB2.out⟩
 | true =>
  have MC := matched_yes A0 c0 F A1 c1 S A2 c2 T w1 HK.out (Kd.C_below HR.out.1 HW1.out) (Kd.C_below HR.out.2 HW1.out) hok
  rw [if_neg (by rw [hok]; simp)] at hf
  have HF := Go.Lib.hid hf
  clear hok hf
  go_wp2_with fail
  refine MC.mono ?_
  clear MC
  rintro e w2 ⟨tm, rfl, _, _, _, _, hB2⟩
  have hW2 := HW1.out.trans (hB2.mono HW1.out.size)
  have b2 := (hB2.block w.heap.size (Array.getElem?_eq_some_iff.1 BX1.out).1).trans BX1.out
  have k0 := cell_of_heap b2 (j := 0) rfl
  have k1 := cell_of_heap b2 (j := 1) rfl
  have k2 := cell_of_heap b2 (j := 2) rfl
  obtain ⟨a, Ar, cr, e2, hx, hlc, hC⟩ := rows_at (Kd.C_below HR.out.2 hW2) find hfd0 hfd2
  obtain ⟨row, hrw⟩ : ∃ row, T.getD find.toNat [] = row := ⟨_, rfl⟩
  rw [hrw] at hx hlc hC
  have CC := contains_calls Ar cr row slot w2 hC hlc
  have HF2 := HF.out
  rw [hrw] at HF2
  have HF := Go.Lib.hid HF2
  have HW2 := Go.Lib.hid hW2
  have BX2 := Go.Lib.hid b2
  have e2' := e2
  clear hB2 hW2 b2 hC hrw HF2 e2
  subst e2'
  go_wp2_with fail
  refine CC.mono ?_
  clear CC
  rintro e w3 ⟨rfl, hd⟩
  have hW3 := HW2.out.trans (hd.below.mono HW2.out.size)
  have b3 := (hd.below.block w.heap.size (Array.getElem?_eq_some_iff.1 BX2.out).1).trans BX2.out
  have k0 := cell_of_heap b3 (j := 0) rfl
  have k1 := cell_of_heap b3 (j := 1) rfl
  have k2 := cell_of_heap b3 (j := 2) rfl
  have HW3 := Go.Lib.hid hW3
  clear hW3 b3 hd
  by_cases hin : slot ∈ row
  rotate_left
  ·
   rw [decide_eq_false hin]
   have hf := HF.out
   rw [if_pos hin] at hf
   injection hf with hf
   injection hf with hf1 hf
   injection hf with hf2 hf3
   subst hf1 hf2 hf3
   clear hin
   go_wp2_with fail
   go_ret3
   exact ⟨_, rfl, R_nil _ _, HW3.out⟩
  rw [decide_eq_true hin]
  have hf := HF.out
  rw [if_neg (by simpa using hin)] at hf
  injection hf with hf
  obtain ⟨rr, hrr⟩ : ∃ rr, hallR F S T find (roomsLess S slot) = rr := ⟨_, rfl⟩
  rw [hrr] at hf
  injection hf with hf1 hf
  injection hf with hf2 hf3
  subst hf2 hf3
  have HRR := Go.Lib.hid hrr
  have HF1 := Go.Lib.hid hf1
  have TC := tried_calls3 A0 c0 F A1 c1 S (some a) c2 T w3 HK.out (Kd.C_below HR.out.1 HW3.out) (Kd.C_below HR.out.2 HW3.out)
  have hrb := room_bound HCB.out slot.toNat (by omega)
  clear hrr hf1 hin
  go_wp2_with fail
  refine TC.mono ?_
  clear TC
  rintro e w4 ⟨t, rfl, hN, en1, en2⟩
  have hlr : (rooms S).length = S.length := by simp [rooms]
  obtain ⟨Ab, eA, hc, hfz, hN2⟩ := hN.set slot hsl0 (by omega) ((rooms S).getD slot.toNat 0 - 1)
  have y3 := cell_of_heap hN.gb (j := 3) rfl
  rw [eA, hlr] at y3
  have FC := fill_calls t T _ hN2.fit find _ hN2.len _ hN2.stands hN2.row
  rw [en1, show fillF T ((rooms S).set slot.toNat ((rooms S).getD slot.toNat 0 - 1)) S.length find (List.replicate F.length (-1)) = rr from HRR.out] at FC
  obtain ⟨v, hv⟩ : ∃ v, (rooms S).getD slot.toNat 0 = v := ⟨_, rfl⟩
  rw [hv] at hrb hc FC hN2
  obtain ⟨hv1, hv2⟩ := hrb
  have HB2 := Go.Lib.hid hN2.B
  have HL2 := Go.Lib.hid hN2.hl
  clear hN hN2 en1 en2 hlr hv eA
  go_wp2_with fail
  refine FC.mono ?_
  clear FC
  rintro e w5 ⟨vh, rfl, hag, _, how⟩
  have hsz := HW3.out.size
  have hb5 := hag.below (HW3.out.trans (HB2.out.mono hsz)) (Nat.le_trans hsz HB2.out.size) (Nat.le_trans hsz HL2.out) (Nat.le_trans hsz HL2.out)
  have hR := Kd.R_of_own (enc := Value.int .i64) (h1 := fun _ => rfl) (ok := fun _ => True) (own_weaken how (Nat.le_trans hsz HB2.out.size)) (fun _ _ => trivial)
  rw [HF1.out] at hR
  have HB5 := Go.Lib.hid hb5
  have HR5 := Go.Lib.hid hR
  clear hag how hb5 hR hsz
  go_wp2_with fail
  go_ret3
  exact ⟨vh, rfl, HR5.out, HB5.out⟩
theorem PM.match_Refuse.calls (A0 : Option Addr) (c0 : Nat) (F : List Int) (A1 : Option Addr) (c1 : Nat) (S : List S50) (A2 : Option Addr) (c2 : Nat) (T : List (List Int)) (find slot : Int) (r1 : List Int) (r2 : Bool) (r3 : Int) (w : World)
  (hr0 : Kd.C (Kd.int .i64) w A0 F.length F) (hc0 : F.length ≤ c0) (hr1 : Kd.C k50 w A1 S.length S) (hc1 : S.length ≤ c1) (hr2 : Kd.C (Kd.slice 3 (Kd.int .i64)) w A2 T.length T) (hc2 : T.length ≤ c2) (h : match_Refuse.f F S T find slot = some (r1, r2, r3)) :
  Calls Try.prog 31 #[.agg #[.slice A0 F.length c0, .slice A1 S.length c1, .slice A2 T.length c2], .int .i64 find, .int .i64 slot] w (LBE r1 r2 r3 w) := refuse_walk A0 c0 F A1 c1 S A2 c2 T find slot r1 r2 r3 w hr0 hc0 hr1 hr2 h
end Go.Proofs.Ytkmmihadcbfkoaa
end

section
namespace Go.Proofs.Ytkmmihadcbfkoaa
open PM
set_option linter.unusedVariables false
set_option linter.unusedSimpArgs false
abbrev AsgB (S : List S50) (T : List (List Int)) (l : List Int) : Prop := Asg T (rooms S) S.length (-1) l
abbrev CanB (S : List S50) (T : List (List Int)) (find : Nat) (slot : Int) : Prop := Can T (rooms S) S.length find slot
section
variable {F : List Int} {S : List S50} {T : List (List Int)}
theorem fitsok_of (hc : checkB F S T = 0) : FitsOk T S.length := fun f hf s hs => fits_mem (bok_of_check hc) f hf s hs
theorem rooms_len (S : List S50) : (rooms S).length = S.length := by simp [rooms]
theorem rooms_one (hc : checkB F S T = 0) : ∀ s : Nat, s < S.length → 1 ≤ (rooms S).getD s 0 := fun s hs => (room_bound hc s hs).1
theorem rooms_nn (hc : checkB F S T = 0) : ∀ s : Nat, s < S.length → 0 ≤ (rooms S).getD s 0 := fun s hs => by have := rooms_one hc s hs; omega
theorem less_nn (hc : checkB F S T = 0) {slot : Int} (h0 : 0 ≤ slot) (h1 : slot < S.length) : ∀ s : Nat, s < S.length → 0 ≤ (roomsLess S slot).getD s 0 := fun s hs => by
 have h := rooms_one hc s hs
 have e : (roomsLess S slot).getD s 0 = if s = slot.toNat then (rooms S).getD slot.toNat 0 - 1 else (rooms S).getD s 0 := lessR_at (room := rooms S) (slot := slot) (by rw [rooms_len]; omega) s
 rw [e]
 split
 ·
  rename_i k; rw [← k]; omega
 ·
  omega
theorem meets_iff (hc : checkB F S T = 0) (l : List Int) : meetsB F S T l = true ↔ AsgB S T l := by
 have hf := fitsok_of hc
 have hnt := (bok_of_check hc).nt
 unfold meetsB
 rw [Bool.and_eq_true, decide_eq_true_eq, List.all_eq_true]
 constructor
 ·
  rintro ⟨hl, hall⟩
  have hlen : l.length = T.length := by omega
  have hat : ∀ f : Nat, f < T.length → meetAt T (rooms S) l f = true := fun f h => hall f (List.mem_range.2 (by omega))
  refine ⟨hlen, fun f h k => ?_, fun f h k _ => ?_, fun s hs => ?_⟩
  ·
   rcases k with k | k
   ·
    have := hat f h
    unfold meetAt at this
    rw [if_pos k] at this
    simpa using this
   omega
  ·
   have := hat f h
   unfold meetAt at this
   rw [if_neg k, Bool.and_eq_true] at this
   simpa using this.1
  by_cases e : atOf l s = []
  ·
   have h0 : ld l s = 0 := by unfold ld; rw [e]; rfl
   have := rooms_nn hc s hs
   omega
  obtain ⟨g, gs, eg⟩ := List.exists_cons_of_ne_nil e
  obtain ⟨g0, g1, g2⟩ := mem_atOf.1 (show g ∈ atOf l (s : Int) by rw [eg]; simp)
  rw [← List.getD_eq_getElem?_getD] at g2
  have := hat g.toNat (by omega)
  unfold meetAt at this
  rw [g2] at this
  by_cases k : T.getD g.toNat [] = []
  ·
   rw [if_pos k] at this
   simp only [decide_eq_true_eq] at this
   omega
  rw [if_neg k, Bool.and_eq_true, decide_eq_true_eq, decide_eq_true_eq, Int.toNat_natCast] at this
  exact this.2
 intro ha
 refine ⟨by have := ha.len; omega, fun f hfm => ?_⟩
 have h : f < T.length := by have := List.mem_range.1 hfm; have := ha.len; omega
 unfold meetAt
 by_cases k : T.getD f [] = []
 ·
  rw [if_pos k, decide_eq_true_eq]
  exact ha.none f h (Or.inl k)
 rw [if_neg k, Bool.and_eq_true, decide_eq_true_eq, decide_eq_true_eq]
 have hin := ha.some f h k (by omega)
 obtain ⟨h0, h1⟩ := hf f h _ hin
 refine ⟨hin, ?_⟩
 have := ha.load (l.getD f 0).toNat (by omega)
 rwa [Int.toNat_of_nonneg h0] at this
theorem isF_iff (hc : checkB F S T = 0) : isF F S T = true ↔ ∃ l, AsgB S T l := by
 unfold isF
 rw [← (bok_of_check hc).nt]
 exact fill_iff (fitsok_of hc) (rooms_nn hc)
theorem hasF_asg (hc : checkB F S T = 0) (h : isF F S T = true) : AsgB S T (hasF F S T) := by
 unfold isF at h
 unfold hasF
 rw [← (bok_of_check hc).nt] at h ⊢
 exact (fill_yes (fitsok_of hc) (rooms_nn hc) h).1
theorem hallR_iff (hc : checkB F S T = 0) {out : Int} {room : List Int} (hr : ∀ s : Nat, s < S.length → 0 ≤ room.getD s 0) : (hallR F S T out room).ok = true ↔ ∃ l, Asg T room S.length out l := by
 unfold hallR
 rw [← (bok_of_check hc).nt]
 exact fill_iff (fitsok_of hc) hr
theorem hallR_yes (hc : checkB F S T = 0) {out : Int} {room : List Int} (hr : ∀ s : Nat, s < S.length → 0 ≤ room.getD s 0) (h : (hallR F S T out room).ok = true) : (hallR F S T out room).hall = [] := by
 unfold hallR at h ⊢
 rw [← (bok_of_check hc).nt] at h ⊢
 exact (fill_yes (fitsok_of hc) hr h).2
theorem hallR_no (hc : checkB F S T = 0) {out : Int} {room : List Int} (hr : ∀ s : Nat, s < S.length → 0 ≤ room.getD s 0) (h : (hallR F S T out room).ok = false) : HallV T room S.length out (hallR F S T out room).hall := by
 unfold hallR at h ⊢
 rw [← (bok_of_check hc).nt] at h ⊢
 exact fill_no (fitsok_of hc) hr h
theorem ris_of_asc {l : List Int} {n : Nat} (h : l.Pairwise (· < ·)) (hr : ∀ f, f ∈ l → 0 ≤ f ∧ f < n) : risB l 0 ((n : Int) - 1) = true := by
 unfold risB
 rw [List.all_eq_true]
 intro i hi
 have hi' := List.mem_range.1 hi
 have hg : ∀ j, j < l.length → l.getD j 0 ∈ l := fun j hj => by
  rw [List.getD_eq_getElem?_getD, List.getElem?_eq_getElem hj]
  exact List.getElem_mem hj
 obtain ⟨h0, h1⟩ := hr _ (hg i hi')
 unfold risAt inB
 rw [Bool.and_eq_true, Bool.and_eq_true, decide_eq_true_eq, decide_eq_true_eq, Bool.or_eq_true, decide_eq_true_eq, decide_eq_true_eq]
 refine ⟨⟨h0, by omega⟩, ?_⟩
 by_cases e : i = 0
 ·
  exact Or.inl e
 have := List.pairwise_iff_getElem.1 h (i - 1) i (by omega) hi' (by omega)
 refine Or.inr ?_
 simpa [List.getD_eq_getElem?_getD, List.getElem?_eq_getElem hi', List.getElem?_eq_getElem (show i - 1 < l.length by omega)] using this
theorem asc_of_ris {l : List Int} {a b : Int} (h : risB l a b = true) : l.Pairwise (· < ·) := by
 have hs : ∀ d i, i + d + 1 < l.length → l.getD i 0 < l.getD (i + d + 1) 0 := by
  intro d
  induction d with
  | zero => intro i hi; have := (risB_at h (i + 1) hi).2.2 (by omega); simpa using this
  | succ d ih =>
   intro i hi
   have h1 := ih i (by omega)
   have h2 := (risB_at h (i + d + 1 + 1) (by omega)).2.2 (by omega)
   have e : i + d + 1 + 1 - 1 = i + d + 1 := by omega
   rw [e] at h2
   have e2 : i + (d + 1) + 1 = i + d + 1 + 1 := by omega
   rw [e2]
   omega
 rw [List.pairwise_iff_getElem]
 intro i j hi hj hij
 have := hs (j - i - 1) i (by omega)
 rw [show i + (j - i - 1) + 1 = j by omega] at this
 simpa [List.getD_eq_getElem?_getD, List.getElem?_eq_getElem hi, List.getElem?_eq_getElem hj] using this
theorem rest_zsum {room : List Int} {near : List Bool} {less : Int} (hroom : ∀ s : Nat, s < S.length → room.getD s 0 = (rooms S).getD s 0 - if (s : Int) = less then 1 else 0) :
  restSum S near less 0 = zsum S.length (fun s => near.getD s false) (fun s => room.getD s 0) := by
 unfold restSum zsum
 rw [List.drop_zero]
 congr 1
 refine List.map_congr_left fun s hs => ?_
 have hs' := List.mem_range.1 hs
 unfold pieceOf
 by_cases h : near.getD s false = true
 rotate_left
 ·
  rw [if_neg h, if_neg h]
 rw [if_pos h, if_pos h]
 show _ = room.getD s 0
 rw [hroom s hs', rooms_at S s hs']
theorem near_iff (hc : checkB F S T = 0) {fs : List Int} (hfs : ∀ f, f ∈ fs → 0 ≤ f ∧ f < T.length) {t : Nat} (ht : t < S.length) :
  ((markAll T (List.replicate S.length false) fs).getD t false = true ↔ ∃ f, f ∈ fs ∧ (t : Int) ∈ T.getD f.toNat []) := by
 rw [markAll_at (fits_mem (bok_of_check hc)) fs _ t (by simp) hfs ht, getD_false]
 simp
theorem short_of_hall (hc : checkB F S T = 0) {room : List Int} {less out : Int} (hroom : ∀ s : Nat, s < S.length → room.getD s 0 = (rooms S).getD s 0 - if (s : Int) = less then 1 else 0) (hnn : ∀ s : Nat, s < S.length → 0 ≤ room.getD s 0) {fs : List Int} (h : HallV T room S.length out fs) :
  shortB F S T fs less = true := by
 obtain ⟨Z, hz, hlt⟩ := h.z
 unfold shortB
 rw [Bool.and_eq_true, Bool.and_eq_true, List.all_eq_true, decide_eq_true_eq]
 refine ⟨ris_of_asc h.asc (fun f hf => by have := h.rng f hf; have := (bok_of_check hc).nt; omega), fun f hf => ?_, ?_⟩
 ·
  rw [decide_eq_false (h.ne f hf)]; rfl
 rw [rest_zsum hroom]
 refine Int.lt_of_le_of_lt (zsum_le fun s hs => ?_) hlt
 by_cases k : (markAll T (List.replicate S.length false) fs).getD s false = true
 rotate_left
 ·
  rw [if_neg k]
  have := hnn s hs
  split <;> omega
 rw [if_pos k]
 obtain ⟨f, hf, hm⟩ := (near_iff hc h.rng hs).1 k
 have := hz f hf _ hm
 rw [Int.toNat_natCast] at this
 rw [if_pos this]
 exact Int.le_refl _
theorem hall_of_short (hc : checkB F S T = 0) {room : List Int} {less out : Int} (hroom : ∀ s : Nat, s < S.length → room.getD s 0 = (rooms S).getD s 0 - if (s : Int) = less then 1 else 0) {fs : List Int} (h : shortB F S T fs less = true) (ho : out ∉ fs) :
  HallV T room S.length out fs := by
 unfold shortB at h
 rw [Bool.and_eq_true, Bool.and_eq_true, List.all_eq_true, decide_eq_true_eq] at h
 obtain ⟨h1, h2, h3⟩ := h
 have hnt := (bok_of_check hc).nt
 have hrng : ∀ f, f ∈ fs → 0 ≤ f ∧ f < T.length := fun f hf => by have := ris_mem h1 f hf; omega
 refine ⟨asc_of_ris h1, hrng, fun f hf e => ?_, ho, fun s => (markAll T (List.replicate S.length false) fs).getD s false, fun f hf s hs => ?_, ?_⟩
 ·
  have := h2 f hf
  rw [decide_eq_true e] at this
  cases this
 ·
  have hr := hrng f hf
  obtain ⟨k0, k1⟩ := fitsok_of hc f.toNat (by omega) s hs
  refine (near_iff hc hrng (by omega)).2 ⟨f, hf, ?_⟩
  rw [Int.toNat_of_nonneg k0]
  exact hs
 rw [← rest_zsum hroom]
 exact h3
theorem rooms_less (S : List S50) {slot : Int} (h0 : 0 ≤ slot) (h1 : slot < S.length) : ∀ s : Nat, s < S.length → (roomsLess S slot).getD s 0 = (rooms S).getD s 0 - if (s : Int) = slot then 1 else 0 := fun s hs => by
 have e : (roomsLess S slot).getD s 0 = if s = slot.toNat then (rooms S).getD slot.toNat 0 - 1 else (rooms S).getD s 0 := lessR_at (room := rooms S) (slot := slot) (by rw [rooms_len]; omega) s
 rw [e]
 by_cases k : s = slot.toNat
 ·
  rw [if_pos k, if_pos (by omega), ← k]
 ·
  rw [if_neg k, if_neg (by omega)]
  omega
theorem crowded_deny (hc : checkB F S T = 0) {fs : List Int} {find slot : Int} (h0 : 0 ≤ slot) (h1 : slot < S.length) : crowdedB F S T fs find slot = true ↔ HallV T (roomsLess S slot) S.length find fs := by
 rw [crowded_is hc, Bool.and_eq_true]
 constructor
 ·
  rintro ⟨k1, k2⟩
  exact hall_of_short hc (rooms_less S h0 h1) k1 (by simpa using k2)
 intro h
 exact ⟨short_of_hall hc (rooms_less S h0 h1) (less_nn hc h0 h1) h, by simpa using h.out⟩
theorem canB_iff (hc : checkB F S T = 0) {find : Nat} {slot : Int} (hfd : find < T.length) (hin : slot ∈ T.getD find []) : CanB S T find slot ↔ ∃ l, Asg T (roomsLess S slot) S.length find l :=
 can_iff (fitsok_of hc) (rooms_len S) hfd hin
theorem withB_spec (hc : checkB F S T = 0) (his : isF F S T = true) {find : Nat} (hfd : find < T.length) {slot : Int} (h0 : 0 ≤ slot) :
  ((withF T (rooms S) S.length (hasF F S T) find slot).ok = true → AsgB S T (withF T (rooms S) S.length (hasF F S T) find slot).has ∧ (withF T (rooms S) S.length (hasF F S T) find slot).has.getD find 0 = slot) ∧
  ((withF T (rooms S) S.length (hasF F S T) find slot).ok = false → (withF T (rooms S) S.length (hasF F S T) find slot).has = [] ∧ ¬ CanB S T find slot) :=
 with_spec (fitsok_of hc) (rooms_len S) (rooms_one hc) (hasF_asg hc his) hfd h0
theorem withB_iff (hc : checkB F S T = 0) (his : isF F S T = true) {find : Nat} (hfd : find < T.length) {slot : Int} (h0 : 0 ≤ slot) : (withF T (rooms S) S.length (hasF F S T) find slot).ok = true ↔ CanB S T find slot :=
 with_iff (fitsok_of hc) (rooms_len S) (rooms_one hc) (hasF_asg hc his) hfd h0
end
end Go.Proofs.Ytkmmihadcbfkoaa
end

section
namespace Go.Proofs.Ytkmmihadcbfkoaa
open Go.RowKit Go.Proofs.YtkmmihadcbfkoaaW.PrintWords PM
set_option linter.unusedVariables false
set_option linter.unusedSimpArgs false
def tryRow (F : List Int) (S : List S50) (f : Nat) : List Int → List (List Int) → List Int → List (List Int) × List Int
 | [], T, out => (T, out)
 | s :: ss, T, out => if isF F S (T.set f [s]) = true then (T.set f [s], out.set f s) else tryRow F S f ss (T.set f [s]) out
def nextF (F : List Int) (S : List S50) (T0 : List (List Int)) : Nat → Nat → List (List Int) → List Int → List Int
 | 0, _, _, out => out
 | n + 1, f, T, out => nextF F S T0 n (f + 1) (tryRow F S f (T0.getD f []) T out).1 (tryRow F S f (T0.getD f []) T out).2
structure AG (Cf Bo : Nat) (w w' : World) : Prop where
 os : w'.os = w.os
 tape : w'.tape = w.tape
 output : w'.output = w.output
 size : w.heap.size ≤ w'.heap.size
 block : ∀ k, k < w.heap.size → k ≠ Cf → k ≠ Bo → w'.heap[k]? = w.heap[k]?
 cells : szOf (w'.heap[Bo]?) = szOf (w.heap[Bo]?)
theorem AG.refl (Cf Bo : Nat) (w : World) : AG Cf Bo w w := ⟨rfl, rfl, rfl, Nat.le_refl _, fun _ _ _ _ => rfl, rfl⟩
theorem AG.trans {Cf Bo : Nat} {a b c : World} (h : AG Cf Bo a b) (k : AG Cf Bo b c) : AG Cf Bo a c :=
 ⟨k.os.trans h.os, k.tape.trans h.tape, k.output.trans h.output, Nat.le_trans h.size k.size, fun i hi h1 h2 => (k.block i (Nat.lt_of_lt_of_le hi h.size) h1 h2).trans (h.block i hi h1 h2), k.cells.trans h.cells⟩
theorem AG.of_below {Cf Bo : Nat} {w w' : World} (h : Below w.heap.size w w') (hB : Bo < w.heap.size) : AG Cf Bo w w' := ⟨h.os, h.tape, h.output, h.size, fun k hk _ _ => h.block k hk, by rw [h.block Bo hB]⟩
theorem AG.of_grown {Cf Bo : Nat} {w w' : World} (h : w.grownBy w' (some Cf)) (hB : Bo < w.heap.size) (hne : Bo ≠ Cf) : AG Cf Bo w w' := ⟨h.os, h.tape, h.output, h.size, fun k hk h1 _ => h.block k hk (by simpa using h1), by rw [h.block Bo hB (by simpa using hne)]⟩
theorem AG.put {Cf Bo : Nat} (w : World) (o : Nat) (v : Value) : AG Cf Bo w (w.setCell ⟨Bo, o, none⟩ v) := ⟨rfl, rfl, rfl, by simp [World.setCell], fun k _ _ h => Below.heap_setCell _ _ _ _ h, szOf_setCell _ _ _ _⟩
structure AL where
 A0 : Option Addr
 c0 : Nat
 A1 : Option Addr
 c1 : Nat
 A2 : Option Addr
 c2 : Nat
 Bc : Nat
 Bb : Nat
 Bq : Nat
 Bn : Nat
 Cf : Nat
 cf : Nat
 Bo : Nat
 base : Nat
 ra : Nat → Option Addr
 rc : Nat → Nat
structure AStill (L : AL) (F : List Int) (S : List S50) (T : List (List Int)) (w : World) : Prop where
 cb : w.heap[L.Bb]? = some (.cells #[.slice L.A0 F.length L.c0, .slice L.A1 S.length L.c1, .slice L.A2 T.length L.c2] 26 (0, 0))
 cc : w.heap[L.Bc]? = some (.cells #[.slice L.A0 F.length L.c0, .slice L.A1 S.length L.c1, .slice (some ⟨L.Cf, 0, none⟩) T.length L.cf] 26 (0, 0))
 cq : w.heap[L.Bq]? = some (.cells #[.slice (some ⟨L.Bo, 0, none⟩) F.length F.length] 22 (0, 0))
 cn : w.heap[L.Bn]? = some (.cells #[.func (.func 55) #[] #[.pointer (some ⟨L.Bc, 0, none⟩), .pointer (some ⟨L.Bb, 0, none⟩), .pointer (some ⟨L.Bq, 0, none⟩), .pointer (some ⟨L.Bn, 0, none⟩)]] 73 (0, 0))
 slots : Kd.C k50 w L.A1 S.length S
 fits : RowsAt w L.A2 L.ra L.rc T
def AStands (L : AL) (F : List Int) (S : List S50) (T : List (List Int)) (w : World) : Prop := ∀ w', AG L.Cf L.Bo w w' → AStill L F S T w'
theorem AStands.still {L : AL} {F : List Int} {S : List S50} {T : List (List Int)} {w : World} (h : AStands L F S T w) : AStill L F S T w := h w (AG.refl _ _ _)
theorem AStands.later {L : AL} {F : List Int} {S : List S50} {T : List (List Int)} {w w' : World} (h : AStands L F S T w) (a : AG L.Cf L.Bo w w') : AStands L F S T w' := fun w2 k => h w2 (a.trans k)
structure ATurn (L : AL) (F : List Int) (S : List S50) (T0 T : List (List Int)) (out : List Int) (w : World) : Prop where
 fits : Kd.N (Kd.slice 3 (Kd.int .i64)) 22 w L.base (fun k => k ≠ L.Bo) (.slice (some ⟨L.Cf, 0, none⟩) T0.length L.cf) T
 row : RowAt w L.Bo 3 (Value.int .i64) out
 lt : T.length = T0.length
 lo : out.length = F.length
 ok : BOK F S T
theorem BOK.set {F : List Int} {S : List S50} {T : List (List Int)} (h : BOK F S T) (f : Nat) (s : Int) (h0 : 0 ≤ s) (h1 : s < S.length) : BOK F S (T.set f [s]) := by
 have hg : ∀ i : Nat, i < T.length → (T.set f [s]).getD i [] = if f = i then [s] else T.getD i [] := fun i hi => by
  rw [List.getD_eq_getElem?_getD, List.getElem?_set]
  by_cases e : f = i
  ·
   rw [if_pos e, if_pos e, if_pos (by omega)]; rfl
  ·
   rw [if_neg e, if_neg e, List.getD_eq_getElem?_getD]
 refine ⟨h.nf, h.ns, by rw [List.length_set]; exact h.nt, fun i hi => ?_, fun i hi j hj => ?_⟩
 ·
  rw [List.length_set] at hi
  rw [hg i hi]
  split
  ·
   simp
  exact h.row i hi
 rw [List.length_set] at hi
 rw [hg i hi] at hj ⊢
 split at hj
 ·
  rename_i e
  rw [if_pos e]
  have : j = 0 := by simpa using hj
  subst this
  exact ⟨h0, h1⟩
 rename_i e
 rw [if_neg e]
 exact h.slot i hi j hj
theorem C_of_row' {w : World} {b n : Nat} {xs : List Int} (h : RowAt w b 3 (Value.int .i64) xs) (hl : xs.length = n) (hn : n ≤ 9223372036854775807) : Kd.C (Kd.int .i64) w (some ⟨b, 0, none⟩) n xs :=
 Kd.C_of_reads (enc := Value.int .i64) (d := (0 : Int)) (h1 := fun _ => rfl) ⟨hl, hn, fun _ => ⟨⟨b, 0, none⟩, rfl, fun j hj => by
  rw [add_plain, h.cell j (by omega)]
  simp [List.getD_eq_getElem?_getD, List.getElem?_eq_getElem (show j < xs.length by omega)]⟩⟩
theorem ATurn.below {L : AL} {F : List Int} {S : List S50} {T0 T : List (List Int)} {out : List Int} {w w' : World} (h : ATurn L F S T0 T out w) (hb : Below w.heap.size w w') : ATurn L F S T0 T out w' :=
 ⟨Kd.N_below h.fits hb, h.row.below hb, h.lt, h.lo, h.ok⟩
theorem ATurn.put {L : AL} {F : List Int} {S : List S50} {T0 T : List (List Int)} {out : List Int} {w : World} (h : ATurn L F S T0 T out w) (f : Nat) (s : Int) : ATurn L F S T0 T (out.set f s) (w.setCell ⟨L.Bo, f, none⟩ (.int .i64 s)) :=
 ⟨Kd.N_far (p := ⟨L.Bo, f, none⟩) h.fits (fun k hk => hk) _, h.row.set f s, h.lt, by rw [List.length_set]; exact h.lo, h.ok⟩
def NextPost (L : AL) (F : List Int) (S : List S50) (r : List Int) (w : World) (e : Ending) (w' : World) : Prop := e = .returned (.tuple #[]) ∧ AG L.Cf L.Bo w w' ∧ RowAt w' L.Bo 3 (Value.int .i64) r
set_option maxRecDepth 100000 in
set_option maxHeartbeats 8000000 in
theorem next_calls (L : AL) (F : List Int) (S : List S50) (T0 : List (List Int)) (hne : L.Bo ≠ L.Cf) (hk0 : BOK F S T0) (n : Nat) : ∀ (f : Nat) (T : List (List Int)) (out : List Int) (w : World), f + n = T0.length → AStands L F S T0 w → ATurn L F S T0 T out w →
  Calls Try.prog 55 #[.int .i64 f, .pointer (some ⟨L.Bc, 0, none⟩), .pointer (some ⟨L.Bb, 0, none⟩), .pointer (some ⟨L.Bq, 0, none⟩), .pointer (some ⟨L.Bn, 0, none⟩)] w (NextPost L F S (nextF F S T0 n f T out) w) := by
 induction n with
 | zero =>
  intro f T out w hfn hS hT
  have hst := hS.still
  have d2 := cell_of_heap hst.cc (j := 2) rfl
  obtain rfl : f = T0.length := by omega
  have HT := Go.Lib.hid hT
  clear hst hS hT hfn
  unfold nextF
  go_enter Try.func55, Try.ntmps55
  go_wp2_with fail
  go_step3
  go_wp2_with fail
  rw [Exit.noGoto_ret]
  go_end0
  exact ⟨rfl, AG.refl _ _ _, HT.out.row⟩
 | succ n ih =>
  intro f T out w hfn hS hT
  have hst := hS.still
  have d2 := cell_of_heap hst.cc (j := 2) rfl
  have b2 := cell_of_heap hst.cb (j := 2) rfl
  have hft : f < T0.length := by omega
  have g1 : ((f : Int) == (T0.length : Int)) = false := by
   rw [beq_eq_false_iff_ne]; omega
  obtain ⟨a8, e8, hx8, hC⟩ := hst.fits f hft
  obtain ⟨res, hres⟩ : ∃ res, nextF F S T0 (n + 1) f T out = res := ⟨_, rfl⟩
  rw [hres]
  unfold nextF at hres
  have hslot := hk0.slot f hft
  have hrl := hk0.row f hft
  have hno := hk0.nt
  have lT0 : T0.length ≤ 60 := by rw [hno]; exact hk0.nf
  obtain ⟨row, hrw⟩ : ∃ row, T0.getD f [] = row := ⟨_, rfl⟩
  rw [hrw] at hx8 hC hslot hres hrl
  rw [e8] at b2
  have hSt : ∀ w', AG L.Cf L.Bo w w' → Kd.C (Kd.int .i64) w' (L.ra f) row.length row := by
   intro w' a
   obtain ⟨_, _, _, hC'⟩ := (hS w' a).fits f hft
   rwa [hrw] at hC'
  have HT := Go.Lib.hid hT
  have HS := Go.Lib.hid hS
  have HRES := Go.Lib.hid hres
  have HSL := Go.Lib.hid hslot
  have HST := Go.Lib.hid hSt
  have IH := Go.Lib.hid ih
  have HK0 := Go.Lib.hid hk0
  have HFN := Go.Lib.hid hfn
  have HNO := Go.Lib.hid hno
  have hfn1 : f + 1 ≤ T0.length := by omega
  clear hst hS hT hfn hres hslot ih hk0 hC hrw e8 hno hSt
  go_enter Try.func55, Try.ntmps55
  go_wp2_with fail
  go_step3
  go_wp2_with fail
  go_step3
  go_wp2_with fail
  go_loopw [21] (fun i wr => ∃ k : Nat, k ≤ row.length ∧ i = .int .i64 k ∧ Hid (∃ T' out', nextF F S T0 n (f + 1) (tryRow F S f (row.drop k) T' out').1 (tryRow F S f (row.drop k) T' out').2 = res ∧ ATurn L F S T0 T' out' wr ∧ AG L.Cf L.Bo w wr)) (fun i _ => row.length - (intOf i).toNat)
  case atStart => exact ⟨0, Nat.zero_le _, rfl, T, out, HRES.out, HT.out, AG.refl _ _ _⟩
  obtain ⟨k, hk, rfl, HID⟩ := hrel
  obtain ⟨T', out', hre, hT, hag⟩ := HID.out
  by_cases hlt : k < row.length
  rotate_left
  ·
   obtain rfl : k = row.length := by omega
   rw [List.drop_length] at hre
   have hst := (HS.out.later hag).still
   have q4 := cell_of_heap hst.cn (j := 0) rfl
   have NC := IH.out (f + 1) T' out' wr (by have := HFN.out; omega) (HS.out.later hag) hT
   rw [show nextF F S T0 n (f + 1) T' out' = res from hre, show ((f + 1 : Nat) : Int) = (f : Int) + 1 from by omega] at NC
   have HAG := Go.Lib.hid hag
   clear hre hT hag hst HID
   go_wp2_with fail
   refine NC.mono ?_
   clear NC
   rintro e w5 ⟨rfl, hag5, hrow5⟩
   have HX5 := Go.Lib.hid (And.intro hag5 hrow5)
   clear hag5 hrow5
   go_wp2_with fail
   change bodyPost Try.prog Try.f55 (NextPost L F S res w) Exit.normal _ _
   go_end0
   exact ⟨rfl, HAG.out.trans HX5.out.1, HX5.out.2⟩
  obtain ⟨a9, e9, x9⟩ := Kd.at_int (HST.out wr hag) (k : Int) (by omega) (by omega)
  rw [Int.toNat_natCast, show rd row (k : Int) = row.getD k 0 from by simp [rd]] at x9
  rw [show row.drop k = row.getD k 0 :: row.drop (k + 1) from by rw [List.drop_eq_getElem_cons hlt]; simp [List.getD_eq_getElem?_getD, List.getElem?_eq_getElem hlt]] at hre
  have hsb := HSL.out k hlt
  obtain ⟨s9, hs9⟩ : ∃ s9, row.getD k 0 = s9 := ⟨_, rfl⟩
  rw [hs9] at x9 hre hsb
  obtain ⟨hs0, hs1⟩ := hsb
  unfold tryRow at hre
  have hst := (HS.out.later hag).still
  have d2 := cell_of_heap hst.cc (j := 2) rfl
  have hBl := hT.row.lt
  have hal := (Below.refl wr.heap.size wr).alloc (Nat.le_refl _) (.cells #[.int .i64 s9] 3)
  have dd2 := pw_cell_below hal d2
  have hN1 := Kd.N_alloc hT.fits (.cells #[.int .i64 s9] 3)
  have hbase : L.base ≤ wr.heap.size := Nat.le_trans (Kd.N_base hT.fits L.Cf rfl) (Nat.le_of_lt (Kd.N_lt hT.fits L.Cf rfl))
  obtain ⟨c, hcl, _, hcc⟩ := Kd.N_get hN1 ([] : List Int) (f : Int) (by omega) (by omega)
  have hcl : c.length = 1 := hcl
  obtain ⟨c0, rfl⟩ : ∃ c0, c = [c0] := List.length_eq_one_iff.1 hcl
  have hcc : ∀ j u, [c0][j]? = some u → (wr.alloc (.cells #[.int .i64 s9] 3)).cell? ⟨L.Cf, (f : Int).toNat * (Kd.slice 3 (Kd.int .i64)).sz + j, none⟩ = some u := fun j u hu => by
   have := hcc j u hu
   rwa [add_plain] at this
  have hrow1 : RowAt (wr.alloc (.cells #[.int .i64 s9] 3)) wr.heap.size 3 (Value.int .i64) [s9] := ⟨_, World.alloc_heap_new _ _, fun j hj => by
   have : j = 0 := by simpa using hj
   subst this; rfl⟩
  have hM : Kd.FK (Kd.slice 3 (Kd.int .i64)) (wr.alloc (.cells #[.int .i64 s9] 3)) (fun q => q = wr.heap.size) [s9] [.slice (some ⟨wr.heap.size, 0, none⟩) 1 1] :=
   Kd.FK_slice_mk (c := 1) (by simp) (fun W' hW => C_of_row' (hrow1.same (hW wr.heap.size rfl (by simp))) rfl (by simp))
  have HP := Go.Lib.hid (And.intro hN1 (And.intro hM (And.intro hcc hbase)))
  have HRE := Go.Lib.hid hre
  have HT' := Go.Lib.hid hT
  have HAG := Go.Lib.hid hag
  have HAL := Go.Lib.hid hal
  have hclf : L.Cf < wr.heap.size := Kd.N_lt hT.fits L.Cf rfl
  have PREP : ∀ w2, Kd.N (Kd.slice 3 (Kd.int .i64)) 22 w2 L.base (fun k => k ≠ L.Bo) (.slice (some ⟨L.Cf, 0, none⟩) T0.length L.cf) (T'.set f [s9]) → (wr.alloc (.cells #[.int .i64 s9] 3)).grownBy w2 (some L.Cf) →
    w2.cell? ⟨L.Bc, 0, none⟩ = some (.slice L.A0 F.length L.c0) ∧ w2.cell? ⟨L.Bc, 1, none⟩ = some (.slice L.A1 S.length L.c1) ∧ w2.cell? ⟨L.Bc, 2, none⟩ = some (.slice (some ⟨L.Cf, 0, none⟩) T0.length L.cf) ∧
    Calls Try.prog 52 #[.agg #[.slice L.A0 F.length L.c0, .slice L.A1 S.length L.c1, .slice (some ⟨L.Cf, 0, none⟩) T0.length L.cf]] w2 (SomePost F S (T'.set f [s9]) (.slice L.A0 F.length L.c0) w2) ∧
    Hid (ATurn L F S T0 (T'.set f [s9]) out' w2 ∧ AG L.Cf L.Bo wr w2) := by
   intro w2 hN2 hg2
   have hag2 : AG L.Cf L.Bo wr w2 := (AG.of_below hal hBl).trans (AG.of_grown hg2 (by simp; omega) hne)
   have hst2 := (HS.out.later (hag.trans hag2)).still
   have hbok := BOK.set hT.ok f s9 hs0 hs1
   have hlen2 : (T'.set f [s9]).length = T0.length := by rw [List.length_set, hT.lt]
   have hC2 := (Kd.N_reads' hN2).2.2
   have SC := some_calls L.A0 L.c0 F L.A1 L.c1 S (some ⟨L.Cf, 0, none⟩) L.cf (T'.set f [s9]) w2 hbok hst2.slots hC2
   rw [hlen2] at SC
   exact ⟨cell_of_heap hst2.cc rfl, cell_of_heap hst2.cc rfl, cell_of_heap hst2.cc rfl, SC, ⟨hN2, hT.row.same ((hg2.block L.Bo (by simp; omega) (by simpa using hne)).trans (hal.block L.Bo hBl)), hlen2, hT.lo, hbok⟩, hag2⟩
  clear hre hT hag hst hal hN1 hM hcc hrow1 hs9 hbase HID hcl
  rw [e9] at *
  go_wp2_with (first | (refine Kd.N_store (Kd.slice 3 (Kd.int .i64)) (w0 := wr) L.base rfl rfl 22 (.tmp 30) (.tmp 29) rfl 22 (g := L.Cf) (n := T0.length) (cap := L.cf) (o' := f) (f : Int) 0 T' [s9] (.slice (some ⟨wr.heap.size, 0, none⟩) 1 1) [.slice (some ⟨wr.heap.size, 0, none⟩) 1 1] [c0] (fun q => q ≠ L.Bo) (fun q => q = wr.heap.size) rfl (by show f = (f : Int).toNat * 1 + 0; omega) rfl rfl rfl (by intro q hq; rw [List.mem_singleton.1 hq]; rfl) HP.out.1 (by omega) (by omega) rfl HP.out.2.2.1 (by show 0 + 1 ≤ 1; omega) HP.out.2.1 (fun q hq => ⟨by omega, by omega⟩) (HAL.out.mono HP.out.2.2.2) ?_; intro w2 hN2 hb2 hg2; obtain ⟨p0, p1, p2, SC, HX2⟩ := PREP w2 hN2 hg2; clear hN2 hb2 hg2))
  refine SC.mono ?_
  clear SC
  rintro e w3 ⟨t, rfl, _, _, _, _, hb3⟩
  have hT3 := HX2.out.1.below hb3
  have hbo2 : L.Bo < w2.heap.size := HX2.out.1.row.lt
  have hag3 := HAG.out.trans (HX2.out.2.trans (AG.of_below hb3 hbo2))
  have hst3 := (HS.out.later hag3).still
  have q0 := cell_of_heap hst3.cq (j := 0) rfl
  have q1 := cell_of_heap hst3.cn (j := 0) rfl
  obtain ⟨ok, hok⟩ : ∃ ok, (fillF (T'.set f [s9]) (rooms S) S.length (-1) (List.replicate F.length (-1))).ok = ok := ⟨_, rfl⟩
  rw [hok]
  have hre := HRE.out
  rw [show isF F S (T'.set f [s9]) = ok from hok] at hre
  have HAG3 := Go.Lib.hid hag3
  have HT3 := Go.Lib.hid hT3
  clear hok hT3 hag3 hst3 hb3 p0 p1 p2 PREP HX2 HRE
  cases ok with
  | false =>
   rw [if_neg (by simp)] at hre
   have HRE2 := Go.Lib.hid hre
   clear hre
   go_wp2_with fail
   go_roundw
   case rel => exact ⟨k + 1, by omega, by simp, _, _, HRE2.out, HT3.out, HAG3.out⟩
   case measure => simp [intOf]; omega
  | true =>
   rw [if_pos rfl] at hre
   have HRE2 := Go.Lib.hid hre
   clear hre
   have hfF : (f : Int) < (F.length : Int) := by have := HNO.out; omega
   have fz := HT3.out.row.frozen f
   have cf := HT3.out.row.cellD 0 (f : Int) (by omega) (by rw [HT3.out.lo]; exact hfF)
   rw [Int.toNat_natCast] at cf
   have hT4 := HT3.out.put f s9
   have hag4 : AG L.Cf L.Bo w3 (w3.setCell ⟨L.Bo, f, none⟩ (.int .i64 s9)) := AG.put _ _ _
   have hst4 := (HS.out.later (HAG3.out.trans hag4)).still
   have q4 := cell_of_heap hst4.cn (j := 0) rfl
   have NC := IH.out (f + 1) _ _ _ (by have := HFN.out; omega) (HS.out.later (HAG3.out.trans hag4)) hT4
   rw [HRE2.out, show ((f + 1 : Nat) : Int) = (f : Int) + 1 from by omega] at NC
   have HAG4 := Go.Lib.hid (HAG3.out.trans hag4)
   clear hT4 hag4 hst4
   go_wp2_with fail
   refine NC.mono ?_
   clear NC
   rintro e w5 ⟨rfl, hag5, hrow5⟩
   have HX5 := Go.Lib.hid (And.intro hag5 hrow5)
   clear hag5 hrow5
   go_wp2_with fail
   change bodyPost Try.prog Try.f55 (NextPost L F S res w) Exit.normal _ _
   go_end0
   exact ⟨rfl, HAG4.out.trans HX5.out.1, HX5.out.2⟩
end Go.Proofs.Ytkmmihadcbfkoaa
end

section
namespace Go.Proofs.Ytkmmihadcbfkoaa
open Go.RowKit Go.Proofs.YtkmmihadcbfkoaaW.PrintWords PM
set_option linter.unusedVariables false
set_option linter.unusedSimpArgs false
theorem tryRow_len (F : List Int) (S : List S50) (f : Nat) : ∀ (row : List Int) (T : List (List Int)) (out : List Int), (tryRow F S f row T out).2.length = out.length
 | [], _, _ => rfl
 | s :: ss, T, out => by
  unfold tryRow
  split
  ·
   simp
  ·
   exact tryRow_len F S f ss _ out
theorem nextF_len (F : List Int) (S : List S50) (T0 : List (List Int)) : ∀ (n f : Nat) (T : List (List Int)) (out : List Int), (nextF F S T0 n f T out).length = out.length
 | 0, _, _, _ => rfl
 | n + 1, f, T, out => by
  unfold nextF
  rw [nextF_len F S T0 n, tryRow_len]
def firstF (F : List Int) (S : List S50) (T : List (List Int)) : List Int := nextF F S T T.length 0 T (List.replicate F.length (-1))
def PM.match_Assign.f (F : List Int) (S : List S50) (T : List (List Int)) : Option (List Int × Bool × Int) :=
 if checkB F S T ≠ 0 then some ([], false, checkB F S T) else if isF F S T = false then some ([], false, 0) else some (firstF F S T, true, 0)
theorem AG.below {Cf Bo B : Nat} {w0 w w' : World} (h0 : Below B w0 w) (hB : B ≤ w.heap.size) (h : AG Cf Bo w w') (h1 : B ≤ Cf) (h2 : B ≤ Bo) : Below B w0 w' :=
 h0.trans ⟨h.os, h.tape, h.output, h.size, fun k hk => h.block k (by omega) (by omega) (by omega)⟩
set_option maxRecDepth 100000 in
theorem next_zero (Bc Bb Bq Bn c : Nat) (A : Option Addr) (w : World) (h : w.cell? ⟨Bc, 2, none⟩ = some (.slice A 0 c)) :
  Calls Try.prog 55 #[.int .i64 0, .pointer (some ⟨Bc, 0, none⟩), .pointer (some ⟨Bb, 0, none⟩), .pointer (some ⟨Bq, 0, none⟩), .pointer (some ⟨Bn, 0, none⟩)] w fun e w' => e = .returned (.tuple #[]) ∧ w' = w := by
 go_enter Try.func55, Try.ntmps55
 go_wp2_with fail
 go_step3
 go_wp2_with fail
 rw [Exit.noGoto_ret]
 refine bodyPost_ret (results_none rfl _ _ _) rfl ?_
 exact ⟨rfl, rfl⟩
theorem copiedT_calls (B : Nat) (A : Option Addr) (c : Nat) (T : List (List Int)) (w : World) (hr : Kd.F (Kd.slice 3 (Kd.int .i64)) w (fun k => k < B) A T.length T) (hc : T.length ≤ c) (hl : T.length ≤ 1000) :
  Calls Try.prog 53 #[.slice A T.length c] w fun e w' => ∃ v, e = .returned v ∧ Kd.N (Kd.slice 3 (Kd.int .i64)) 22 w' w.heap.size (fun k => k < B ∨ w.heap.size ≤ k) v T ∧ Below w.heap.size w w' :=
 match_copied_int_53.calls (fun k => k < B) A c T T w (Kd.V_mk hc hr) (by
  unfold match_copied_int_53.f
  rw [Option.bind_some, if_pos (by simp; omega)]
  rfl)
theorem box3_set {w : World} {b t : Nat} {a0 a1 a2 : Value} (h : w.heap[b]? = some (.cells #[a0, a1, a2] t (0, 0))) (u0 u1 u2 : Value) :
  (((w.setCell ⟨b, 0, none⟩ u0).setCell ⟨b, 1, none⟩ u1).setCell ⟨b, 2, none⟩ u2).heap[b]? = some (.cells #[u0, u1, u2] t (0, 0)) := by
 simp [World.setCell, Array.getElem?_modify, h]
def StartPost (F : List Int) (S : List S50) (T : List (List Int)) (Bo Bq : Nat) (w : World) (e : Ending) (w' : World) : Prop :=
 e = .returned (.tuple #[]) ∧ w'.cell? ⟨Bq, 0, none⟩ = some (.slice (some ⟨Bo, 0, none⟩) F.length F.length) ∧ Kd.R (Kd.int .i64) 3 w' w.heap.size (fun _ => True) (.slice (some ⟨Bo, 0, none⟩) F.length F.length) (firstF F S T) ∧ Below w.heap.size w w'
theorem start_next {A0 : Option Addr} {c0 : Nat} {F : List Int} {A1 : Option Addr} {c1 : Nat} {S : List S50} {A2 : Option Addr} {c2 : Nat} {T : List (List Int)} {w w2 W4 w6 : World} {Ac : Option Addr} {cf Bc Bo : Nat}
  (hk : BOK F S T) (hr1 : Kd.C k50 w A1 S.length S) (hr2 : Kd.C (Kd.slice 3 (Kd.int .i64)) w A2 T.length T) (hW2 : Below w.heap.size w w2)
  (b2 : w2.heap[w.heap.size]? = some (.cells #[.slice A0 F.length c0, .slice A1 S.length c1, .slice A2 T.length c2] 26 (0, 0)))
  (hBc : W4.heap[Bc]? = some (.cells #[.slice A0 F.length c0, .slice A1 S.length c1, .slice Ac T.length cf] 26 (0, 0)))
  (hN : Kd.N (Kd.slice 3 (Kd.int .i64)) 22 W4 w2.heap.size (fun _ => True) (.slice Ac T.length cf) T) (hb4 : Below w2.heap.size w2 W4)
  (hbo : (W4.alloc (.cells #[.int .i64 (-1)] 3)).heap.size ≤ Bo) (hrow6 : w6.heap[Bo]? = some (.cells (List.replicate F.length (Value.int .i64 (-1))).toArray 3 (0, 0))) (hb6 : Below (W4.alloc (.cells #[.int .i64 (-1)] 3)).heap.size (W4.alloc (.cells #[.int .i64 (-1)] 3)) w6) :
  Calls Try.prog 55 #[.int .i64 0, .pointer (some ⟨Bc, 0, none⟩), .pointer (some ⟨w.heap.size, 0, none⟩), .pointer (some ⟨w6.heap.size, 0, none⟩), .pointer (some ⟨w6.heap.size + 1, 0, none⟩)]
   ((w6.alloc (.cells #[.slice (some ⟨Bo, 0, none⟩) F.length F.length] 22)).alloc (.cells #[.func (.func 55) #[] #[.pointer (some ⟨Bc, 0, none⟩), .pointer (some ⟨w.heap.size, 0, none⟩), .pointer (some ⟨w6.heap.size, 0, none⟩), .pointer (some ⟨w6.heap.size + 1, 0, none⟩)]] 73))
   (StartPost F S T Bo w6.heap.size w) := by
 have hal := (Below.refl W4.heap.size W4).alloc (Nat.le_refl _) (.cells #[.int .i64 (-1)] 3)
 have hb46 : Below W4.heap.size W4 w6 := hal.trans (hb6.mono hal.size)
 have ha1 := (Below.refl w6.heap.size w6).alloc (Nat.le_refl _) (.cells #[.slice (some ⟨Bo, 0, none⟩) F.length F.length] 22)
 have n1 := World.alloc_heap_new w6 (.cells #[.slice (some ⟨Bo, 0, none⟩) F.length F.length] 22)
 have n2 := World.alloc_heap_new (w6.alloc (.cells #[.slice (some ⟨Bo, 0, none⟩) F.length F.length] 22)) (.cells #[.func (.func 55) #[] #[.pointer (some ⟨Bc, 0, none⟩), .pointer (some ⟨w.heap.size, 0, none⟩), .pointer (some ⟨w6.heap.size, 0, none⟩), .pointer (some ⟨w6.heap.size + 1, 0, none⟩)]] 73)
 have ha2 := (Below.refl (w6.alloc (.cells #[.slice (some ⟨Bo, 0, none⟩) F.length F.length] 22)).heap.size (w6.alloc (.cells #[.slice (some ⟨Bo, 0, none⟩) F.length F.length] 22))).alloc (Nat.le_refl _) (.cells #[.func (.func 55) #[] #[.pointer (some ⟨Bc, 0, none⟩), .pointer (some ⟨w.heap.size, 0, none⟩), .pointer (some ⟨w6.heap.size, 0, none⟩), .pointer (some ⟨w6.heap.size + 1, 0, none⟩)]] 73)
 generalize hW8 : ((w6.alloc (.cells #[.slice (some ⟨Bo, 0, none⟩) F.length F.length] 22)).alloc (.cells #[.func (.func 55) #[] #[.pointer (some ⟨Bc, 0, none⟩), .pointer (some ⟨w.heap.size, 0, none⟩), .pointer (some ⟨w6.heap.size, 0, none⟩), .pointer (some ⟨w6.heap.size + 1, 0, none⟩)]] 73)) = W8 at *
 have s1 : (w6.alloc (.cells #[.slice (some ⟨Bo, 0, none⟩) F.length F.length] 22)).heap.size = w6.heap.size + 1 := by simp
 rw [s1] at n2 ha2
 have n1 := (ha2.block w6.heap.size (by omega)).trans n1
 have hb68 : Below w6.heap.size w6 W8 := ha1.trans (ha2.mono (by omega))
 have hb48 : Below W4.heap.size W4 W8 := hb46.trans (hb68.mono hb46.size)
 have hb28 : Below w2.heap.size w2 W8 := hb4.trans (hb48.mono hb4.size)
 have hb8 : Below w.heap.size w W8 := hW2.trans (hb28.mono hW2.size)
 have hBol : Bo < w6.heap.size := (Array.getElem?_eq_some_iff.1 hrow6).1
 have hbo' : W4.heap.size < Bo := by
  have : (W4.alloc (.cells #[.int .i64 (-1)] 3)).heap.size = W4.heap.size + 1 := by simp
  omega
 have row8 := (hb68.block Bo hBol).trans hrow6
 have hR8 : RowAt W8 Bo 3 (Value.int .i64) (List.replicate F.length (-1)) := ⟨_, row8, fun j hj => by
  simp at hj
  simp [hj]⟩
 have hS8 : szOf (W8.heap[Bo]?) = F.length := by rw [row8]; simp [szOf]
 have hwBo : w.heap.size ≤ Bo := Nat.le_trans hW2.size (Nat.le_trans hb4.size (Nat.le_of_lt hbo'))
 have lF := hk.nf
 by_cases hT0 : T.length = 0
 ·
  have hF0 : F.length = 0 := by rw [← hk.nt]; exact hT0
  have hc := pw_cell_below hb48 (cell_of_heap hBc (j := 2) rfl)
  have hc : W8.cell? ⟨Bc, 2, none⟩ = some (.slice Ac 0 cf) := by
   rw [← hT0]; exact hc
  refine (next_zero Bc w.heap.size w6.heap.size (w6.heap.size + 1) cf Ac W8 hc).mono ?_
  rintro e w' ⟨rfl, rfl⟩
  refine ⟨rfl, cell_of_heap n1 rfl, ?_, hb8⟩
  have : firstF F S T = List.replicate F.length (-1) := by unfold firstF; rw [hT0]; rfl
  rw [this]
  exact row_result hR8 hS8 (by simp) (Nat.le_refl _) (by rw [hF0]; exact Nat.zero_le _) hwBo
 obtain ⟨Cf, cap, e, hCb, hCl, cells, hCh⟩ := Kd.N_form hN (by omega)
 injection e with e1 e2 e3
 subst e1
 have hne : Bo ≠ Cf := by omega
 have hBcf : Bc ≠ Cf := by
  rintro rfl
  rw [hBc] at hCh
  injection hCh with hCh
  injection hCh with _ hCh
  exact absurd hCh (by decide)
 obtain ⟨ra, rc, hra⟩ := RowsAt.of_C hr2
 have hBcl := (Array.getElem?_eq_some_iff.1 hBc).1
 have hwl := (Array.getElem?_eq_some_iff.1 b2).1
 have h48 := hb48.size
 have h68 := hb68.size
 have h24 := hb4.size
 have h46 := hb46.size
 have hlast : w6.heap.size + 1 < W8.heap.size := (Array.getElem?_eq_some_iff.1 n2).1
 have NC := next_calls { A0 := A0, c0 := c0, A1 := A1, c1 := c1, A2 := A2, c2 := c2, Bc := Bc, Bb := w.heap.size, Bq := w6.heap.size, Bn := w6.heap.size + 1, Cf := Cf, cf := cf, Bo := Bo, base := w2.heap.size, ra := ra, rc := rc } F S T hne hk T.length 0 T (List.replicate F.length (-1)) W8 (by omega)
  (fun w' a => by
   have hb' : Below w.heap.size w w' := AG.below hb8 hb8.size a (Nat.le_trans hW2.size hCb) hwBo
   exact ⟨((a.block w.heap.size (by omega) (by show w.heap.size ≠ Cf; omega) (by show w.heap.size ≠ Bo; omega)).trans (hb28.block _ hwl)).trans b2,
    ((a.block Bc (by omega) hBcf (by show Bc ≠ Bo; omega)).trans (hb48.block _ hBcl)).trans hBc,
    (a.block w6.heap.size (by omega) (by show w6.heap.size ≠ Cf; omega) (by show w6.heap.size ≠ Bo; omega)).trans n1,
    (a.block (w6.heap.size + 1) (by omega) (by show w6.heap.size + 1 ≠ Cf; omega) (by show w6.heap.size + 1 ≠ Bo; omega)).trans n2,
    Kd.C_below hr1 hb', hra.below hb'⟩)
  ⟨Kd.N_mono (Kd.N_old hN hb48) (fun q hq => by show q ≠ Bo; have := hq.2; omega), hR8, rfl, by simp, hk⟩
 refine Calls.mono NC ?_
 rintro e w' ⟨rfl, a, hrow⟩
 refine ⟨rfl, cell_of_heap ((a.block w6.heap.size (by omega) (by show w6.heap.size ≠ Cf; omega) (by show w6.heap.size ≠ Bo; omega)).trans n1) rfl, ?_, AG.below hb8 hb8.size a (Nat.le_trans hW2.size hCb) hwBo⟩
 exact row_result hrow (a.cells.trans hS8) (by unfold firstF; rw [nextF_len]; simp) (Nat.le_refl _) (by show F.length ≤ maxLen; unfold maxLen; omega) hwBo
set_option maxRecDepth 100000 in
set_option maxHeartbeats 8000000 in
theorem PM.match_Assign.calls (A0 : Option Addr) (c0 : Nat) (F : List Int) (A1 : Option Addr) (c1 : Nat) (S : List S50) (A2 : Option Addr) (c2 : Nat) (T : List (List Int)) (r1 : List Int) (r2 : Bool) (r3 : Int) (w : World)
    (hr0 : Kd.C (Kd.int .i64) w A0 F.length F) (hc0 : F.length ≤ c0) (hr1 : Kd.C k50 w A1 S.length S) (hc1 : S.length ≤ c1) (hr2 : Kd.C (Kd.slice 3 (Kd.int .i64)) w A2 T.length T) (hc2 : T.length ≤ c2) (h : match_Assign.f F S T = some (r1, r2, r3)) :
    Calls Try.prog 15 #[.agg #[.slice A0 F.length c0, .slice A1 S.length c1, .slice A2 T.length c2]] w (LBE r1 r2 r3 w) := by
  have hB0 := (Below.refl w.heap.size w).alloc (Nat.le_refl _) (.cells #[.slice A0 F.length c0, .slice A1 S.length c1, .slice A2 T.length c2] 26)
  have CB := checkboard_calls A0 c0 F A1 c1 S A2 c2 T _ (Kd.C_below hr0 hB0) hc0 (Kd.C_below hr1 hB0) (Kd.C_below hr2 hB0)
  unfold match_Assign.f at h
  obtain ⟨q, hq⟩ : ∃ q, checkB F S T = q := ⟨_, rfl⟩
  rw [hq] at h CB
  have HB0 := Go.Lib.hid hB0
  have HR := Go.Lib.hid (And.intro hr1 hr2)
  have HQ := Go.Lib.hid hq
  have HH := Go.Lib.hid h
  clear hr0 hr1 hr2 hB0 hq h
  go_enter Try.func15, Try.ntmps15
  go_wp2_with fail
  refine CB.mono ?_
  clear CB
  rintro e w1 ⟨rfl, hB1⟩
  have b1 : w1.heap[w.heap.size]? = some (.cells #[.slice A0 F.length c0, .slice A1 S.length c1, .slice A2 T.length c2] 26 (0, 0)) := by
    rw [hB1.block w.heap.size (by simp)]
    exact World.alloc_heap_new w _
  have hW1 : Below w.heap.size w w1 := HB0.out.trans (hB1.mono HB0.out.size)
  have k0 := cell_of_heap b1 (j := 0) rfl
  have k1 := cell_of_heap b1 (j := 1) rfl
  have k2 := cell_of_heap b1 (j := 2) rfl
  have HW1 := Go.Lib.hid hW1
  have BX1 := Go.Lib.hid b1
  clear hB1 b1 hW1
  by_cases hq0 : q = 0
  · subst hq0
    have hk := bok_of_check HQ.out
    have SC := some_calls A0 c0 F A1 c1 S A2 c2 T w1 hk (Kd.C_below HR.out.1 HW1.out) (Kd.C_below HR.out.2 HW1.out)
    have hf := HH.out
    rw [if_neg (by simp)] at hf
    have lT : T.length ≤ 60 := by rw [hk.nt]; exact hk.nf
    have lF : F.length ≤ 60 := hk.nf
    have HK := Go.Lib.hid hk
    unfold SomePost at SC
    obtain ⟨ok, hok⟩ : ∃ ok, (fillF T (rooms S) S.length (-1) (List.replicate F.length (-1))).ok = ok := ⟨_, rfl⟩
    rw [hok] at SC
    rw [show isF F S T = ok from hok] at hf
    clear hk hok HH HQ
    cases ok with
    | false =>
      rw [if_pos rfl] at hf
      injection hf with hf
      injection hf with hf1 hf
      injection hf with hf2 hf3
      subst hf1 hf2 hf3
      go_wp2_with fail
      refine SC.mono ?_
      clear SC
      rintro e w2 ⟨t, rfl, _, _, _, _, hB2⟩
      have HB2 := Go.Lib.hid (HW1.out.trans (hB2.mono HW1.out.size))
      clear hB2
      go_wp2_with fail
      go_ret3
      exact ⟨_, rfl, R_nil _ _, HB2.out⟩
    | true =>
      rw [if_neg (by simp)] at hf
      injection hf with hf
      injection hf with hf1 hf
      injection hf with hf2 hf3
      subst hf2 hf3
      have HF1 := Go.Lib.hid hf1
      clear hf1
      go_wp2_with fail
      refine SC.mono ?_
      clear SC
      rintro e w2 ⟨t, rfl, _, _, _, _, hB2⟩
      have hW2 := HW1.out.trans (hB2.mono HW1.out.size)
      have b2 := (hB2.block w.heap.size (Array.getElem?_eq_some_iff.1 BX1.out).1).trans BX1.out
      have hFT := Kd.C_F (Kd.heap_slice 3 (Kd.heap_int .i64)) (Kd.C_below HR.out.2 hW2)
      have CT : ∀ W, Below w2.heap.size w2 W → Calls Try.prog 53 #[.slice A2 T.length c2] W fun e w' => ∃ v, e = .returned v ∧ Kd.N (Kd.slice 3 (Kd.int .i64)) 22 w' W.heap.size (fun k => k < w2.heap.size ∨ W.heap.size ≤ k) v T ∧ Below W.heap.size W w' ∧ Below w2.heap.size w2 w' := fun W hb => by
        refine (copiedT_calls w2.heap.size A2 c2 T W (Kd.F_below hFT hb) hc2 (by omega)).mono ?_
        rintro e w' ⟨v, rfl, hN, h1⟩
        exact ⟨v, rfl, hN, h1, hb.trans (h1.mono hb.size)⟩
      have hb0 : Below w2.heap.size w2 w2.drew := (Below.refl _ _).drew
      have hb1 : ∀ o, Below w2.heap.size w2 (w2.alloc o).drew := fun o => ((Below.refl _ _).alloc (Nat.le_refl _) o).drew
      have k0 : w2.cell? ⟨w.heap.size, 0, none⟩ = some (.slice A0 F.length c0) := cell_of_heap b2 (j := 0) rfl
      have k1 : w2.cell? ⟨w.heap.size, 1, none⟩ = some (.slice A1 S.length c1) := cell_of_heap b2 (j := 1) rfl
      have k2 : w2.cell? ⟨w.heap.size, 2, none⟩ = some (.slice A2 T.length c2) := cell_of_heap b2 (j := 2) rfl
      have E := World.alloc_heap_new w2 (.cells #[.slice none 0 0, .slice none 0 0, .slice none 0 0] 26)
      have E0 : (w2.alloc (.cells #[.slice none 0 0, .slice none 0 0, .slice none 0 0] 26)).drew.cell? ⟨w2.heap.size, 0, none⟩ = some (.slice none 0 0) := cell_of_heap E (j := 0) rfl
      have E1 : (w2.alloc (.cells #[.slice none 0 0, .slice none 0 0, .slice none 0 0] 26)).drew.cell? ⟨w2.heap.size, 1, none⟩ = some (.slice none 0 0) := cell_of_heap E (j := 1) rfl
      have E2 : (w2.alloc (.cells #[.slice none 0 0, .slice none 0 0, .slice none 0 0] 26)).drew.cell? ⟨w2.heap.size, 2, none⟩ = some (.slice none 0 0) := cell_of_heap E (j := 2) rfl
      have Z0 : (w2.alloc (.cells #[.slice none 0 0, .slice none 0 0, .slice none 0 0] 26)).drew.frozen? ⟨w2.heap.size, 0, none⟩ = false := frozen_of_heap E
      have Z1 : (w2.alloc (.cells #[.slice none 0 0, .slice none 0 0, .slice none 0 0] 26)).drew.frozen? ⟨w2.heap.size, 1, none⟩ = false := frozen_of_heap E
      have Z2 : (w2.alloc (.cells #[.slice none 0 0, .slice none 0 0, .slice none 0 0] 26)).drew.frozen? ⟨w2.heap.size, 2, none⟩ = false := frozen_of_heap E
      have hne1 : w2.heap.size ≠ w.heap.size := by have := World.block_lt_of_cell? w2 _ k0; exact Nat.ne_of_gt this
      have hne2 : w.heap.size ≠ w2.heap.size := Ne.symm hne1
      have HK2 := Go.Lib.hid (And.intro k0 (And.intro k1 k2))
      have HW2 := Go.Lib.hid hW2
      have BX2 := Go.Lib.hid b2
      have HE := Go.Lib.hid E
      clear hB2 hW2 b2 E hFT
      go_wp2_with fail
      go_region_held3 (fun w' => w'.cell? ⟨w.heap.size, 0, none⟩ = some (.slice A0 F.length c0) ∧ w'.cell? ⟨w.heap.size, 1, none⟩ = some (.slice A1 S.length c1) ∧ w'.cell? ⟨w.heap.size, 2, none⟩ = some (.slice A2 T.length c2) ∧ Below w2.heap.size w2 w')
        (go_keep)
        (first
          | (go_at_call 53; refine (CT _ (by first | assumption | exact hb1 _)).mono ?_; rintro e w3 ⟨vc, rfl, hN, hbc, hb⟩; obtain ⟨Ac, cf, rfl⟩ := Kd.N_slice hN; have hba : ∀ o, Below w2.heap.size w2 (w3.alloc o) := fun o => hb.alloc hb.size o; have hbs : ∀ j u, Below w2.heap.size w2 (w3.setCell ⟨w2.heap.size, j, none⟩ u) := fun j u => setCell_below hb (Nat.le_refl _) u; have hbs3 : ∀ u1 u2 u3, Below w2.heap.size w2 (((w3.setCell ⟨w2.heap.size, 0, none⟩ u1).setCell ⟨w2.heap.size, 1, none⟩ u2).setCell ⟨w2.heap.size, 2, none⟩ u3) := fun u1 u2 u3 => setCell_below (setCell_below (setCell_below hb (Nat.le_refl _) u1) (Nat.le_refl _) u2) (Nat.le_refl _) u3; have f0 := pw_cell_below hb HK2.out.1; have f1 := pw_cell_below hb HK2.out.2.1; have f2 := pw_cell_below hb HK2.out.2.2; (try (have e0 := pw_cell_below hbc E0; have e1 := pw_cell_below hbc E1; have e2 := pw_cell_below hbc E2; have z0 := (hbc.frozen (p := ⟨w2.heap.size, 0, none⟩) (by simp)).trans Z0; have z1 := (hbc.frozen (p := ⟨w2.heap.size, 1, none⟩) (by simp)).trans Z1; have z2 := (hbc.frozen (p := ⟨w2.heap.size, 2, none⟩) (by simp)).trans Z2))))
      all_goals (first
        | (have hX4 : ∃ Bc W4, w2.heap.size = Bc ∧ (((w3.setCell ⟨w2.heap.size, 0, none⟩ (.slice A0 F.length c0)).setCell ⟨w2.heap.size, 1, none⟩ (.slice A1 S.length c1)).setCell ⟨w2.heap.size, 2, none⟩ (.slice Ac T.length cf)) = W4 ∧ W4.heap[Bc]? = some (.cells #[.slice A0 F.length c0, .slice A1 S.length c1, .slice Ac T.length cf] 26 (0, 0)) ∧ Kd.N (Kd.slice 3 (Kd.int .i64)) 22 W4 w2.heap.size (fun _ => True) (.slice Ac T.length cf) T ∧ Below w2.heap.size w2 W4 :=
            ⟨_, _, rfl, rfl, box3_set ((hbc.block w2.heap.size (by simp)).trans HE.out) _ _ _, Kd.N_mono (Kd.N_lower (Kd.N_far (p := ⟨w2.heap.size, 2, none⟩) (Kd.N_far (p := ⟨w2.heap.size, 1, none⟩) (Kd.N_far (p := ⟨w2.heap.size, 0, none⟩) hN (fun k hk => by simp at hk; show k ≠ w2.heap.size; omega) _) (fun k hk => by simp at hk; show k ≠ w2.heap.size; omega) _) (fun k hk => by simp at hk; show k ≠ w2.heap.size; omega) _) (by simp)) (fun _ _ => trivial), hbs3 _ _ _⟩
           obtain ⟨Bc, W4, hBc, hW4, hX4⟩ := hX4
           rw [hW4, hBc]
           clear hbs3 hbs hba hW4 hBc E0 E1 E2 Z0 Z1 Z2)
        | (have hX4 : ∃ Bc W4, w3.heap.size = Bc ∧ w3.alloc (.cells #[.slice A0 F.length c0, .slice A1 S.length c1, .slice Ac T.length cf] 26) = W4 ∧ W4.heap[Bc]? = some (.cells #[.slice A0 F.length c0, .slice A1 S.length c1, .slice Ac T.length cf] 26 (0, 0)) ∧ Kd.N (Kd.slice 3 (Kd.int .i64)) 22 W4 w2.heap.size (fun _ => True) (.slice Ac T.length cf) T ∧ Below w2.heap.size w2 W4 :=
            ⟨_, _, rfl, rfl, World.alloc_heap_new _ _, Kd.N_alloc (Kd.N_mono (Kd.N_lower hN (by simp)) (fun _ _ => trivial)) _, hba _⟩
           obtain ⟨Bc, W4, hBc, hW4, hX4⟩ := hX4
           rw [hW4, hBc]
           clear hbs3 hbs hba hW4 hBc E0 E1 E2 Z0 Z1 Z2))
      all_goals (
        have hb4 := hX4.2.2
        have j0 := pw_cell_below hb4 HK2.out.1
        have hal := (Below.refl W4.heap.size W4).alloc (Nat.le_refl _) (.cells #[.int .i64 (-1)] 3)
        have j1 := pw_cell_below hal j0
        have RP := repeat_calls W4.heap.size (-1) F.length (by omega) _ (cell_of_heap (World.alloc_heap_new W4 (.cells #[.int .i64 (-1)] 3)) (j := 0) rfl)
        have HX4 := Go.Lib.hid hX4
        have HAL := Go.Lib.hid hal
        clear hX4 hb4 hal k0 k1 k2 hN hbc hb f0 f1 f2 CT
        go_wp2_with fail
        refine RP.mono ?_
        clear RP
        rintro e w6 ⟨Bo, rfl, hbo, hrow6, hb6⟩
        have HR6 := Go.Lib.hid (And.intro hbo (And.intro hrow6 hb6))
        clear hbo hrow6 hb6
        go_wp2_with fail)
      all_goals (
        have SN := start_next HK.out HR.out.1 HR.out.2 HW2.out BX2.out HX4.out.1 HX4.out.2.1 HX4.out.2.2 HR6.out.1 HR6.out.2.1 HR6.out.2.2
        refine SN.mono ?_
        clear SN
        rintro e w9 ⟨rfl, hq9, hR9, hB9⟩
        have HX9 := Go.Lib.hid (And.intro hR9 hB9)
        clear hR9 hB9
        go_wp2_with fail
        go_ret3
        exact ⟨_, rfl, by rw [← HF1.out]; exact HX9.out.1, HX9.out.2⟩)
  · have g9 : decide (q = 0) = false := by simpa using hq0
    have hf := HH.out
    rw [if_pos hq0] at hf
    injection hf with hf
    injection hf with hf1 hf
    injection hf with hf2 hf3
    subst hf1 hf2 hf3
    go_wp2_with fail
    go_ret3
    exact ⟨_, rfl, R_nil _ _, HW1.out⟩
end Go.Proofs.Ytkmmihadcbfkoaa
end

section
namespace Go.Proofs.Ytkmmihadcbfkoaa
open Go.RowKit Go.Proofs.YtkmmihadcbfkoaaW.PrintWords PM
set_option linter.unusedVariables false
set_option linter.unusedSimpArgs false
def lowL (F : List Int) (S : List S50) (T : List (List Int)) (slot : Nat) : Nat → Nat → Nat
 | 0, l => l
 | n + 1, l => if (hallR F S T (-1) ((rooms S).set slot (l : Int))).ok then l else lowL F S T slot n (l + 1)
def fitCount (T : List (List Int)) (slot : Int) : Nat := T.countP fun l => decide (slot ∈ l)
def highN (S : List S50) (T : List (List Int)) (slot : Int) : Nat := min (fitCount T slot) ((rooms S).getD slot.toNat 0).toNat
def PM.match_Load.f (F : List Int) (S : List S50) (T : List (List Int)) (slot : Int) : Option (Int × Int × Int) :=
 if askB F S T 0 slot true false ≠ 0 then some (0, 0, askB F S T 0 slot true false)
 else if isF F S T = false then some (0, 0, 40)
 else some ((lowL F S T slot.toNat (highN S T slot) 0 : Nat), (highN S T slot : Nat), 0)
set_option maxRecDepth 100000 in
set_option maxHeartbeats 8000000 in
theorem PM.match_Load.calls (A0 : Option Addr) (c0 : Nat) (F : List Int) (A1 : Option Addr) (c1 : Nat) (S : List S50) (A2 : Option Addr) (c2 : Nat) (T : List (List Int)) (slot : Int) (r1 : Int) (r2 : Int) (r3 : Int) (w : World)
  (hr0 : Kd.C (Kd.int .i64) w A0 F.length F) (hc0 : F.length ≤ c0) (hr1 : Kd.C k50 w A1 S.length S) (hc1 : S.length ≤ c1) (hr2 : Kd.C (Kd.slice 3 (Kd.int .i64)) w A2 T.length T) (hc2 : T.length ≤ c2) (h : match_Load.f F S T slot = some (r1, r2, r3)) :
  Calls Try.prog 18 #[.agg #[.slice A0 F.length c0, .slice A1 S.length c1, .slice A2 T.length c2], .int .i64 slot] w fun e w' => e = .returned (.tuple #[.int .i64 r1, .int .i64 r2, .int .i64 r3]) ∧ Below w.heap.size w w' := by
 have CB := asked_boxed A0 c0 F A1 c1 S A2 c2 T 0 slot true false w hr0 hc0 hr1 hr2 (.cells #[.slice A0 F.length c0, .slice A1 S.length c1, .slice A2 T.length c2] 26)
 unfold match_Load.f at h
 obtain ⟨q, hq⟩ : ∃ q, askB F S T 0 slot true false = q := ⟨_, rfl⟩
 rw [hq] at h CB
 have HR := Go.Lib.hid (And.intro hr1 hr2)
 have HQ := Go.Lib.hid hq
 have HH := Go.Lib.hid h
 clear hr0 hr1 hr2 hq h
 go_enter Try.func18, Try.ntmps18
 go_wp2_with fail
 refine CB.mono ?_
 clear CB
 rintro e w1 ⟨⟨rfl, hW1⟩, b1⟩
 have k0 := cell_of_heap b1 (j := 0) rfl
 have k1 := cell_of_heap b1 (j := 1) rfl
 have k2 := cell_of_heap b1 (j := 2) rfl
 have HW1 := Go.Lib.hid hW1
 have BX1 := Go.Lib.hid b1
 clear b1 hW1
 by_cases hq0 : q = 0
 rotate_left
 ·
  have g9 : decide (q = 0) = false := by simpa using hq0
  have hf := HH.out
  rw [if_pos hq0] at hf
  injection hf with hf
  injection hf with hf1 hf
  injection hf with hf2 hf3
  subst hf1 hf2 hf3
  go_wp2_with fail
  go_ret3
  exact ⟨rfl, HW1.out⟩
 subst hq0
 obtain ⟨hcb, _, hsl⟩ := ask_parts HQ.out
 obtain ⟨hsl0, hsl1⟩ := hsl rfl
 have hk := bok_of_check hcb
 have hf := HH.out
 rw [if_neg (by simp)] at hf
 have lT : T.length ≤ 60 := by rw [hk.nt]; exact hk.nf
 have HK := Go.Lib.hid hk
 have HCB := Go.Lib.hid hcb
 clear HH HQ hk hcb
 cases hok : isF F S T with
 | false =>
  have MC := matched_no A0 c0 F A1 c1 S A2 c2 T w1 HK.out (Kd.C_below HR.out.1 HW1.out) (Kd.C_below HR.out.2 HW1.out) hok
  rw [if_pos hok] at hf
  injection hf with hf
  injection hf with hf1 hf
  injection hf with hf2 hf3
  subst hf1 hf2 hf3
  clear hok
  go_wp2_with fail
  refine MC.mono ?_
  clear MC
  rintro e w2 ⟨rfl, hB2⟩
  have HB2 := Go.Lib.hid (HW1.out.trans (hB2.mono HW1.out.size))
  clear hB2
  go_wp2_with fail
  go_ret3
  exact ⟨rfl, HB2.out⟩
 | true =>
  have MC := matched_yes A0 c0 F A1 c1 S A2 c2 T w1 HK.out (Kd.C_below HR.out.1 HW1.out) (Kd.C_below HR.out.2 HW1.out) hok
  rw [if_neg (by rw [hok]; simp)] at hf
  injection hf with hf
  obtain ⟨hi, hhi⟩ : ∃ hi, highN S T slot = hi := ⟨_, rfl⟩
  rw [hhi] at hf
  injection hf with hf1 hf
  injection hf with hf2 hf3
  subst hf2 hf3
  have HF1 := Go.Lib.hid hf1
  have HHI := Go.Lib.hid hhi
  clear hok hf1 hhi
  go_wp2_with fail
  refine MC.mono ?_
  clear MC
  rintro e w2 ⟨t, rfl, _, _, _, _, hB2⟩
  have hW2 := HW1.out.trans (hB2.mono HW1.out.size)
  have b2 := (hB2.block w.heap.size (Array.getElem?_eq_some_iff.1 BX1.out).1).trans BX1.out
  have k2 := cell_of_heap b2 (j := 2) rfl
  have HW2 := Go.Lib.hid hW2
  have BX2 := Go.Lib.hid b2
  clear hB2 hW2 b2
  go_wp2_with fail
  go_loopw [5, 33] (fun n i wr => ∃ k : Nat, k ≤ T.length ∧ i = .int .i64 k ∧ n = .int .i64 ((fitCount (T.take k) slot : Nat) : Int) ∧ Hid (Below w2.heap.size w2 wr)) (fun _ i _ => T.length - (intOf i).toNat)
  case atStart => exact ⟨0, Nat.zero_le _, rfl, rfl, Below.refl _ _⟩
  obtain ⟨k, hk, rfl, rfl, HID⟩ := hrel
  by_cases hlt : k < T.length
  ·
   have hW := HW2.out.trans (HID.out.mono HW2.out.size)
   obtain ⟨a8, Ar, cr, e8, hx8, hlc, hC⟩ := rows_at (Kd.C_below HR.out.2 hW) (k : Int) (by omega) (by omega)
   rw [Int.toNat_natCast] at hx8 hlc hC
   have hcnt : fitCount (T.take (k + 1)) slot = fitCount (T.take k) slot + if slot ∈ T.getD k [] then 1 else 0 := by
    unfold fitCount
    rw [List.take_succ_eq_append_getElem hlt, List.countP_append]
    simp [List.getD_eq_getElem?_getD, List.getElem?_eq_getElem hlt, List.countP_cons]
   have hcl : fitCount (T.take k) slot ≤ k := Nat.le_trans List.countP_le_length (by simp; omega)
   obtain ⟨row, hrw⟩ : ∃ row, T.getD k [] = row := ⟨_, rfl⟩
   rw [hrw] at hx8 hlc hC hcnt
   obtain ⟨n9, hn9⟩ : ∃ n9, fitCount (T.take k) slot = n9 := ⟨_, rfl⟩
   rw [hn9] at hcnt hcl ⊢
   have CC := contains_calls Ar cr row slot wr hC hlc
   have HCNT := Go.Lib.hid hcnt
   clear hW hC hcnt hrw hn9
   rw [e8] at *
   go_wp2_with fail
   refine CC.mono ?_
   clear CC
   rintro e w3 ⟨rfl, hd⟩
   have HB3 := Go.Lib.hid (HID.out.trans (hd.below.mono HID.out.size))
   clear hd
   by_cases hin : slot ∈ row
   ·
    rw [decide_eq_true hin]
    have hcnt := HCNT.out
    rw [if_pos hin] at hcnt
    have HCN := Go.Lib.hid hcnt
    clear hcnt hin
    go_wp2_with fail
    go_roundw
    case rel => exact ⟨k + 1, by omega, by simp, by rw [HCN.out]; simp, HB3.out⟩
    case measure => simp [intOf]; omega
   rw [decide_eq_false hin]
   have hcnt := HCNT.out
   rw [if_neg hin] at hcnt
   have HCN := Go.Lib.hid hcnt
   clear hcnt hin
   go_wp2_with fail
   go_roundw
   case rel => exact ⟨k + 1, by omega, by simp, by rw [HCN.out]; simp, HB3.out⟩
   case measure => simp [intOf]; omega
  obtain rfl : k = T.length := by omega
  rw [List.take_length]
  have hW := HW2.out.trans (HID.out.mono HW2.out.size)
  have b3 := (HID.out.block w.heap.size (Array.getElem?_eq_some_iff.1 BX2.out).1).trans BX2.out
  have k1 := cell_of_heap b3 (j := 1) rfl
  obtain ⟨a7, e7, x0, x1, x2⟩ := at_T50 (Kd.C_below HR.out.1 hW) slot hsl0 hsl1
  have hpb := room_bound HCB.out slot.toNat (by omega)
  have hfc : fitCount T slot ≤ 60 := Nat.le_trans List.countP_le_length lT
  have hro : (rooms S).getD slot.toNat 0 = (rd_T50 S slot).f2 := by
   simp [rooms, rd_T50, List.getD_eq_getElem?_getD, List.getElem?_eq_getElem (show slot.toNat < S.length by omega)]
  rw [hro] at hpb
  have hh : highN S T slot = min (fitCount T slot) (rd_T50 S slot).f2.toNat := by unfold highN; rw [hro]
  rw [HHI.out] at hh
  obtain ⟨p9, hp9⟩ : ∃ p9, (rd_T50 S slot).f2 = p9 := ⟨_, rfl⟩
  obtain ⟨n9, hn9⟩ : ∃ n9, fitCount T slot = n9 := ⟨_, rfl⟩
  rw [hp9] at x2 hpb hh
  rw [hn9] at hfc hh ⊢
  obtain ⟨hp1, hp2⟩ := hpb
  have HHH := Go.Lib.hid hh
  have HW := Go.Lib.hid hW
  have BX3 := Go.Lib.hid b3
  clear hW b3 hro hh hn9 hp9 HID
  subst e7
  go_wp2_with fail
  have hmin : min (n9 : Int) p9 = (hi : Int) := by have := HHH.out; omega
  rw [hmin]
  have hhi60 : hi ≤ 60 := by omega
  have hlow := HF1.out
  obtain ⟨lo, hlo⟩ : ∃ lo, lowL F S T slot.toNat hi 0 = lo := ⟨_, rfl⟩
  rw [hlo] at hlow
  subst hlow
  have HLO := Go.Lib.hid hlo
  clear hmin hlo HF1 x0 x1 x2 k0 k1 k2
  go_loopw [4] (fun l wr => ∃ k : Nat, k ≤ hi ∧ l = .int .i64 k ∧ Hid (lowL F S T slot.toNat (hi - k) k = lo ∧ Below w.heap.size w wr ∧ wr.heap[w.heap.size]? = some (.cells #[.slice A0 F.length c0, .slice (some a7) S.length c1, .slice A2 T.length c2] 26 (0, 0)))) (fun l _ => hi - (intOf l).toNat)
  case atStart => exact ⟨0, Nat.zero_le _, rfl, HLO.out, HW.out, BX3.out⟩
  obtain ⟨k, hk, rfl, HID⟩ := hrel
  obtain ⟨hlk, hbl, hbx⟩ := HID.out
  by_cases hlt : k < hi
  rotate_left
  ·
   obtain rfl : k = hi := by omega
   rw [Nat.sub_self] at hlk
   have hl : k = lo := hlk
   subst hl
   have HBL := Go.Lib.hid hbl
   clear hlk hbl hbx HID
   go_wp2_with fail
   go_ret3
   exact ⟨rfl, HBL.out⟩
  have k0 := cell_of_heap hbx (j := 0) rfl
  have k1 := cell_of_heap hbx (j := 1) rfl
  have k2 := cell_of_heap hbx (j := 2) rfl
  have TC := tried_calls3 A0 c0 F (some a7) c1 S A2 c2 T _ HK.out (Kd.C_below HR.out.1 hbl) (Kd.C_below HR.out.2 hbl)
  obtain ⟨n, hn⟩ : ∃ n, hi - k = n + 1 := ⟨hi - k - 1, by omega⟩
  rw [hn] at hlk
  unfold lowL at hlk
  have HLK := Go.Lib.hid hlk
  have HN := Go.Lib.hid hn
  have HBL := Go.Lib.hid hbl
  have HBX := Go.Lib.hid hbx
  clear hlk hn hbl hbx HID
  go_wp2_with fail
  refine TC.mono ?_
  clear TC
  rintro e w4 ⟨t, rfl, hN, en1, en2⟩
  have hlr : (rooms S).length = S.length := by simp [rooms]
  obtain ⟨Ab, eA, hc, hfz, hN2⟩ := hN.set slot hsl0 (by omega) (k : Int)
  have y3 := cell_of_heap hN.gb (j := 3) rfl
  rw [eA, hlr] at y3
  have FC := fill_calls t T _ hN2.fit (-1) _ hN2.len _ hN2.stands hN2.row
  obtain ⟨rr, hrr⟩ : ∃ rr, hallR F S T (-1) ((rooms S).set slot.toNat (k : Int)) = rr := ⟨_, rfl⟩
  rw [en1, show fillF T ((rooms S).set slot.toNat (k : Int)) S.length (-1) (List.replicate F.length (-1)) = rr from hrr] at FC
  have hlk := HLK.out
  rw [hrr] at hlk
  have HLK := Go.Lib.hid hlk
  unfold FillPost at FC
  obtain ⟨ok, hok⟩ : ∃ ok, rr.ok = ok := ⟨_, rfl⟩
  rw [hok] at FC
  have HOK := Go.Lib.hid hok
  have HB2 := Go.Lib.hid hN2.B
  have HL2 := Go.Lib.hid hN2.hl
  clear hN hN2 en1 en2 hlr eA hrr hlk hok
  go_wp2_with fail
  refine FC.mono ?_
  clear FC
  rintro e w5 ⟨vh, rfl, hag, _, how⟩
  have hsz := HBL.out.size
  have hb5 := hag.below HB2.out HB2.out.size HL2.out HL2.out
  have hbw := HBL.out.trans (hb5.mono hsz)
  have hbx5 := (hb5.block w.heap.size (Array.getElem?_eq_some_iff.1 HBX.out).1).trans HBX.out
  have HB5 := Go.Lib.hid (And.intro hbw hbx5)
  clear hag how hb5 hsz hbw hbx5
  cases ok with
  | true =>
   have hl : k = lo := by have := HLK.out; rw [HOK.out, if_pos rfl] at this; exact this
   subst hl
   go_wp2_with fail
   go_ret3
   exact ⟨rfl, HB5.out.1⟩
  | false =>
   have hl : lowL F S T slot.toNat n (k + 1) = lo := by have := HLK.out; rw [HOK.out, if_neg (by simp)] at this; exact this
   have HL := Go.Lib.hid hl
   clear hl
   go_wp2_with fail
   go_roundw
   case rel => exact ⟨k + 1, by omega, by simp, by rw [show hi - (k + 1) = n from by have := HN.out; omega]; exact HL.out, HB5.out.1, HB5.out.2⟩
   case measure => simp [intOf]; omega
end Go.Proofs.Ytkmmihadcbfkoaa
end

section
namespace Go.Proofs.Ytkmmihadcbfkoaa
open PM
set_option linter.unusedVariables false
set_option linter.unusedSimpArgs false
def allP (S : List S50) (T : List (List Int)) : Nat → List Int → List (List Int)
 | 0, b => [b]
 | d + 1, b =>
  if T.getD b.length [] = [] then allP S T d (b ++ [-1])
  else (T.getD b.length []).flatMap fun s => if (rooms S).getD s.toNat 0 ≤ (b.count s : Nat) then [] else allP S T d (b ++ [s])
structure Beg (S : List S50) (T : List (List Int)) (b : List Int) : Prop where
 len : b.length ≤ T.length
 none : ∀ j : Nat, j < b.length → T.getD j [] = [] → b.getD j 0 = -1
 some : ∀ j : Nat, j < b.length → T.getD j [] ≠ [] → b.getD j 0 ∈ T.getD j []
 load : ∀ s : Nat, s < S.length → (b.count (s : Int) : Int) ≤ (rooms S).getD s 0
section
variable {F : List Int} {S : List S50} {T : List (List Int)}
theorem getD_app (b : List Int) (x : Int) (j : Nat) : (b ++ [x]).getD j 0 = if j < b.length then b.getD j 0 else if j = b.length then x else 0 := by
 simp only [List.getD_eq_getElem?_getD]
 by_cases h : j < b.length
 ·
  rw [if_pos h, List.getElem?_append_left h]
 rw [if_neg h, List.getElem?_append_right (by omega)]
 by_cases e : j = b.length
 ·
  rw [if_pos e, e]; simp
 rw [if_neg e, List.getElem?_eq_none (by simp; omega)]
 rfl
theorem beg_app {b : List Int} (h : Beg S T b) (hl : b.length < T.length) {x : Int} (h1 : T.getD b.length [] = [] → x = -1) (h2 : T.getD b.length [] ≠ [] → x ∈ T.getD b.length []) (h3 : ∀ s : Nat, s < S.length → (s : Int) = x → (b.count x : Int) < (rooms S).getD s 0) : Beg S T (b ++ [x]) := by
 refine ⟨by simp; omega, fun j hj e => ?_, fun j hj e => ?_, fun s hs => ?_⟩
 ·
  rw [getD_app]
  have hj' : j < b.length + 1 := by simpa using hj
  by_cases k : j < b.length
  ·
   rw [if_pos k]; exact h.none j k e
  have : j = b.length := by omega
  rw [if_neg k, if_pos this]
  exact h1 (this ▸ e)
 ·
  rw [getD_app]
  have hj' : j < b.length + 1 := by simpa using hj
  by_cases k : j < b.length
  ·
   rw [if_pos k]; exact h.some j k e
  have : j = b.length := by omega
  rw [if_neg k, if_pos this, this]
  exact h2 (this ▸ e)
 rw [List.count_append, List.count_singleton]
 have := h.load s hs
 by_cases k : x = (s : Int)
 rotate_left
 ·
  rw [if_neg (by simpa using k)]
  omega
 have := h3 s hs k.symm
 rw [k] at this
 rw [if_pos (by simp [k])]
 omega
theorem take_app_iff {l b : List Int} {x : Int} (hl : b.length < l.length) : l.take (b ++ [x]).length = b ++ [x] ↔ l.take b.length = b ∧ l.getD b.length 0 = x := by
 have e : l.take (b ++ [x]).length = l.take b.length ++ [l.getD b.length 0] := by
  rw [List.length_append, List.length_singleton, List.take_add_one, List.getElem?_eq_getElem hl, List.getD_eq_getElem?_getD, List.getElem?_eq_getElem hl]
  rfl
 rw [e]
 constructor
 ·
  intro h
  obtain ⟨h1, h2⟩ := List.append_inj h (by simp; omega)
  exact ⟨h1, by simpa using h2⟩
 rintro ⟨h1, h2⟩
 rw [h1, h2]
theorem asg_of_beg {b : List Int} (h : Beg S T b) (hl : b.length = T.length) : AsgB S T b :=
 ⟨hl, fun f hf k => by
  rcases k with k | k
  ·
   exact h.none f (by omega) k
  ·
   omega, fun f hf k _ => h.some f (by omega) k, fun s hs => by rw [ld_cnt]; exact h.load s hs⟩
theorem mem_all (hf : FitsOk T S.length) : ∀ (d : Nat) (b l : List Int), b.length + d = T.length → Beg S T b → (l ∈ allP S T d b ↔ AsgB S T l ∧ l.take b.length = b)
 | 0, b, l, hd, h => by
  show l ∈ [b] ↔ _
  rw [List.mem_singleton]
  constructor
  ·
   rintro rfl
   exact ⟨asg_of_beg h (by omega), by rw [List.take_length]⟩
  ·
   rintro ⟨h1, h2⟩
   have := h1.len
   rw [List.take_of_length_le (by omega)] at h2
   exact h2
 | d + 1, b, l, hd, h => by
  have hlt : b.length < T.length := by omega
  unfold allP
  by_cases e : T.getD b.length [] = []
  ·
   rw [if_pos e, mem_all hf d (b ++ [-1]) l (by simp; omega) (beg_app h hlt (fun _ => rfl) (fun k => absurd e k) (fun s _ k => by omega))]
   constructor
   ·
    rintro ⟨h1, h2⟩
    exact ⟨h1, ((take_app_iff (by rw [h1.len]; exact hlt)).1 h2).1⟩
   ·
    rintro ⟨h1, h2⟩
    exact ⟨h1, (take_app_iff (by rw [h1.len]; exact hlt)).2 ⟨h2, h1.none _ hlt (Or.inl e)⟩⟩
  ·
   rw [if_neg e, List.mem_flatMap]
   constructor
   ·
    rintro ⟨s, hs, hm⟩
    obtain ⟨s0, s1⟩ := hf _ hlt s hs
    by_cases k : (rooms S).getD s.toNat 0 ≤ (b.count s : Nat)
    ·
     rw [if_pos k] at hm; simp at hm
    ·
     rw [if_neg k, mem_all hf d (b ++ [s]) l (by simp; omega) (beg_app h hlt (fun k => absurd k e) (fun _ => hs) (fun t _ kt => by
      have : t = s.toNat := by omega
      rw [this]; omega))] at hm
     exact ⟨hm.1, ((take_app_iff (by rw [hm.1.len]; exact hlt)).1 hm.2).1⟩
   ·
    rintro ⟨h1, h2⟩
    have hin := h1.some _ hlt e (by omega)
    obtain ⟨s0, s1⟩ := hf _ hlt _ hin
    have hll : b.length < l.length := by rw [h1.len]; exact hlt
    have htk := (take_app_iff (x := l.getD b.length 0) hll).2 ⟨h2, rfl⟩
    have hcnt : ¬ (rooms S).getD (l.getD b.length 0).toNat 0 ≤ (b.count (l.getD b.length 0) : Nat) := by
     have hload := h1.load (l.getD b.length 0).toNat (by omega)
     rw [Int.toNat_of_nonneg s0, ld_cnt] at hload
     have hc : (b ++ [l.getD b.length 0]).count (l.getD b.length 0) ≤ l.count (l.getD b.length 0) := by
      rw [← htk]; exact (List.take_sublist _ _).count_le _
     rw [List.count_append, List.count_singleton, if_pos (by simp)] at hc
     omega
    refine ⟨l.getD b.length 0, hin, ?_⟩
    rw [if_neg hcnt, mem_all hf d (b ++ [l.getD b.length 0]) l (by simp; omega) (beg_app h hlt (fun k => absurd k e) (fun _ => hin) (fun t _ kt => by
     have : t = (l.getD b.length 0).toNat := by omega
     rw [this]; omega))]
    exact ⟨h1, htk⟩
theorem beg_nil (hnn : ∀ s : Nat, s < S.length → 0 ≤ (rooms S).getD s 0) : Beg S T [] :=
 ⟨Nat.zero_le _, fun j hj => absurd hj (Nat.not_lt_zero _), fun j hj => absurd hj (Nat.not_lt_zero _), fun s hs => by simpa using hnn s hs⟩
def allB (S : List S50) (T : List (List Int)) : List (List Int) := allP S T T.length []
theorem mem_allB (hc : checkB F S T = 0) (l : List Int) : l ∈ allB S T ↔ AsgB S T l := by
 unfold allB
 rw [mem_all (fitsok_of hc) T.length [] l (by simp) (beg_nil (rooms_nn hc))]
 simp
theorem allB_ne (hc : checkB F S T = 0) : allB S T ≠ [] ↔ isF F S T = true := by
 rw [isF_iff hc]
 constructor
 ·
  intro h
  obtain ⟨l, ls, e⟩ := List.exists_cons_of_ne_nil h
  exact ⟨l, (mem_allB hc l).1 (by rw [e]; simp)⟩
 rintro ⟨l, hl⟩ e
 have := (mem_allB hc l).2 hl
 rw [e] at this
 simp at this
theorem all_len : ∀ (d : Nat) (b : List Int), (∀ j : Nat, (T.getD j []).length ≤ 5) → (allP S T d b).length ≤ 5 ^ d
 | 0, b, h => by simp [allP]
 | d + 1, b, h => by
  unfold allP
  split
  ·
   exact Nat.le_trans (all_len d _ h) (Nat.pow_le_pow_right (by omega) (by omega))
  ·
   have : ∀ row : List Int, (row.flatMap fun s => if (rooms S).getD s.toNat 0 ≤ (b.count s : Nat) then [] else allP S T d (b ++ [s])).length ≤ row.length * 5 ^ d := by
    intro row
    induction row with
    | nil => simp
    | cons s row ih =>
     rw [List.flatMap_cons, List.length_append, List.length_cons, Nat.succ_mul]
     have : (if (rooms S).getD s.toNat 0 ≤ (b.count s : Nat) then [] else allP S T d (b ++ [s])).length ≤ 5 ^ d := by
      split
      ·
       exact Nat.zero_le _
      ·
       exact all_len d _ h
     omega
   refine Nat.le_trans (this _) ?_
   rw [Nat.pow_succ, Nat.mul_comm]
   exact Nat.mul_le_mul_left _ (h _)
end
end Go.Proofs.Ytkmmihadcbfkoaa
end

section
namespace Go.Proofs.Ytkmmihadcbfkoaa
open Go.RowKit Go.Proofs.YtkmmihadcbfkoaaW.PrintWords PM
set_option linter.unusedVariables false
set_option linter.unusedSimpArgs false
def chancesF (fits : List (List Int)) (room : List Int) (ns : Nat) (has : List Int) (find : Nat) : List Int := (fits.getD find []).filter fun s => (withF fits room ns has find s).ok
theorem TGood.later {t : TL} {fits : List (List Int)} {room has : List Int} {w w' : World} (h : TGood t fits room has w) (hb : Below w.heap.size w w') : TGood t fits room has w' :=
 ⟨h.fit, h.st.later (Agree.of_below hb), h.row.below hb, h.len, h.capr, h.caph, h.rooms, h.s0, h.caps⟩
def OneList (l : List Int) (w : World) (e : Ending) (w' : World) : Prop := ∃ v, e = .returned v ∧ Kd.R (Kd.int .i64) 3 w' w.heap.size (fun _ => True) v l ∧ Below w.heap.size w w'
set_option maxRecDepth 100000 in
set_option maxHeartbeats 8000000 in
theorem chances_calls (t : TL) (fits : List (List Int)) (room has : List Int) (find : Nat) (w : World) (hfd : find < t.nh) (hG : TGood t fits room has w) :
  Calls Try.prog 57 #[.pointer (some ⟨t.g, 0, none⟩), .int .i64 find] w (OneList (chancesF fits room t.n1 has find) w) := by
 have hst := hG.st.still
 have f2 := hst.f2
 have hft : find < fits.length := by rw [hG.fit.finds]; exact hfd
 obtain ⟨a2, e2, hx, hC⟩ := hst.fits find hft
 have hcap := hG.caps find hft
 have hrl := hG.fit.row find hft
 have WC : ∀ (s : Int) (W : World), Below w.heap.size w W → Calls Try.prog 67 #[.pointer (some ⟨t.g, 0, none⟩), .int .i64 find, .int .i64 s] W (WithPost (withF fits room t.n1 has find s) W) := fun s W hb => with_calls t fits room has find s W hfd (hG.later hb)
 unfold chancesF
 obtain ⟨row, hrw⟩ : ∃ row, fits.getD find [] = row := ⟨_, rfl⟩
 rw [hrw] at hx hC hcap hrl ⊢
 obtain ⟨p, hp⟩ : ∃ p : Int → WR, (fun s => withF fits room t.n1 has find s) = p := ⟨_, rfl⟩
 have WC : ∀ (s : Int) (W : World), Below w.heap.size w W → Calls Try.prog 67 #[.pointer (some ⟨t.g, 0, none⟩), .int .i64 find, .int .i64 s] W (WithPost (p s) W) := by rw [← hp]; exact WC
 rw [show (fun s => (withF fits room t.n1 has find s).ok) = fun s => (p s).ok from by rw [← hp]]
 rw [e2] at f2
 have lFi : fits.length ≤ 1000 := by rw [hG.fit.finds]; exact hG.fit.nh
 have hlf : (find : Int) < (fits.length : Int) := by omega
 have HC := Go.Lib.hid hC
 clear hG hst hrw hC hp e2
 go_enter Try.func57, Try.ntmps57
 go_wp2_with fail
 go_loopw [5, 22] (fun o i wr => ∃ k : Nat, k ≤ row.length ∧ i = .int .i64 k ∧ Hid (Kd.R (Kd.int .i64) 3 wr w.heap.size (fun _ => True) o ((row.take k).filter fun s => (p s).ok) ∧ Below w.heap.size w wr)) (fun _ i _ => row.length - (intOf i).toNat)
 case atStart => exact ⟨0, Nat.zero_le _, rfl, Kd.R_nil _ _ _ _ _, Below.refl _ _⟩
 obtain ⟨k, hk, rfl, HID⟩ := hrel
 obtain ⟨hR, hbl⟩ := HID.out
 by_cases hlt : k < row.length
 rotate_left
 ·
  obtain rfl : k = row.length := by omega
  rw [List.take_length] at hR
  have HR := Go.Lib.hid (And.intro hR hbl)
  clear hR hbl HID
  go_wp2_with fail
  go_ret
  exact ⟨_, rfl, HR.out.1, HR.out.2⟩
 obtain ⟨a9, e9, x9⟩ := Kd.at_int (Kd.C_below HC.out hbl) (k : Int) (by omega) (by omega)
 rw [Int.toNat_natCast, show rd row (k : Int) = row.getD k 0 from by simp [rd]] at x9
 have htk : row.take (k + 1) = row.take k ++ [row.getD k 0] := by
  rw [List.take_succ_eq_append_getElem hlt]
  simp [List.getD_eq_getElem?_getD, List.getElem?_eq_getElem hlt]
 obtain ⟨s9, hs9⟩ : ∃ s9, row.getD k 0 = s9 := ⟨_, rfl⟩
 rw [hs9] at x9 htk
 have WC9 := WC s9 wr hbl
 unfold WithPost at WC9
 obtain ⟨ok, hok⟩ : ∃ ok, (p s9).ok = ok := ⟨_, rfl⟩
 rw [hok] at WC9
 have hfl : ((row.take k).filter fun s => (p s).ok).length ≤ k := Nat.le_trans (List.length_filter_le _ _) (by simp; omega)
 have HTK := Go.Lib.hid htk
 have HOK := Go.Lib.hid hok
 have HR := Go.Lib.hid hR
 have HBL := Go.Lib.hid hbl
 have e9' := e9
 clear htk hok hR hbl hs9 HID
 rw [e9'] at *
 go_wp2_with fail
 refine WC9.mono ?_
 clear WC9
 rintro e w1 ⟨v1, rfl, _, hb1⟩
 have hB1 := HBL.out.trans (hb1.mono HBL.out.size)
 have hR1 : Kd.R (Kd.int .i64) 3 w1 w.heap.size (fun _ => True) u5 ((row.take k).filter fun s => (p s).ok) := Kd.R_of_own (enc := Value.int .i64) (h1 := fun _ => rfl) (ok := fun _ => True) (pw_own_below (Kd.own_of_R HR.out) hb1) (fun _ _ => trivial)
 have HR1 := Go.Lib.hid hR1
 have HB1 := Go.Lib.hid hB1
 clear hb1 hB1 hR1
 cases ok with
 | true =>
  go_wp2_with (first | (at_builtin; refine Kd.R_append (Kd.int .i64) (w0 := w) w.heap.size rfl (.tmp 34) (.tmp 36) 22 3 (.int .i64 0) 8 rfl Try.underlying22 info3 rfl (by decide) (by omega) u5 ((row.take k).filter fun s => (p s).ok) s9 [.int .i64 s9] (fun _ => True) (fun _ => False) rfl rfl rfl (fun _ hk => hk.elim) (fun _ _ => trivial) HR1.out HB1.out HB1.out.size (by omega) ?_; intro v5 w5 hR5 hB5 _ _; have HR5 := Go.Lib.hid hR5; have HB5 := Go.Lib.hid hB5; clear hR5 hB5))
  go_roundw
  case rel => exact ⟨k + 1, by omega, by simp, by rw [HTK.out, List.filter_append]; simpa [HOK.out] using HR5.out, HB5.out⟩
  case measure => simp [intOf]; omega
 | false =>
  go_wp2_with fail
  go_roundw
  case rel => exact ⟨k + 1, by omega, by simp, by rw [HTK.out, List.filter_append]; simpa [HOK.out] using HR1.out, HB1.out⟩
  case measure => simp [intOf]; omega
end Go.Proofs.Ytkmmihadcbfkoaa
end

section
namespace Go.Proofs.Ytkmmihadcbfkoaa
open Go.RowKit Go.Proofs.YtkmmihadcbfkoaaW.PrintWords PM
set_option linter.unusedVariables false
set_option linter.unusedSimpArgs false
def allChances (F : List Int) (S : List S50) (T : List (List Int)) : List (List Int) := (List.range F.length).map fun f => chancesF T (rooms S) S.length (hasF F S T) f
def PM.match_Chances.f (F : List Int) (S : List S50) (T : List (List Int)) : Option (List (List Int) × Int) :=
 if checkB F S T ≠ 0 then some ([], checkB F S T) else if isF F S T = false then some ([], 40) else some (allChances F S T, 0)
theorem good_of_in {F : List Int} {S : List S50} {T : List (List Int)} {b0 : Nat} {t : TL} {has : List Int} {w : World} {A : Option Addr} {n c : Nat} (hcb : checkB F S T = 0) (h : TIn b0 t T (rooms S) has w) (h1 : t.n1 = S.length) (h0 : t.s0 = .slice A n c) : TGood t T (rooms S) has w :=
 ⟨h.fit, h.st, h.row, h.len, h.capr, h.caph, fun i hi => room_bound hcb i (by omega), ⟨A, n, c, h0⟩, h.caps⟩
set_option maxRecDepth 100000 in
set_option maxHeartbeats 8000000 in
theorem PM.match_Chances.calls (A0 : Option Addr) (c0 : Nat) (F : List Int) (A1 : Option Addr) (c1 : Nat) (S : List S50) (A2 : Option Addr) (c2 : Nat) (T : List (List Int)) (r1 : List (List Int)) (r2 : Int) (w : World)
  (hr0 : Kd.C (Kd.int .i64) w A0 F.length F) (hc0 : F.length ≤ c0) (hr1 : Kd.C k50 w A1 S.length S) (hc1 : S.length ≤ c1) (hr2 : Kd.C (Kd.slice 3 (Kd.int .i64)) w A2 T.length T) (hc2 : T.length ≤ c2) (h : match_Chances.f F S T = some (r1, r2)) :
  Calls Try.prog 16 #[.agg #[.slice A0 F.length c0, .slice A1 S.length c1, .slice A2 T.length c2]] w fun e w' => ∃ v0_ : Value, e = .returned (.tuple #[v0_, .int .i64 r2]) ∧ Kd.S (Kd.slice 3 (Kd.int .i64)) 22 w' w.heap.size (fun _ => True) v0_ r1 ∧ Below w.heap.size w w' := by
 have hB0 := (Below.refl w.heap.size w).alloc (Nat.le_refl _) (.cells #[.slice A0 F.length c0, .slice A1 S.length c1, .slice A2 T.length c2] 26)
 have CB := checkboard_calls A0 c0 F A1 c1 S A2 c2 T _ (Kd.C_below hr0 hB0) hc0 (Kd.C_below hr1 hB0) (Kd.C_below hr2 hB0)
 unfold match_Chances.f at h
 obtain ⟨q, hq⟩ : ∃ q, checkB F S T = q := ⟨_, rfl⟩
 rw [hq] at h CB
 have HB0 := Go.Lib.hid hB0
 have HR := Go.Lib.hid (And.intro hr1 hr2)
 have HQ := Go.Lib.hid hq
 have HH := Go.Lib.hid h
 clear hr0 hr1 hr2 hB0 hq h
 go_enter Try.func16, Try.ntmps16
 go_wp2_with fail
 refine CB.mono ?_
 clear CB
 rintro e w1 ⟨rfl, hB1⟩
 have b1 : w1.heap[w.heap.size]? = some (.cells #[.slice A0 F.length c0, .slice A1 S.length c1, .slice A2 T.length c2] 26 (0, 0)) := by
  rw [hB1.block w.heap.size (by simp)]
  exact World.alloc_heap_new w _
 have hW1 : Below w.heap.size w w1 := HB0.out.trans (hB1.mono HB0.out.size)
 have k0 := cell_of_heap b1 (j := 0) rfl
 have k1 := cell_of_heap b1 (j := 1) rfl
 have k2 := cell_of_heap b1 (j := 2) rfl
 have HW1 := Go.Lib.hid hW1
 have BX1 := Go.Lib.hid b1
 clear hB1 b1 hW1
 by_cases hq0 : q = 0
 rotate_left
 ·
  have g9 : decide (q = 0) = false := by simpa using hq0
  have hf := HH.out
  rw [if_pos hq0] at hf
  injection hf with hf
  injection hf with hf1 hf2
  subst hf1 hf2
  go_wp2_with fail
  go_ret2
  exact ⟨_, rfl, Kd.S_nil _ _ _ _ _, HW1.out⟩
 subst hq0
 have hcb := HQ.out
 have hk := bok_of_check hcb
 have hf := HH.out
 rw [if_neg (by simp)] at hf
 have HK := Go.Lib.hid hk
 have HCB := Go.Lib.hid hcb
 have lF : F.length ≤ 60 := hk.nf
 clear HH HQ hk hcb
 cases hok : isF F S T with
 | false =>
  have MC := matched_no A0 c0 F A1 c1 S A2 c2 T w1 HK.out (Kd.C_below HR.out.1 HW1.out) (Kd.C_below HR.out.2 HW1.out) hok
  rw [if_pos hok] at hf
  injection hf with hf
  injection hf with hf1 hf2
  subst hf1 hf2
  clear hok
  go_wp2_with fail
  refine MC.mono ?_
  clear MC
  rintro e w2 ⟨rfl, hB2⟩
  have HB2 := Go.Lib.hid (HW1.out.trans (hB2.mono HW1.out.size))
  clear hB2
  go_wp2_with fail
  go_ret2
  exact ⟨_, rfl, Kd.S_nil _ _ _ _ _, HB2.out⟩
 | true =>
  have MC := matched_yes A0 c0 F A1 c1 S A2 c2 T w1 HK.out (Kd.C_below HR.out.1 HW1.out) (Kd.C_below HR.out.2 HW1.out) hok
  rw [if_neg (by rw [hok]; simp)] at hf
  injection hf with hf
  injection hf with hf1 hf2
  subst hf2
  have HF1 := Go.Lib.hid hf1
  clear hok hf1
  go_wp2_with fail
  refine MC.mono ?_
  clear MC
  rintro e w2 ⟨t, rfl, en1, enh, es0, hT, hB2⟩
  have hW2 := HW1.out.trans (hB2.mono HW1.out.size)
  have b2 := (hB2.block w.heap.size (Array.getElem?_eq_some_iff.1 BX1.out).1).trans BX1.out
  have k0 := cell_of_heap b2 (j := 0) rfl
  have hG := good_of_in HCB.out hT en1 es0
  have CH : ∀ (f : Nat) (W : World), f < F.length → Below w2.heap.size w2 W → Calls Try.prog 57 #[.pointer (some ⟨t.g, 0, none⟩), .int .i64 f] W (OneList (chancesF T (rooms S) S.length (hasF F S T) f) W) := fun f W hf hb => by
   have := chances_calls t T (rooms S) (hasF F S T) f W (by omega) (hG.later hb)
   rwa [en1] at this
  have HW2 := Go.Lib.hid hW2
  clear hB2 hW2 b2 hG hT en1 enh es0
  go_wp2_with fail
  go_loopw [7, 25] (fun o i wr => ∃ k : Nat, k ≤ F.length ∧ i = .int .i64 k ∧ Hid (Kd.S (Kd.slice 3 (Kd.int .i64)) 22 wr w2.heap.size (fun _ => True) o ((List.range k).map fun f => chancesF T (rooms S) S.length (hasF F S T) f) ∧ Below w2.heap.size w2 wr)) (fun _ i _ => F.length - (intOf i).toNat)
  case atStart => exact ⟨0, Nat.zero_le _, rfl, Kd.S_nil _ _ _ _ _, Below.refl _ _⟩
  obtain ⟨k, hk, rfl, HID⟩ := hrel
  obtain ⟨hS, hbl⟩ := HID.out
  by_cases hlt : k < F.length
  rotate_left
  ·
   obtain rfl : k = F.length := by omega
   have HS := Go.Lib.hid hS
   have HBL := Go.Lib.hid hbl
   clear hS hbl HID
   go_wp2_with fail
   go_ret2
   exact ⟨_, rfl, by rw [← HF1.out]; exact Kd.S_lower HS.out HW2.out.size, HW2.out.trans (HBL.out.mono HW2.out.size)⟩
  have C9 := CH k wr hlt hbl
  have HS := Go.Lib.hid hS
  have HBL := Go.Lib.hid hbl
  have hll : ((List.range k).map fun f => chancesF T (rooms S) S.length (hasF F S T) f).length = k := by simp
  have HLL := Go.Lib.hid hll
  clear hS hbl HID hll
  go_wp2_with fail
  refine C9.mono ?_
  clear C9
  rintro e w3 ⟨v3, rfl, hR3, hb3⟩
  obtain ⟨A3, c3, rfl, _, _⟩ := Kd.R_reads hR3
  have hB3 := HBL.out.trans (hb3.mono HBL.out.size)
  have hBw := hB3
  have hS3 := Kd.S_old HS.out hb3
  have hne : ∀ q, some q = (Value.slice A3 (chancesF T (rooms S) S.length (hasF F S T) k).length c3).ownBlock → wr.heap.size ≤ q := fun q hq => own_base (Kd.own_of_R hR3) q hq.symm
  have hult := Kd.S_lt HS.out
  have hM : (Kd.slice 3 (Kd.int .i64)).M w3 w2.heap.size (fun q => some q = (Value.slice A3 (chancesF T (rooms S) S.length (hasF F S T) k).length c3).ownBlock) (chancesF T (rooms S) S.length (hasF F S T) k) [.slice A3 (chancesF T (rooms S) S.length (hasF F S T) k).length c3] :=
   Kd.M_row (Kd.R_lower (Kd.R_tight rfl hR3) HBL.out.size)
  have hS4 := Kd.S_mono (ok' := fun q => True ∧ ¬ some q = (Value.slice A3 (chancesF T (rooms S) S.length (hasF F S T) k).length c3).ownBlock) hS3 (fun q hq => ⟨trivial, fun e => by have := hne q e; omega⟩)
  have hokp : ∀ q, some q = (Value.slice A3 (chancesF T (rooms S) S.length (hasF F S T) k).length c3).ownBlock → True ∧ some q ≠ u7.ownBlock := fun q hq => ⟨trivial, fun e => by have := hne q hq; have := hult q e.symm; omega⟩
  have HP := Go.Lib.hid (And.intro hM (And.intro hS4 (And.intro hokp (And.intro hB3 hBw))))
  clear hM hS4 hokp hB3 hBw hne hult hS3 hb3 hR3
  go_wp2_with (first | (at_builtin; refine Kd.S_append (Kd.slice 3 (Kd.int .i64)) (w0 := w2) w2.heap.size rfl (.tmp 28) (.tmp 32) 24 22 (.slice none 0 0) 24 rfl Try.underlying24 info22 rfl (by decide) (by omega) u7 ((List.range k).map fun f => chancesF T (rooms S) S.length (hasF F S T) f) (chancesF T (rooms S) S.length (hasF F S T) k) [.slice A3 (chancesF T (rooms S) S.length (hasF F S T) k).length c3] (fun _ => True) (fun q => some q = (Value.slice A3 (chancesF T (rooms S) S.length (hasF F S T) k).length c3).ownBlock) rfl rfl HP.out.1 HP.out.2.2.1 (fun _ _ => trivial) HP.out.2.1 HP.out.2.2.2.2 HP.out.2.2.2.2.size (by rw [HLL.out]; omega) ?_; intro v5 w5 hR5 hB5 hg5 hat5; have HR5 := Go.Lib.hid hR5; have HB5 := Go.Lib.hid hB5; have HG5 := Go.Lib.hid (And.intro hg5 hat5); clear hR5 hB5 hg5 hat5))
  go_roundw
  case rel => exact ⟨k + 1, by omega, by simp, by rw [List.range_succ, List.map_append]; exact HR5.out, HB5.out⟩
  case measure => simp [intOf]; omega
end Go.Proofs.Ytkmmihadcbfkoaa
end

section
namespace Go.Proofs.Ytkmmihadcbfkoaa
open PM
set_option linter.unusedVariables false
set_option linter.unusedSimpArgs false
theorem asc_ext : ∀ (a b : List Int), a.Pairwise (· < ·) → b.Pairwise (· < ·) → (∀ x, x ∈ a ↔ x ∈ b) → a = b
 | [], [], _, _, _ => rfl
 | [], y :: b, _, _, h => by have := (h y).2 (by simp); simp at this
 | x :: a, [], _, _, h => by have := (h x).1 (by simp); simp at this
 | x :: a, y :: b, ha, hb, h => by
  obtain ⟨ha1, ha2⟩ := List.pairwise_cons.1 ha
  obtain ⟨hb1, hb2⟩ := List.pairwise_cons.1 hb
  have e : x = y := by
   rcases List.mem_cons.1 ((h x).1 (by simp)) with k | k
   ·
    exact k
   ·
    rcases List.mem_cons.1 ((h y).2 (by simp)) with m | m
    ·
     exact m.symm
    ·
     have := hb1 x k; have := ha1 y m; omega
  subst e
  rw [asc_ext a b ha2 hb2 fun z => ?_]
  constructor
  ·
   intro hz
   rcases List.mem_cons.1 ((h z).1 (List.mem_cons_of_mem _ hz)) with k | k
   ·
    have := ha1 z hz; omega
   ·
    exact k
  ·
   intro hz
   rcases List.mem_cons.1 ((h z).2 (List.mem_cons_of_mem _ hz)) with k | k
   ·
    have := hb1 z hz; omega
   ·
    exact k
def refCh (ns : Nat) (L : List (List Int)) (i : Nat) : List Int := ((List.range ns).filter fun s : Nat => L.any fun l => decide (l.getD i 0 = (s : Int))).map Int.ofNat
theorem mem_refCh {ns : Nat} {L : List (List Int)} {i : Nat} {x : Int} : x ∈ refCh ns L i ↔ 0 ≤ x ∧ x < ns ∧ ∃ l, l ∈ L ∧ l.getD i 0 = x := by
 unfold refCh
 rw [List.mem_map]
 constructor
 ·
  rintro ⟨s, hs, rfl⟩
  obtain ⟨h1, h2⟩ := List.mem_filter.1 hs
  obtain ⟨l, hl, hd⟩ := List.any_eq_true.1 h2
  have := List.mem_range.1 h1
  exact ⟨Int.natCast_nonneg s, Int.ofNat_lt.2 this, l, hl, of_decide_eq_true hd⟩
 rintro ⟨h0, h1, l, hl, e⟩
 refine ⟨x.toNat, List.mem_filter.2 ⟨List.mem_range.2 (by omega), List.any_eq_true.2 ⟨l, hl, decide_eq_true ?_⟩⟩, Int.toNat_of_nonneg h0⟩
 rw [e, Int.toNat_of_nonneg h0]
theorem refCh_asc (ns : Nat) (L : List (List Int)) (i : Nat) : (refCh ns L i).Pairwise (· < ·) := by
 unfold refCh
 rw [List.pairwise_map]
 exact (List.pairwise_lt_range.filter _).imp fun {a b} h => Int.ofNat_lt.2 h
section
variable {F : List Int} {S : List S50} {T : List (List Int)}
theorem mem_chances (hc : checkB F S T = 0) (his : isF F S T = true) {f : Nat} (hf : f < T.length) {x : Int} : x ∈ chancesF T (rooms S) S.length (hasF F S T) f ↔ 0 ≤ x ∧ CanB S T f x := by
 unfold chancesF
 rw [List.mem_filter]
 constructor
 ·
  rintro ⟨h1, h2⟩
  have h0 := (fitsok_of hc f hf x h1).1
  exact ⟨h0, (withB_iff hc his hf h0).1 h2⟩
 rintro ⟨h0, h1⟩
 exact ⟨can_in hf h0 h1, (withB_iff hc his hf h0).2 h1⟩
theorem chances_asc (hc : checkB F S T = 0) {f : Nat} (hf : f < T.length) (has : List Int) : (chancesF T (rooms S) S.length has f).Pairwise (· < ·) :=
 (asc_of_ris (fits_row (check_parts hc).2.2.2.2.2 f hf)).filter _
theorem chances_eq (hc : checkB F S T = 0) (his : isF F S T = true) {f : Nat} (hf : f < T.length) : refCh S.length (allB S T) f = chancesF T (rooms S) S.length (hasF F S T) f := by
 refine asc_ext _ _ (refCh_asc _ _ _) (chances_asc hc hf _) fun x => ?_
 rw [mem_refCh, mem_chances hc his hf]
 constructor
 ·
  rintro ⟨h0, _, l, hl, e⟩
  exact ⟨h0, l, (mem_allB hc l).1 hl, e⟩
 rintro ⟨h0, l, hl, e⟩
 have hin := can_in hf h0 ⟨l, hl, e⟩
 exact ⟨h0, (fitsok_of hc f hf x hin).2, l, (mem_allB hc l).2 hl, e⟩
end
section
variable {F : List Int} {S : List S50} {T : List (List Int)}
end
end Go.Proofs.Ytkmmihadcbfkoaa
end

section
namespace Go.Proofs.Ytkmmihadcbfkoaa
open Go.RowKit Go.Proofs.YtkmmihadcbfkoaaW.PrintWords PM
set_option linter.unusedVariables false
set_option linter.unusedSimpArgs false
theorem Ev.pos {α : Type} {c : Prop} [Decidable c] {f g : Nat → Option α} {r : α} (h : c) (hf : Ev f r) : Ev (fun k => if c then f k else g k) r := hf.congr fun _ => if_pos h
theorem Ev.neg {α : Type} {c : Prop} [Decidable c] {f g : Nat → Option α} {r : α} (h : ¬ c) (hg : Ev g r) : Ev (fun k => if c then f k else g k) r := hg.congr fun _ => if_neg h
theorem Ev.into {α : Type} {f g : Nat → Option α} {r : α} (hs : ∀ k, f (k + 1) = g k) (h : Ev g r) : Ev f r := h.step hs
theorem there_is {F : List Int} {S : List S50} {T : List (List Int)} (hF : F.length ≤ 9223372036854775807) (hS : S.length ≤ 9223372036854775807) (hT : T.length ≤ 9223372036854775807) (hr : ∀ l, l ∈ T → l.length ≤ 9223372036854775807) (find slot : Int) :
  Ev (fun k => laganref04_there.f k F S T find slot) (askB F S T find slot false false) := by
 refine Ev.bind (refcheck_is F S T hF hS hT hr) ?_
 unfold askB
 by_cases hc : checkB F S T = 0
 rotate_left
 ·
  rw [if_pos hc]
  exact Ev.neg hc (Ev.const _)
 rw [if_neg (show ¬ checkB F S T ≠ 0 from fun h => h hc)]
 refine Ev.pos hc ?_
 have hi : ∀ x : Int, ∀ n : Nat, inB x 0 ((n : Int) - 1) = (decide (0 ≤ x) && decide (x < n)) := fun x n => by
  unfold inB
  congr 1
  exact decide_eq_decide.2 ⟨fun h => by omega, fun h => by omega⟩
 rw [hi, hi]
 by_cases a1 : find < 0
 ·
  rw [decide_eq_false (show ¬ 0 ≤ find by omega)]
  exact Ev.pos a1 (by simpa using Ev.const (1 : Int))
 refine Ev.neg a1 ?_
 rw [decide_eq_true (show 0 ≤ find by omega)]
 by_cases a2 : find ≥ (F.length : Int)
 ·
  rw [decide_eq_false (show ¬ find < (F.length : Int) by omega)]
  exact Ev.pos a2 (by simpa using Ev.const (1 : Int))
 refine Ev.neg a2 ?_
 rw [decide_eq_true (show find < (F.length : Int) by omega)]
 by_cases a3 : slot < 0
 ·
  rw [decide_eq_false (show ¬ 0 ≤ slot by omega)]
  exact Ev.pos a3 (by simpa using Ev.const (1 : Int))
 refine Ev.neg a3 ?_
 rw [decide_eq_true (show 0 ≤ slot by omega)]
 by_cases a4 : slot ≥ (S.length : Int)
 ·
  rw [decide_eq_false (show ¬ slot < (S.length : Int) by omega)]
  exact Ev.pos a4 (by simpa using Ev.const (1 : Int))
 refine Ev.neg a4 ?_
 rw [decide_eq_true (show slot < (S.length : Int) by omega), hc]
 simpa using Ev.const (0 : Int)
def refuseP (F : List Int) (S : List S50) (T : List (List Int)) (find slot : Int) (fs : List Int) : Bool × Int :=
 if askB F S T find slot false false ≠ 0 then (false, askB F S T find slot false false) else if slot ∉ T.getD find.toNat [] then (decide (fs = []), 0) else (crowdedB F S T fs find slot, 0)
theorem refrefuse_is {F : List Int} {S : List S50} {T : List (List Int)} (hF : F.length ≤ 9223372036854775807) (hS : S.length ≤ 9223372036854775807) (hT : T.length ≤ 9223372036854775807) (hr : ∀ l, l ∈ T → l.length ≤ 9223372036854775807) (find slot : Int) (fs : List Int) (hl : fs.length ≤ 9223372036854775807) :
  Ev (fun k => laganref04_CheckRefuse.f k F S T find slot fs) (refuseP F S T find slot fs) := by
 refine Ev.bind (there_is hF hS hT hr find slot) ?_
 unfold refuseP
 by_cases hq : askB F S T find slot false false = 0
 rotate_left
 ·
  rw [if_pos hq]
  exact Ev.neg hq (Ev.const _)
 rw [if_neg (show ¬ askB F S T find slot false false ≠ 0 from fun h => h hq)]
 obtain ⟨hc, hfd, hsl⟩ := ask_parts hq
 have h1 := hfd rfl
 have hk := bok_of_check hc
 have hnt := hk.nt
 refine Ev.pos hq (Ev.pos h1.1 (Ev.pos (by omega) ?_))
 have hrow := hk.row find.toNat (by omega)
 refine Ev.bind (has_is (rd_L1 T find) slot (by show (T.getD find.toNat []).length ≤ _; omega)) ?_
 show Ev _ _
 have hrd : rd_L1 T find = T.getD find.toNat [] := rfl
 by_cases hm : slot ∈ T.getD find.toNat []
 rotate_left
 ·
  rw [if_pos hm]
  refine Ev.neg (by rw [hrd, decide_eq_false hm]; simp) ?_
  have e : ((fs.length : Int) == 0) = decide (fs = []) := by
   by_cases h : fs = []
   ·
    subst h; rfl
   ·
    rw [decide_eq_false h, beq_eq_false_iff_ne]
    intro k
    exact h (List.length_eq_zero_iff.1 (by omega))
  rw [← e]
  exact Ev.const _
 rw [if_neg (show ¬ slot ∉ T.getD find.toNat [] from fun h => h hm)]
 refine Ev.pos (by rw [hrd]; exact decide_eq_true hm) ?_
 refine Ev.bind (has_is fs find hl) ?_
 rw [crowded_is hc]
 by_cases hw : find ∈ fs
 ·
  rw [decide_eq_true hw, Bool.not_true, Bool.and_false]
  exact Ev.pos rfl (Ev.const _)
 rw [decide_eq_false hw, Bool.not_false, Bool.and_true]
 refine Ev.neg (by simp) ?_
 exact Ev.bind (short_is hc fs slot hl) (Ev.const _)
end Go.Proofs.Ytkmmihadcbfkoaa
end

section
namespace Go.Proofs.Ytkmmihadcbfkoaa
open Go.RowKit Go.Proofs.YtkmmihadcbfkoaaW.PrintWords PM
set_option linter.unusedVariables false
set_option linter.unusedSimpArgs false
def bdF : List Int := [10, 20, 30]
def bdS (p : Int) : List S50 := [⟨1, 1, p⟩, ⟨1, 2, 1⟩, ⟨1, 3, 1⟩]
def bdT : List (List Int) := [[0], [0, 1], [0, 1, 2]]
theorem rowC {W : World} {b t : Nat} {cs : Array Value} {fr : Nat × Nat} {l : List Int} (h : W.heap[b]? = some (.cells cs t fr)) (hl : l.length ≤ 9223372036854775807) (hc : ∀ (j : Nat) (v : Int), l[j]? = some v → cs[j]? = some (Value.int .i64 v)) : Kd.C (Kd.int .i64) W (some ⟨b, 0, none⟩) l.length l :=
 Kd.C_of_reads (enc := Value.int .i64) (d := (0 : Int)) (h1 := fun _ => rfl) ⟨rfl, hl, fun _ => ⟨⟨b, 0, none⟩, rfl, fun j hj => by
  rw [add_plain]
  have := hc j l[j] (List.getElem?_eq_getElem hj)
  simp [World.cell?, h, this, List.getD_eq_getElem?_getD, List.getElem?_eq_getElem hj]⟩⟩
theorem rowsC {W : World} {b t : Nat} {cs : Array Value} {fr : Nat × Nat} {T : List (List Int)} (h : W.heap[b]? = some (.cells cs t fr)) (hl : T.length ≤ 9223372036854775807)
  (hc : ∀ (j : Nat) (l : List Int), T[j]? = some l → ∃ A c, cs[j]? = some (Value.slice A l.length c) ∧ l.length ≤ c ∧ Kd.C (Kd.int .i64) W A l.length l) : Kd.C (Kd.slice 3 (Kd.int .i64)) W (some ⟨b, 0, none⟩) T.length T :=
 ⟨rfl, hl, fun _ => ⟨⟨b, 0, none⟩, rfl, fun j l hj => by
  obtain ⟨A, c, h1, h2, h3⟩ := hc j l hj
  refine ⟨[.slice A l.length c], rfl, ⟨A, c, rfl, h2, h3⟩, fun i u hu => ?_⟩
  have hi : i = 0 := by
   have := (List.getElem?_eq_some_iff.1 hu).1
   simpa using this
  subst hi
  have hu : Value.slice A l.length c = u := by simpa using hu
  subst hu
  show W.cell? ((⟨b, 0, none⟩ : Addr).add (j * 1 + 0)) = _
  rw [add_plain]
  simp [World.cell?, h, h1]⟩⟩
theorem slotsC {W : World} {b t : Nat} {cs : Array Value} {fr : Nat × Nat} {S : List S50} (h : W.heap[b]? = some (.cells cs t fr)) (hl : S.length ≤ 9223372036854775807)
  (hc : ∀ (j : Nat) (s : S50), S[j]? = some s → cs[j * 3]? = some (Value.int .i64 s.f0) ∧ cs[j * 3 + 1]? = some (Value.int .i64 s.f1) ∧ cs[j * 3 + 2]? = some (Value.int .i64 s.f2)) : Kd.C k50 W (some ⟨b, 0, none⟩) S.length S :=
 ⟨rfl, hl, fun _ => ⟨⟨b, 0, none⟩, rfl, fun j s hj => by
  obtain ⟨h0, h1, h2⟩ := hc j s hj
  refine ⟨[.int .i64 s.f0, .int .i64 s.f1, .int .i64 s.f2], rfl, k50_mk W s, fun i u hu => ?_⟩
  show W.cell? ((⟨b, 0, none⟩ : Addr).add (j * 3 + i)) = _
  rw [add_plain]
  have hi := (List.getElem?_eq_some_iff.1 hu).1
  match i, hi, hu with
  | 0, _, hu =>
   have hu : Value.int .i64 s.f0 = u := by simpa using hu
   subst hu
   simp [World.cell?, h, h0]
  | 1, _, hu =>
   have hu : Value.int .i64 s.f1 = u := by simpa using hu
   subst hu
   simp [World.cell?, h, h1]
  | 2, _, hu =>
   have hu : Value.int .i64 s.f2 = u := by simpa using hu
   subst hu
   simp [World.cell?, h, h2]⟩⟩
def BoardPost (F : List Int) (S : List S50) (T : List (List Int)) (w : World) (e : Ending) (w' : World) : Prop :=
 ∃ A0 c0 A1 c1 A2 c2, e = .returned (.agg #[.slice A0 F.length c0, .slice A1 S.length c1, .slice A2 T.length c2]) ∧ F.length ≤ c0 ∧ S.length ≤ c1 ∧ T.length ≤ c2 ∧ Kd.C (Kd.int .i64) w' A0 F.length F ∧ Kd.C k50 w' A1 S.length S ∧ Kd.C (Kd.slice 3 (Kd.int .i64)) w' A2 T.length T ∧ Below w.heap.size w w'
set_option maxRecDepth 100000 in
set_option maxHeartbeats 8000000 in
theorem board_calls (p : Int) (w : World) : Calls Try.prog 51 #[.int .i64 p] w (BoardPost bdF (bdS p) bdT w) := by
  go_enter Try.func51, Try.ntmps51
  go_wp2_with fail
  have hB : Below w.heap.size w (((((((w.alloc (.cells #[.slice (some ⟨w.heap.size + 1, 0, none⟩) 3 3, .slice (some ⟨w.heap.size + 1 + 1, 0, none⟩) 3 3, .slice (some ⟨w.heap.size + 1 + 1 + 1 + 1 + 1 + 1, 0, none⟩) 3 3] 26)).alloc (.cells #[.int .i64 10, .int .i64 20, .int .i64 30] 3)).alloc
      (.cells #[.int .i64 1, .int .i64 1, .int .i64 p, .int .i64 1, .int .i64 2, .int .i64 1, .int .i64 1, .int .i64 3, .int .i64 1] 50)).alloc (.cells #[.int .i64 0] 3)).alloc (.cells #[.int .i64 0, .int .i64 1] 3)).alloc (.cells #[.int .i64 0, .int .i64 1, .int .i64 2] 3)).alloc
      (.cells #[.slice (some ⟨w.heap.size + 1 + 1 + 1, 0, none⟩) 1 1, .slice (some ⟨w.heap.size + 1 + 1 + 1 + 1, 0, none⟩) 2 2, .slice (some ⟨w.heap.size + 1 + 1 + 1 + 1 + 1, 0, none⟩) 3 3] 22)) := by
    repeat (first | exact Below.refl _ _ | refine below_alloc ?_ _)
  obtain ⟨W, hW⟩ : ∃ W, (((((((w.alloc (.cells #[.slice (some ⟨w.heap.size + 1, 0, none⟩) 3 3, .slice (some ⟨w.heap.size + 1 + 1, 0, none⟩) 3 3, .slice (some ⟨w.heap.size + 1 + 1 + 1 + 1 + 1 + 1, 0, none⟩) 3 3] 26)).alloc (.cells #[.int .i64 10, .int .i64 20, .int .i64 30] 3)).alloc
      (.cells #[.int .i64 1, .int .i64 1, .int .i64 p, .int .i64 1, .int .i64 2, .int .i64 1, .int .i64 1, .int .i64 3, .int .i64 1] 50)).alloc (.cells #[.int .i64 0] 3)).alloc (.cells #[.int .i64 0, .int .i64 1] 3)).alloc (.cells #[.int .i64 0, .int .i64 1, .int .i64 2] 3)).alloc
      (.cells #[.slice (some ⟨w.heap.size + 1 + 1 + 1, 0, none⟩) 1 1, .slice (some ⟨w.heap.size + 1 + 1 + 1 + 1, 0, none⟩) 2 2, .slice (some ⟨w.heap.size + 1 + 1 + 1 + 1 + 1, 0, none⟩) 3 3] 22)) = W := ⟨_, rfl⟩
  have e0 : W.heap[w.heap.size]? = some (.cells #[.slice (some ⟨w.heap.size + 1, 0, none⟩) 3 3, .slice (some ⟨w.heap.size + 1 + 1, 0, none⟩) 3 3, .slice (some ⟨w.heap.size + 1 + 1 + 1 + 1 + 1 + 1, 0, none⟩) 3 3] 26 (0, 0)) := by
    rw [← hW]
    repeat (first | exact blk_new _ _ | (refine (congrArg _ ?_).trans (blk_new _ _); simp only [World.size_alloc]; done) | refine blk_alloc ?_ _)
  have e1 : W.heap[w.heap.size + 1]? = some (.cells #[.int .i64 10, .int .i64 20, .int .i64 30] 3 (0, 0)) := by
    rw [← hW]
    repeat (first | exact blk_new _ _ | (refine (congrArg _ ?_).trans (blk_new _ _); simp only [World.size_alloc]; done) | refine blk_alloc ?_ _)
  have e2 : W.heap[w.heap.size + 1 + 1]? = some (.cells #[.int .i64 1, .int .i64 1, .int .i64 p, .int .i64 1, .int .i64 2, .int .i64 1, .int .i64 1, .int .i64 3, .int .i64 1] 50 (0, 0)) := by
    rw [← hW]
    repeat (first | exact blk_new _ _ | (refine (congrArg _ ?_).trans (blk_new _ _); simp only [World.size_alloc]; done) | refine blk_alloc ?_ _)
  have e3 : W.heap[w.heap.size + 1 + 1 + 1]? = some (.cells #[.int .i64 0] 3 (0, 0)) := by
    rw [← hW]
    repeat (first | exact blk_new _ _ | (refine (congrArg _ ?_).trans (blk_new _ _); simp only [World.size_alloc]; done) | refine blk_alloc ?_ _)
  have e4 : W.heap[w.heap.size + 1 + 1 + 1 + 1]? = some (.cells #[.int .i64 0, .int .i64 1] 3 (0, 0)) := by
    rw [← hW]
    repeat (first | exact blk_new _ _ | (refine (congrArg _ ?_).trans (blk_new _ _); simp only [World.size_alloc]; done) | refine blk_alloc ?_ _)
  have e5 : W.heap[w.heap.size + 1 + 1 + 1 + 1 + 1]? = some (.cells #[.int .i64 0, .int .i64 1, .int .i64 2] 3 (0, 0)) := by
    rw [← hW]
    repeat (first | exact blk_new _ _ | (refine (congrArg _ ?_).trans (blk_new _ _); simp only [World.size_alloc]; done) | refine blk_alloc ?_ _)
  have e6 : W.heap[w.heap.size + 1 + 1 + 1 + 1 + 1 + 1]? = some (.cells #[.slice (some ⟨w.heap.size + 1 + 1 + 1, 0, none⟩) 1 1, .slice (some ⟨w.heap.size + 1 + 1 + 1 + 1, 0, none⟩) 2 2, .slice (some ⟨w.heap.size + 1 + 1 + 1 + 1 + 1, 0, none⟩) 3 3] 22 (0, 0)) := by
    rw [← hW]
    repeat (first | exact blk_new _ _ | (refine (congrArg _ ?_).trans (blk_new _ _); simp only [World.size_alloc]; done) | refine blk_alloc ?_ _)
  rw [hW] at hB ⊢
  refine bodyPost_ret (results_cell_row rfl _ _ w.heap.size 26 _ (0, 0) _ rfl e0 Try.underlying26 rfl (by kernel_rfl)) rfl ?_
  have r0 := rowC (l := [0]) e3 (by decide) (fun j v hv => by
    match j, hv with
    | 0, hv => have : (0 : Int) = v := by simpa using hv
               subst this; rfl)
  have r1 := rowC (l := [0, 1]) e4 (by decide) (fun j v hv => by
    match j, hv with
    | 0, hv => have : (0 : Int) = v := by simpa using hv
               subst this; rfl
    | 1, hv => have : (1 : Int) = v := by simpa using hv
               subst this; rfl)
  have r2 := rowC (l := [0, 1, 2]) e5 (by decide) (fun j v hv => by
    match j, hv with
    | 0, hv => have : (0 : Int) = v := by simpa using hv
               subst this; rfl
    | 1, hv => have : (1 : Int) = v := by simpa using hv
               subst this; rfl
    | 2, hv => have : (2 : Int) = v := by simpa using hv
               subst this; rfl)
  refine ⟨_, _, _, _, _, _, rfl, by decide, by simp [bdS], by decide, rowC (l := bdF) e1 (by decide) (fun j v hv => ?_), slotsC e2 (by simp [bdS]) (fun j v hv => ?_), rowsC e6 (by decide) (fun j v hv => ?_), hB⟩
  · match j, hv with
    | 0, hv => have : (10 : Int) = v := by simpa [bdF] using hv
               subst this; rfl
    | 1, hv => have : (20 : Int) = v := by simpa [bdF] using hv
               subst this; rfl
    | 2, hv => have : (30 : Int) = v := by simpa [bdF] using hv
               subst this; rfl
    | n + 3, hv => simp [bdF] at hv
  · match j, hv with
    | 0, hv => have : (⟨1, 1, p⟩ : S50) = v := by simpa [bdS] using hv
               subst this; exact ⟨rfl, rfl, rfl⟩
    | 1, hv => have : (⟨1, 2, 1⟩ : S50) = v := by simpa [bdS] using hv
               subst this; exact ⟨rfl, rfl, rfl⟩
    | 2, hv => have : (⟨1, 3, 1⟩ : S50) = v := by simpa [bdS] using hv
               subst this; exact ⟨rfl, rfl, rfl⟩
    | n + 3, hv => simp [bdS] at hv
  · match j, hv with
    | 0, hv => have : ([0] : List Int) = v := by simpa [bdT] using hv
               subst this; exact ⟨_, _, rfl, by decide, r0⟩
    | 1, hv => have : ([0, 1] : List Int) = v := by simpa [bdT] using hv
               subst this; exact ⟨_, _, rfl, by decide, r1⟩
    | 2, hv => have : ([0, 1, 2] : List Int) = v := by simpa [bdT] using hv
               subst this; exact ⟨_, _, rfl, by decide, r2⟩
    | n + 3, hv => simp [bdT] at hv
end Go.Proofs.Ytkmmihadcbfkoaa
end

section
namespace Go.Proofs.Ytkmmihadcbfkoaa.PM
open Go.RowKit Go.Proofs.YtkmmihadcbfkoaaW.PrintWords Go.Proofs.YtkmmihadcbfkoaaW.PrintLast Go.Proofs.YtkmmihadcbfkoaaW.PrintMore
set_option linter.unusedVariables false
set_option linter.unusedSimpArgs false
def match_Must.l0 : Nat → List Int → List (List Int) → Int → Int → Option (List Int × Int)
 | 0, _, _, _, _ => none
 | k + 1, x6, x18, x19, x20 => if x20 < x19 then (if 0 ≤ x20 then (if x20 < (x18.length : Int) then (if ((rd_L1 x18 x20).length : Int) = 1 then (if 0 < ((rd_L1 x18 x20).length : Int) then (if x6.length < 17592186044416 then (match_Must.l0 k (x6 ++ [rd (rd_L1 x18 x20) 0]) x18 x19 (wrap64 (x20 + 1))) else (none)) else (none)) else (if x6.length < 17592186044416 then (match_Must.l0 k (x6 ++ [(-1)]) x18 x19 (wrap64 (x20 + 1))) else (none))) else (none)) else (none)) else (some (x6, 0))
def match_Must.f (k : Nat) (aD : List Int) (aA : List (S50)) (aC : List (List Int)) : Option (List Int × Int) := (match_Chances.f aD aA aC).bind fun bt115 => (if bt115.2 = 0 then (match_Must.l0 k ([] : List Int) bt115.1 (bt115.1.length : Int) 0) else (some (([] : List Int), bt115.2)))
set_option maxHeartbeats 8000000 in
set_option maxRecDepth 100000 in
theorem match_Must.calls (k : Nat) (aG : Option Addr) (aH : Nat) (aD : List Int) (aK : Option Addr) (aI : Nat) (aA : List (S50)) (aM : Option Addr) (aJ : Nat) (aC : List (List Int)) (r1 : List Int) (r2 : Int) (w : World) (bC : Kd.C (Kd.int .i64) w aG aD.length aD) (bD : aD.length ≤ aH) (bE : Kd.C k50 w aK aA.length aA) (bF : aA.length ≤ aI) (bG : Kd.C (Kd.slice 3 (Kd.int .i64)) w aM aC.length aC) (bH : aC.length ≤ aJ) (h : match_Must.f k aD aA aC = some (r1, r2)) :
  Calls Try.prog 17 #[.agg #[.slice aG aD.length aH, .slice aK aA.length aI, .slice aM aC.length aJ]] w fun e w' => ∃ v0_ : Value, e = .returned (.tuple #[v0_, .int .i64 r2]) ∧ Kd.R (Kd.int .i64) 3 w' w.heap.size (fun _ => True) v0_ r1 ∧ Below w.heap.size w w' := by
 have hu26 := Try.underlying26
 have bA := Aside0.mk bC
 have bK := Aside0.mk bD
 clear bC bD
 have aZ := Aside0.mk bE
 have bL := Aside0.mk bF
 clear bE bF
 have aX := Aside0.mk bG
 have bM := Aside0.mk bH
 clear bG bH
 have HB := Aside0.mk (Below.refl w.heap.size w)
 have H : ((match_Chances.f aD aA aC).bind fun bt115 => (if bt115.2 = 0 then (match_Must.l0 k ([] : List Int) bt115.1 (bt115.1.length : Int) 0) else (some (([] : List Int), bt115.2)))) = some (r1, r2) := h
 clear h
 replace H := Option.bind_eq_some_iff.mp H
 obtain ⟨⟨t115, t118⟩, A20, H⟩ := H
 replace H : (if t118 = 0 then (match_Must.l0 k ([] : List Int) t115 (t115.length : Int) 0) else (some (([] : List Int), t118))) = some (r1, r2) := H
 have A2 := Aside0.mk A20
 clear A20
 by_cases c3 : t118 = 0
 rotate_left
 ·
  rw [if_neg c3] at H
  have c3b0 : (t118 == 0) = false := beq_eq_false_iff_ne.mpr c3
  have c3b1 : (t118 != 0) = true := bne_iff_ne.mpr c3
  simp only [Option.some.injEq, Prod.mk.injEq] at H
  obtain ⟨rfl, rfl⟩ := H
  go_enter Try.func17, Try.ntmps17
  go_wp2_with (first | ((with_reducible refine gate_dst (N := 1) rfl ?_); refine box_event ?hg (N := 1) ?hd (cs := #[.slice aG aD.length aH, .slice aK aA.length aI, .slice aM aC.length aJ]) (t := 26) ?hr ?_; (case hd => rfl); (case hg => rfl); (case hr => first | (go_simp; done) | (go_simp; rfl)); intro gb114 hg w17 hbox hb; have n0_ := Aside0.mk (below_step (by repeat (first | (with_reducible first | exact HB.out | apply below_alloc | apply pw_below_drewN | apply below_drew1) | exact HB.out)) hb); have n1_ := Aside0.mk (hbox); have n2_ := Aside0.mk ((by rw [hg]; exact (below_size (by repeat (first | (with_reducible first | exact HB.out | apply below_alloc | apply pw_below_drewN | apply below_drew1) | exact HB.out))) : w.heap.size ≤ gb114)); have n3_ := Aside0.mk ((by rw [hg]; exact (below_size (by repeat (first | (with_reducible first | exact HB.out | apply below_alloc | apply pw_below_drewN | apply below_drew1) | exact HB.out))) : w.heap.size ≤ gb114)); clear HB; have HB := n0_; have BK114 := n1_; have GW114 := n2_; have GE114 := n3_; clear n0_ n1_ n2_ n3_; clear hb hbox hg; have hcz18_0 : w17.cell? ⟨gb114, 0, none⟩ = some (.slice aG aD.length aH) := (blk_cell BK114.out 0).trans rfl; have hcz18_1 : w17.cell? ⟨gb114, 1, none⟩ = some (.slice aK aA.length aI) := (blk_cell BK114.out 1).trans rfl; have hcz18_2 : w17.cell? ⟨gb114, 2, none⟩ = some (.slice aM aC.length aJ) := (blk_cell BK114.out 2).trans rfl; have hfz18_0 := blk_frozen BK114.out 0; have hfz18_1 := blk_frozen BK114.out 1; have hfz18_2 := blk_frozen BK114.out 2) | ((with_reducible refine gate_callee (f := 16) rfl ?_); refine goesL_ (some 12) rfl rfl Try.func16 (by kernel_rfl) rfl #[.agg #[.slice aG aD.length aH, .slice aK aA.length aI, .slice aM aC.length aJ]] rfl (by (try simp only [List.map_toArray, List.map_cons, List.map_nil]); first | done | rfl | (simp only [List.length_drop, List.length_take]; rfl)) ?_; (with_reducible refine (match_Chances.calls _ _ aD _ _ aA _ _ aC t115 t118 _ ?side1 ?side2 ?side3 ?side4 ?side5 ?side6 A2.out).mono ?_); (case side1 => repeat (first | exact (Kd.C_below bA.out HB.out) | (with_reducible refine Kd.C_alloc ?_ _) | (with_reducible refine Kd.C_drewN ?_ _) | (with_reducible refine Kd.C_drew ?_))); (case side2 => exact bK.out); (case side3 => repeat (first | exact (Kd.C_below aZ.out HB.out) | (with_reducible refine Kd.C_alloc ?_ _) | (with_reducible refine Kd.C_drewN ?_ _) | (with_reducible refine Kd.C_drew ?_))); (case side4 => exact bL.out); (case side5 => repeat (first | exact (Kd.C_below aX.out HB.out) | (with_reducible refine Kd.C_alloc ?_ _) | (with_reducible refine Kd.C_drewN ?_ _) | (with_reducible refine Kd.C_drew ?_))); (case side6 => exact bM.out); rintro e w19 ⟨v116, rfl, ho0, hb⟩; refine ⟨_, rfl, ?_⟩; have n0_ := Aside0.mk (Kd.S_lower ho0 (below_size (by repeat (first | (with_reducible first | exact HB.out | apply below_alloc | apply pw_below_drewN | apply below_drew1 | refine below_set ?_ GE114.out) | exact HB.out)))); have n1_ := Aside0.mk (blk_below (g := gb114) (o := .cells #[.slice aG aD.length aH, .slice aK aA.length aI, .slice aM aC.length aJ] 26 (0, 0)) (by (with_reducible repeat (first | refine blk_drewN ?_ _ | refine blk_drew ?_ | refine blk_alloc ?_ _)); exact BK114.out) hb); have n2_ := Aside0.mk (below_step (by repeat (first | (with_reducible first | exact HB.out | apply below_alloc | apply pw_below_drewN | apply below_drew1 | refine below_set ?_ GE114.out) | exact HB.out)) hb); clear BK114; clear HB; have HO117 := n0_; have BK114 := n1_; have HB := n2_; clear n0_ n1_ n2_; (try clear hb); (try clear hb2); (try clear hk); (try clear hi); (try clear ho0)))
  go_ret2
  exact ⟨_, by first | rfl | (simp [errW_none, errW_some] <;> rfl) | (simp [*, errW_none, errW_some] <;> rfl), by first | exact Kd.R_nil _ _ _ _ _ | exact Kd.N_nil _ _ _ _ _ | exact Kd.V_nil _ _ _ _ _ | exact Kd.Q_nil _ _ _ _ _ | exact Kd.S_nil _ _ _ _ _, by repeat (first | (with_reducible first | exact HB.out | apply below_alloc | apply pw_below_drewN | apply below_drew1 | refine below_set ?_ GE114.out) | exact HB.out)⟩
 rw [if_pos c3] at H
 have c3b0 : (t118 == 0) = true := beq_iff_eq.mpr c3
 have c3b1 : (t118 != 0) = false := bne_eq_false_iff_eq.mpr c3
 clear c3
 have H' := Aside0.mk H
 clear H
 go_enter Try.func17, Try.ntmps17
 go_wp2_with (first | ((with_reducible refine gate_dst (N := 1) rfl ?_); refine box_event ?hg (N := 1) ?hd (cs := #[.slice aG aD.length aH, .slice aK aA.length aI, .slice aM aC.length aJ]) (t := 26) ?hr ?_; (case hd => rfl); (case hg => rfl); (case hr => first | (go_simp; done) | (go_simp; rfl)); intro gb114 hg w4 hbox hb; have n0_ := Aside0.mk (below_step (by repeat (first | (with_reducible first | exact HB.out | apply below_alloc | apply pw_below_drewN | apply below_drew1) | exact HB.out)) hb); have n1_ := Aside0.mk (hbox); have n2_ := Aside0.mk ((by rw [hg]; exact (below_size (by repeat (first | (with_reducible first | exact HB.out | apply below_alloc | apply pw_below_drewN | apply below_drew1) | exact HB.out))) : w.heap.size ≤ gb114)); have n3_ := Aside0.mk ((by rw [hg]; exact (below_size (by repeat (first | (with_reducible first | exact HB.out | apply below_alloc | apply pw_below_drewN | apply below_drew1) | exact HB.out))) : w.heap.size ≤ gb114)); clear HB; have HB := n0_; have BK114 := n1_; have GW114 := n2_; have GE114 := n3_; clear n0_ n1_ n2_ n3_; clear hb hbox hg; have dG : w4.cell? ⟨gb114, 0, none⟩ = some (.slice aG aD.length aH) := (blk_cell BK114.out 0).trans rfl; have dH : w4.cell? ⟨gb114, 1, none⟩ = some (.slice aK aA.length aI) := (blk_cell BK114.out 1).trans rfl; have dI : w4.cell? ⟨gb114, 2, none⟩ = some (.slice aM aC.length aJ) := (blk_cell BK114.out 2).trans rfl; have dJ := blk_frozen BK114.out 0; have dK := blk_frozen BK114.out 1; have dL := blk_frozen BK114.out 2) | ((with_reducible refine gate_callee (f := 16) rfl ?_); refine goesL_ (some 12) rfl rfl Try.func16 (by kernel_rfl) rfl #[.agg #[.slice aG aD.length aH, .slice aK aA.length aI, .slice aM aC.length aJ]] rfl (by (try simp only [List.map_toArray, List.map_cons, List.map_nil]); first | done | rfl | (simp only [List.length_drop, List.length_take]; rfl)) ?_; (with_reducible refine (match_Chances.calls _ _ aD _ _ aA _ _ aC t115 t118 _ ?side1 ?side2 ?side3 ?side4 ?side5 ?side6 A2.out).mono ?_); (case side1 => repeat (first | exact (Kd.C_below bA.out HB.out) | (with_reducible refine Kd.C_alloc ?_ _) | (with_reducible refine Kd.C_drewN ?_ _) | (with_reducible refine Kd.C_drew ?_))); (case side2 => exact bK.out); (case side3 => repeat (first | exact (Kd.C_below aZ.out HB.out) | (with_reducible refine Kd.C_alloc ?_ _) | (with_reducible refine Kd.C_drewN ?_ _) | (with_reducible refine Kd.C_drew ?_))); (case side4 => exact bL.out); (case side5 => repeat (first | exact (Kd.C_below aX.out HB.out) | (with_reducible refine Kd.C_alloc ?_ _) | (with_reducible refine Kd.C_drewN ?_ _) | (with_reducible refine Kd.C_drew ?_))); (case side6 => exact bM.out); rintro e w6 ⟨v116, rfl, ho0, hb⟩; refine ⟨_, rfl, ?_⟩; have n0_ := Aside0.mk (Kd.S_lower ho0 (below_size (by repeat (first | (with_reducible first | exact HB.out | apply below_alloc | apply pw_below_drewN | apply below_drew1 | refine below_set ?_ GE114.out) | exact HB.out)))); have n1_ := Aside0.mk (blk_below (g := gb114) (o := .cells #[.slice aG aD.length aH, .slice aK aA.length aI, .slice aM aC.length aJ] 26 (0, 0)) (by (with_reducible repeat (first | refine blk_drewN ?_ _ | refine blk_drew ?_ | refine blk_alloc ?_ _)); exact BK114.out) hb); have n2_ := Aside0.mk (below_step (by repeat (first | (with_reducible first | exact HB.out | apply below_alloc | apply pw_below_drewN | apply below_drew1 | refine below_set ?_ GE114.out) | exact HB.out)) hb); clear BK114; clear HB; have HO117 := n0_; have BK114 := n1_; have HB := n2_; clear n0_ n1_ n2_; (try clear hb); (try clear hb2); (try clear hk); (try clear hi); (try clear ho0); obtain ⟨Ao7, co7, eo7⟩ := Kd.S_slice HO117.out; subst eo7))
 go_loopg [6, 20] k (fun kq v6 v20 w' => ∃ (aE : List Int) (bB : Int), v20 = .int .i64 bB ∧ Aside0 (match_Must.l0 kq aE t115 (t115.length : Int) bB = some (r1, r2)) ∧ Aside0 (kq ≤ k) ∧ Aside0 (Kd.R (Kd.int .i64) 3 w' w.heap.size (fun _ => True) v6 aE) ∧ Aside0 (Kd.S (Kd.slice 3 (Kd.int .i64)) 22 w' w.heap.size (fun k_ => some k_ ≠ (v6 : Value).ownBlock) (.slice Ao7 t115.length co7) t115) ∧ Aside0 (w'.heap[gb114]? = some (.cells #[(.slice aG aD.length aH), (.slice aK aA.length aI), (.slice aM aC.length aJ)] 26 (0, 0))) ∧ Aside0 (Below w.heap.size w w'))
 case atStart => exact ⟨(([] : List Int)), (0), (by first | rfl | (simp; done) | (simp [*]; done)), H', ⟨Nat.le_refl _⟩, ⟨by first | exact Kd.R_nil _ _ _ _ _ | exact Kd.N_nil _ _ _ _ _ | exact Kd.V_nil _ _ _ _ _ | exact Kd.Q_nil _ _ _ _ _ | exact Kd.S_nil _ _ _ _ _⟩, ⟨by (with_reducible repeat (first | apply Kd.S_alloc | apply Kd.S_drewN | apply Kd.S_drew)); exact Kd.S_mono HO117.out (fun _ hk => (by simp [Value.ownBlock]))⟩, ⟨by (with_reducible repeat (first | refine blk_drewN ?_ _ | refine blk_drew ?_ | refine blk_alloc ?_ _)); exact BK114.out⟩, ⟨by repeat (first | (with_reducible first | exact HB.out | apply below_alloc | apply pw_below_drewN | apply below_drew1 | refine below_set ?_ GE114.out) | exact HB.out)⟩⟩
 clear H'
 try clear dG
 try clear dH
 try clear dI
 try clear dJ
 try clear dK
 try clear dL
 obtain ⟨aE, bB, rfl, HA, HK1, HO_6, HO_18, BK114, HB⟩ := hrel
 cases gk with
 | zero => exact absurd HA.out (by simp [match_Must.l0])
 | succ k1 =>
  have H := HA.out
  clear HA
  simp only [match_Must.l0] at H
  by_cases c8 : bB < (t115.length : Int)
  rotate_left
  ·
   rw [if_neg c8] at H
   have c8b0 : decide (bB < (t115.length : Int)) = false := decide_eq_false c8
   clear c8
   simp only [Option.some.injEq, Prod.mk.injEq] at H
   obtain ⟨rfl, rfl⟩ := H
   go_wp2
   go_ret2
   exact ⟨_, by first | rfl | (simp [errW_none, errW_some] <;> rfl) | (simp [*, errW_none, errW_some] <;> rfl), by (with_reducible repeat (first | apply Kd.R_alloc | apply Kd.R_drewN | apply Kd.R_drew)); exact HO_6.out, by repeat (first | (with_reducible first | exact HB.out | apply below_alloc | apply pw_below_drewN | apply below_drew1 | refine below_set ?_ GE114.out) | exact HB.out)⟩
  rw [if_pos c8] at H
  have c8b0 : decide (bB < (t115.length : Int)) = true := decide_eq_true c8
  clear c8
  by_cases c9 : 0 ≤ bB
  rotate_left
  ·
   rw [if_neg c9] at H
   exact absurd H (by simp)
  rw [if_pos c9] at H
  have c9b0 : decide (0 ≤ bB) = true := decide_eq_true c9
  clear c9
  by_cases c10 : bB < (t115.length : Int)
  rotate_left
  ·
   rw [if_neg c10] at H
   exact absurd H (by simp)
  rw [if_pos c10] at H
  have c10b0 : decide (bB < (t115.length : Int)) = true := decide_eq_true c10
  clear c10
  by_cases c11 : ((rd_L1 t115 bB).length : Int) = 1
  rotate_left
  ·
   rw [if_neg c11] at H
   have c11b0 : (((rd_L1 t115 bB).length : Int) == 1) = false := beq_eq_false_iff_ne.mpr c11
   have c11b1 : (((rd_L1 t115 bB).length : Int) != 1) = true := bne_iff_ne.mpr c11
   by_cases c15 : aE.length < 17592186044416
   rotate_left
   ·
    rw [if_neg c15] at H
    exact absurd H (by simp)
   rw [if_pos c15] at H
   have LMc15 := Aside0.mk c15
   clear c15
   obtain ⟨y124, hy124⟩ : ∃ y_ : List Int, y_ = (aE ++ [(-1)]) := ⟨_, rfl⟩
   replace H : (match_Must.l0 k1 y124 t115 (t115.length : Int) (wrap64 (bB + 1))) = some (r1, r2) := by first | (rw [hy124]; with_reducible exact H) | (have H2_ := (Option.bind_some _ _).symm.trans H; rw [hy124]; with_reducible exact H2_) | (have H2_ := (Option.bind_some _ _).symm.trans H; with_reducible exact H2_) | with_reducible exact H | (rw [hy124]; exact H) | exact H
   have Ny124 := Aside0.mk hy124
   clear hy124
   have H' := Aside0.mk H
   clear H
   have p119 : 0 ≤ (bB : Int) := of_decide_eq_true (by assumption)
   have q119 : bB < (t115.length : Int) := of_decide_eq_true (by assumption)
   obtain ⟨ad119, rY, rZ, e119, lI, hJ, hZ⟩ := at_L1 (Kd.S_reads' HO_18.out).2.2 bB p119 q119
   cases e119
   obtain ⟨ce119, hce119, hMe119, hcc119⟩ := Kd.S_get HO_18.out [] bB p119 (by first | exact q119 | exact of_decide_eq_true (by assumption) | (have e_ := (Kd.S_reads' HO_18.out).1; omega))
   obtain ⟨sA, rfl, eW⟩ := hMe119
   have dE := hcc119 0 _ rfl
   rw [Nat.add_zero, show ((Kd.slice 3 (Kd.int .i64))).sz = 1 from rfl, Nat.mul_one] at dE
   replace dE := Option.some.inj (dE.symm.trans lI)
   rw [dE] at eW
   have eX := Aside0.mk (show Kd.R (Kd.int .i64) 3 _ _ _ _ (rd_L1 t115 bB) from eW)
   clear dE eW
   clear hcc119 hce119
   have lJ := Aside0.mk hZ
   have sB := Aside0.mk hJ
   clear hZ hJ
   replace p119 := eq_true p119
   replace q119 := eq_true q119
   go_wp2_with (first | ((with_reducible refine gate_builtin (b := .append) (xs := #[.tmp 30, .tmp 32]) rfl ?_); at_builtin; refine Kd.R_append (Kd.int .i64) (w0 := w) w.heap.size rfl (.tmp 30) (.tmp 32) 22 3 (.int .i64 0) 8 rfl Try.underlying22 info3 rfl (by decide) (by omega) u6 aE (-1) [.int .i64 (-1)] (fun _ => True) (fun _ => False) rfl rfl ?aP (fun _ hk => hk.elim) ?aF ?aO ?aB ?aS ?aL ?_; (case aP => exact rfl); (case aB => exact (by repeat (first | (with_reducible first | exact HB.out | apply below_alloc | apply pw_below_drewN | apply below_drew1 | refine below_set ?_ GE114.out) | exact HB.out))); (case aF => exact (fun _ _ => trivial)); (case aO => exact (by (with_reducible repeat (first | apply Kd.R_alloc | apply Kd.R_drewN | apply Kd.R_drew)); exact HO_6.out)); (case aS => exact (below_size (by repeat (first | (with_reducible first | exact HB.out | apply below_alloc | apply pw_below_drewN | apply below_drew1 | refine below_set ?_ GE114.out) | exact HB.out)))); (case aL => have := LMc15.out; omega); intro v125 w16 ho hb hg hat; rw [← Ny124.out] at ho; have n0_ := Aside0.mk (Kd.S_after (ok := (fun _ => True)) (by (with_reducible repeat (first | apply Kd.S_alloc | apply Kd.S_drewN | apply Kd.S_drew)); exact Kd.S_mono HO_18.out (fun _ hk => ⟨trivial, hk⟩)) hg hat); have n1_ := Aside0.mk (blk_grown (g := gb114) (o := .cells #[.slice aG aD.length aH, .slice aK aA.length aI, .slice aM aC.length aJ] 26 (0, 0)) (by (with_reducible repeat (first | refine blk_drewN ?_ _ | refine blk_drew ?_ | refine blk_alloc ?_ _)); exact BK114.out) hg (Kd.R_ne HO_6.out BK114.out (by decide))); have n2_ := Aside0.mk (Kd.R_after (ok := (fun k_ => some k_ ≠ (.slice (some ad119) t115.length co7 : Value).ownBlock)) (by (with_reducible repeat (first | apply Kd.R_alloc | apply Kd.R_drewN | apply Kd.R_drew)); exact Kd.R_mono eX.out (fun _ hk => ⟨hk.2, hk.1⟩)) hg hat); have n3_ := Aside0.mk (hb); have n4_ := Aside0.mk (ho); clear HO_18; clear BK114; clear eX; clear HB; clear HO_6; have HO_18 := n0_; have BK114 := n1_; have eX := n2_; have HB := n3_; have HO126 := n4_; clear n0_ n1_ n2_ n3_ n4_; clear ho hb hg hat))
   go_roundg k1
   case measure => have := HK1.out; omega
   case rel => exact ⟨(y124), (wrap64 (bB + 1)), (by first | rfl | (simp; done) | (simp [*]; done)), H', ⟨by have := HK1.out; omega⟩, ⟨by (with_reducible repeat (first | apply Kd.R_alloc | apply Kd.R_drewN | apply Kd.R_drew)); exact HO126.out⟩, ⟨by (with_reducible repeat (first | apply Kd.S_alloc | apply Kd.S_drewN | apply Kd.S_drew)); exact Kd.S_mono HO_18.out (fun _ hk => hk.2)⟩, ⟨by (with_reducible repeat (first | refine blk_drewN ?_ _ | refine blk_drew ?_ | refine blk_alloc ?_ _)); exact BK114.out⟩, ⟨by repeat (first | (with_reducible first | exact HB.out | apply below_alloc | apply pw_below_drewN | apply below_drew1 | refine below_set ?_ GE114.out) | exact HB.out)⟩⟩
  rw [if_pos c11] at H
  have c11b0 : (((rd_L1 t115 bB).length : Int) == 1) = true := beq_iff_eq.mpr c11
  have c11b1 : (((rd_L1 t115 bB).length : Int) != 1) = false := bne_eq_false_iff_eq.mpr c11
  clear c11
  by_cases c12 : 0 < ((rd_L1 t115 bB).length : Int)
  rotate_left
  ·
   rw [if_neg c12] at H
   exact absurd H (by simp)
  rw [if_pos c12] at H
  have c12b0 : decide (0 < ((rd_L1 t115 bB).length : Int)) = true := decide_eq_true c12
  have c12b1 : decide (0 < (rd_L1 t115 bB).length) = true := decide_eq_true (by omega)
  clear c12
  by_cases c13 : aE.length < 17592186044416
  rotate_left
  ·
   rw [if_neg c13] at H
   exact absurd H (by simp)
  rw [if_pos c13] at H
  have LMc13 := Aside0.mk c13
  clear c13
  obtain ⟨y121, hy121⟩ : ∃ y_ : List Int, y_ = (aE ++ [rd (rd_L1 t115 bB) 0]) := ⟨_, rfl⟩
  replace H : (match_Must.l0 k1 y121 t115 (t115.length : Int) (wrap64 (bB + 1))) = some (r1, r2) := by first | (rw [hy121]; with_reducible exact H) | (have H2_ := (Option.bind_some _ _).symm.trans H; rw [hy121]; with_reducible exact H2_) | (have H2_ := (Option.bind_some _ _).symm.trans H; with_reducible exact H2_) | with_reducible exact H | (rw [hy121]; exact H) | exact H
  have Ny121 := Aside0.mk hy121
  clear hy121
  have H' := Aside0.mk H
  clear H
  have p119 : 0 ≤ (bB : Int) := of_decide_eq_true (by assumption)
  have q119 : bB < (t115.length : Int) := of_decide_eq_true (by assumption)
  obtain ⟨ad119, rY, rZ, e119, lI, hJ, hZ⟩ := at_L1 (Kd.S_reads' HO_18.out).2.2 bB p119 q119
  cases e119
  obtain ⟨ce119, hce119, hMe119, hcc119⟩ := Kd.S_get HO_18.out [] bB p119 (by first | exact q119 | exact of_decide_eq_true (by assumption) | (have e_ := (Kd.S_reads' HO_18.out).1; omega))
  obtain ⟨sA, rfl, eW⟩ := hMe119
  have dE := hcc119 0 _ rfl
  rw [Nat.add_zero, show ((Kd.slice 3 (Kd.int .i64))).sz = 1 from rfl, Nat.mul_one] at dE
  replace dE := Option.some.inj (dE.symm.trans lI)
  rw [dE] at eW
  have eX := Aside0.mk (show Kd.R (Kd.int .i64) 3 _ _ _ _ (rd_L1 t115 bB) from eW)
  clear dE eW
  clear hcc119 hce119
  have lJ := Aside0.mk hZ
  have sB := Aside0.mk hJ
  clear hZ hJ
  replace p119 := eq_true p119
  replace q119 := eq_true q119
  have p120 : 0 ≤ (0 : Int) := (by omega)
  have q120 : 0 < ((rd_L1 t115 bB).length : Int) := of_decide_eq_true (by assumption)
  obtain ⟨ad120, e120, nI⟩ := Kd.at_int (by repeat (first | (with_reducible exact lJ.out) | (with_reducible refine Kd.C_alloc ?_ _) | (with_reducible refine Kd.C_drewN ?_ _) | (with_reducible refine Kd.C_drew ?_) | exact lJ.out)) 0 p120 q120
  cases e120
  have qi120 : (0 < (rd_L1 t115 bB).length) = True := eq_true (by omega)
  (try rw [show ((0 : Int)).toNat = 0 from rfl] at nI)
  (try rw [Addr.add_zero'] at nI)
  replace p120 := eq_true p120
  replace q120 := eq_true q120
  go_wp2_with (first | ((with_reducible refine gate_builtin (b := .append) (xs := #[.tmp 30, .tmp 32]) rfl ?_); at_builtin; refine Kd.R_append (Kd.int .i64) (w0 := w) w.heap.size rfl (.tmp 30) (.tmp 32) 22 3 (.int .i64 0) 8 rfl Try.underlying22 info3 rfl (by decide) (by omega) u6 aE (rd (rd_L1 t115 bB) 0) [.int .i64 (rd (rd_L1 t115 bB) 0)] (fun _ => True) (fun _ => False) rfl rfl ?aP (fun _ hk => hk.elim) ?aF ?aO ?aB ?aS ?aL ?_; (case aP => exact rfl); (case aB => exact (by repeat (first | (with_reducible first | exact HB.out | apply below_alloc | apply pw_below_drewN | apply below_drew1 | refine below_set ?_ GE114.out) | exact HB.out))); (case aF => exact (fun _ _ => trivial)); (case aO => exact (by (with_reducible repeat (first | apply Kd.R_alloc | apply Kd.R_drewN | apply Kd.R_drew)); exact HO_6.out)); (case aS => exact (below_size (by repeat (first | (with_reducible first | exact HB.out | apply below_alloc | apply pw_below_drewN | apply below_drew1 | refine below_set ?_ GE114.out) | exact HB.out)))); (case aL => have := LMc13.out; omega); intro v122 w14 ho hb hg hat; rw [← Ny121.out] at ho; have n0_ := Aside0.mk (Kd.S_after (ok := (fun _ => True)) (by (with_reducible repeat (first | apply Kd.S_alloc | apply Kd.S_drewN | apply Kd.S_drew)); exact Kd.S_mono HO_18.out (fun _ hk => ⟨trivial, hk⟩)) hg hat); have n1_ := Aside0.mk (blk_grown (g := gb114) (o := .cells #[.slice aG aD.length aH, .slice aK aA.length aI, .slice aM aC.length aJ] 26 (0, 0)) (by (with_reducible repeat (first | refine blk_drewN ?_ _ | refine blk_drew ?_ | refine blk_alloc ?_ _)); exact BK114.out) hg (Kd.R_ne HO_6.out BK114.out (by decide))); have n2_ := Aside0.mk (Kd.R_after (ok := (fun k_ => some k_ ≠ (.slice (some ad119) t115.length co7 : Value).ownBlock)) (by (with_reducible repeat (first | apply Kd.R_alloc | apply Kd.R_drewN | apply Kd.R_drew)); exact Kd.R_mono eX.out (fun _ hk => ⟨hk.2, hk.1⟩)) hg hat); have n3_ := Aside0.mk (hb); have n4_ := Aside0.mk (ho); clear HO_18; clear BK114; clear eX; clear HB; clear HO_6; have HO_18 := n0_; have BK114 := n1_; have eX := n2_; have HB := n3_; have HO123 := n4_; clear n0_ n1_ n2_ n3_ n4_; clear ho hb hg hat))
  go_roundg k1
  case measure => have := HK1.out; omega
  case rel => exact ⟨(y121), (wrap64 (bB + 1)), (by first | rfl | (simp; done) | (simp [*]; done)), H', ⟨by have := HK1.out; omega⟩, ⟨by (with_reducible repeat (first | apply Kd.R_alloc | apply Kd.R_drewN | apply Kd.R_drew)); exact HO123.out⟩, ⟨by (with_reducible repeat (first | apply Kd.S_alloc | apply Kd.S_drewN | apply Kd.S_drew)); exact Kd.S_mono HO_18.out (fun _ hk => hk.2)⟩, ⟨by (with_reducible repeat (first | refine blk_drewN ?_ _ | refine blk_drew ?_ | refine blk_alloc ?_ _)); exact BK114.out⟩, ⟨by repeat (first | (with_reducible first | exact HB.out | apply below_alloc | apply pw_below_drewN | apply below_drew1 | refine below_set ?_ GE114.out) | exact HB.out)⟩⟩
end Go.Proofs.Ytkmmihadcbfkoaa.PM
end
