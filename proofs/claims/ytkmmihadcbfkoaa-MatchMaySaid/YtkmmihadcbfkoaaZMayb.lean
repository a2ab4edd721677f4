/-
  MatchMay holds: for every board, find, slot and list, the law returns true and what it is given reads as it did. (part 2 of 6 of the texts that it stands on)
-/
import Derived.Lib.SlicesCompact
import Derived.RangeFuncBox
import Derived.RangeFuncNested
import Derived.RangeFuncLeaves
import Derived.Shelf.Abstract
import Derived.WalkKit
import Derived.OwnWalkIn
import Derived.TacticsInMore
import Derived.LoopNIn
import Derived.LoopIn
import Derived.Maps.AppendAt
import Derived.Lib.Hide
import Derived.ChangeSlices
import Derived.Test.YtkmmihadcbfkoaaProg
import Derived.Deep.RegionHeld3
import Derived.Deep.LoopGhost
import Derived.WalkMore
import Derived.KernelRfl
import Derived.Shelf.Small.Bits
import Derived.Shelf.Small.Wraps
import Derived.Shelf.Strconv.Itoa0
import Derived.Shelf.Sort.Plain
import Derived.Shelf.Bits.Mul64
import Derived.Shelf.Slices.Turned
import Derived.Ground.Names2Prog
import Derived.Shelf.Slices.CompactI
import Derived.Shelf.Slices.SearchI
import Derived.Shelf.Slices.Delete
import Derived.Shelf.Slices.Cells
import Derived.Shelf.Slices.In.SortNone
import Derived.Shelf.Slices.Empties
import Derived.Below
import Derived.Deep.Draws
import Derived.Deep.AppendLies
import Derived.OwnWalk
import Derived.Laws.BytesArg
import Derived.Laws.MakeOwn
import Derived.Laws.OwnMore
import Derived.Deep.OwnRows
import Derived.Tactics
import Derived.Lib.ConvBytes
import Derived.Laws.Slices
import Derived.RowKit3
import Derived.Deep.QuietTactic
import Derived.BigQuiet
import Derived.WideLaws
import Derived.Deep.DeepCutAuto
import Derived.Deep.CutBlock
import Derived.Laws.Rows
import Derived.Lib.AppendStr
import Derived.ArgAppend
import Derived.Laws.IdiomCopy
import Derived.OrdersHeld
import Derived.Laws.BitsLemmas
import Derived.RowKit
import Derived.Deep.RegionLaw
import Derived.Laws.CopyOwn
import Derived.WalkLawsBesides
import Derived.WalkSpells
import Derived.Laws.EntriesVeiled
import Derived.Test.YtkmmihadcbfkoaaZMaya
section
namespace Go.Proofs.Ytkmmihadcbfkoaa
def atTo (zs : List Int) (s : Int) (k : Nat) : List Int := ((List.range k).filter (fun j => zs[j]?.getD 0 == s)).map Int.ofNat
def atOf (zs : List Int) (s : Int) : List Int := atTo zs s zs.length
theorem atTo_yes {zs : List Int} {s : Int} {k : Nat} (h : zs[k]?.getD 0 = s) : atTo zs s (k + 1) = atTo zs s k ++ [(k : Int)] := by
 simp [atTo, List.range_succ, List.filter_append, h]
theorem atTo_no {zs : List Int} {s : Int} {k : Nat} (h : zs[k]?.getD 0 ≠ s) : atTo zs s (k + 1) = atTo zs s k := by
 simp [atTo, List.range_succ, List.filter_append, h]
theorem atTo_length (zs : List Int) (s : Int) (k : Nat) : (atTo zs s k).length ≤ k := by
 simp only [atTo, List.length_map]
 exact Nat.le_trans (List.length_filter_le _ _) (by simp)
theorem mem_atOf {zs : List Int} {s g : Int} : g ∈ atOf zs s ↔ 0 ≤ g ∧ g < zs.length ∧ zs[g.toNat]?.getD 0 = s := by
 simp only [atOf, atTo, List.mem_map, List.mem_filter, List.mem_range, beq_iff_eq]
 constructor
 ·
  rintro ⟨j, ⟨h1, h2⟩, rfl⟩
  exact ⟨Int.natCast_nonneg _, by simpa using h1, by simpa using h2⟩
 rintro ⟨h0, h1, h2⟩
 exact ⟨g.toNat, ⟨by omega, h2⟩, by simp; omega⟩
def ld (has : List Int) (s : Int) : Int := (atOf has s).length
structure SR where
 ok : Bool
 seen : List Bool
 has : List Int
def seekG (rec : Int → List Bool → List Int → SR) (f : Int) : List Int → List Bool → List Int → SR
 | [], seen, has => ⟨false, seen, has⟩
 | g :: gs, seen, has =>
  if g = f then seekG rec f gs seen has
  else if (rec g seen has).ok then rec g seen has else seekG rec f gs (rec g seen has).seen (rec g seen has).has
def seekS (rec : Int → List Bool → List Int → SR) (room : List Int) (f : Int) : List Int → List Bool → List Int → SR
 | [], seen, has => ⟨false, seen, has⟩
 | s :: ss, seen, has =>
  if seen.getD s.toNat false then seekS rec room f ss seen has
  else if ld has s < room.getD s.toNat 0 then ⟨true, seen.set s.toNat true, has.set f.toNat s⟩
  else if (seekG rec f (atOf has s) (seen.set s.toNat true) has).ok then
   ⟨true, (seekG rec f (atOf has s) (seen.set s.toNat true) has).seen, (seekG rec f (atOf has s) (seen.set s.toNat true) has).has.set f.toNat s⟩
  else seekS rec room f ss (seekG rec f (atOf has s) (seen.set s.toNat true) has).seen (seekG rec f (atOf has s) (seen.set s.toNat true) has).has
def seekF (fits : List (List Int)) (room : List Int) : Nat → Int → List Bool → List Int → SR
 | 0, _, seen, has => ⟨false, seen, has⟩
 | m + 1, f, seen, has => seekS (seekF fits room m) room f (fits.getD f.toNat []) seen has
def cnt (seen : List Bool) : Nat := seen.count false
def SRok (seen : List Bool) (has : List Int) (r : SR) : Prop := r.seen.length = seen.length ∧ r.has.length = has.length ∧ cnt r.seen ≤ cnt seen
theorem cnt_set {seen : List Bool} {i : Nat} (hi : i < seen.length) (h : seen.getD i false = false) : cnt (seen.set i true) + 1 = cnt seen := by
 have h' : seen[i] = false := by simpa [List.getD_eq_getElem?_getD, List.getElem?_eq_getElem hi] using h
 have hp : 0 < seen.count false := List.count_pos_iff.2 (h' ▸ List.getElem_mem hi)
 unfold cnt
 rw [List.count_set hi, h']
 simp
 omega
theorem cnt_set_le {seen : List Bool} {i : Nat} : cnt (seen.set i true) ≤ cnt seen := by
 by_cases hi : i < seen.length
 rotate_left
 ·
  rw [List.set_eq_of_length_le (by omega)]; omega
 by_cases h : seen.getD i false = false
 ·
  have := cnt_set hi h; omega
 have h' : seen[i] = true := by
  have : ¬ seen[i] = false := by simpa [List.getD_eq_getElem?_getD, List.getElem?_eq_getElem hi] using h
  simpa using this
 have : seen.set i true = seen := by
  apply List.ext_getElem (by simp)
  intro j h1 h2
  rw [List.getElem_set]
  split
  ·
   rename_i e; subst e; exact h'.symm
  ·
   rfl
 rw [this]; omega
theorem seekG_ok {rec : Int → List Bool → List Int → SR} (hr : ∀ g seen has, SRok seen has (rec g seen has)) (f : Int) : ∀ gs seen has, SRok seen has (seekG rec f gs seen has)
 | [], seen, has => ⟨rfl, rfl, Nat.le_refl _⟩
 | g :: gs, seen, has => by
  unfold seekG
  have h0 := hr g seen has
  have ih := seekG_ok hr f gs
  split
  ·
   exact ih _ _
  ·
   split
   ·
    exact h0
   ·
    have h1 := ih (rec g seen has).seen (rec g seen has).has
    exact ⟨h1.1.trans h0.1, h1.2.1.trans h0.2.1, Nat.le_trans h1.2.2 h0.2.2⟩
theorem seekS_ok {rec : Int → List Bool → List Int → SR} (hr : ∀ g seen has, SRok seen has (rec g seen has)) (room : List Int) (f : Int) : ∀ ss seen has, SRok seen has (seekS rec room f ss seen has)
 | [], seen, has => ⟨rfl, rfl, Nat.le_refl _⟩
 | s :: ss, seen, has => by
  unfold seekS
  have ih := seekS_ok hr room f ss
  have h0 := seekG_ok hr f (atOf has s) (seen.set s.toNat true) has
  have hc := cnt_set_le (seen := seen) (i := s.toNat)
  have hl : (seen.set s.toNat true).length = seen.length := by simp
  split
  ·
   exact ih _ _
  ·
   split
   ·
    exact ⟨by simp, by simp, hc⟩
   ·
    split
    ·
     exact ⟨h0.1.trans hl, by simpa using h0.2.1, Nat.le_trans h0.2.2 hc⟩
    ·
     have h1 := ih (seekG rec f (atOf has s) (seen.set s.toNat true) has).seen (seekG rec f (atOf has s) (seen.set s.toNat true) has).has
     exact ⟨h1.1.trans (h0.1.trans hl), h1.2.1.trans h0.2.1, Nat.le_trans h1.2.2 (Nat.le_trans h0.2.2 hc)⟩
theorem seekF_ok (fits : List (List Int)) (room : List Int) : ∀ m f seen has, SRok seen has (seekF fits room m f seen has)
 | 0, _, _, _ => ⟨rfl, rfl, Nat.le_refl _⟩
 | m + 1, f, seen, has => by
  unfold seekF
  exact seekS_ok (fun g s h => seekF_ok fits room m g s h) room f _ _ _
def hallTo (find : Int) (seen : List Bool) (has : List Int) (k : Nat) : List Int := find :: ((List.range k).filter (fun s : Nat => seen.getD s false)).flatMap (fun s : Nat => atOf has (s : Int))
theorem hallTo_yes {find : Int} {seen : List Bool} {has : List Int} {k : Nat} (h : seen.getD k false = true) : hallTo find seen has (k + 1) = hallTo find seen has k ++ atOf has (k : Int) := by
 simp only [hallTo, List.range_succ, List.filter_append, List.flatMap_append, List.cons_append]
 rw [List.filter_cons_of_pos (by simpa using h)]
 simp
theorem hallTo_no {find : Int} {seen : List Bool} {has : List Int} {k : Nat} (h : seen.getD k false = false) : hallTo find seen has (k + 1) = hallTo find seen has k := by
 simp only [hallTo, List.range_succ, List.filter_append]
 rw [List.filter_cons_of_neg (by simp only [h]; simp)]
 simp
def giveR (fits : List (List Int)) (room : List Int) (ns : Nat) (find : Int) (has : List Int) : SR := seekF fits room (ns + 1) find (List.replicate ns false) has
def giveH (fits : List (List Int)) (room : List Int) (ns : Nat) (find : Int) (has : List Int) : List Int :=
 if (giveR fits room ns find has).ok then [] else
  Lib.compact ((hallTo find (giveR fits room ns find has).seen (giveR fits room ns find has).has ns).mergeSort fun x y => decide (x ≤ y))
structure FR where
 ok : Bool
 hall : List Int
 has : List Int
def fillL (fits : List (List Int)) (room : List Int) (ns : Nat) (out : Int) : List Nat → List Int → FR
 | [], has => ⟨true, [], has⟩
 | f :: fs, has =>
  if (fits.getD f []).length = 0 ∨ (f : Int) = out ∨ 0 ≤ has.getD f 0 then fillL fits room ns out fs has
  else if (giveR fits room ns f has).ok then fillL fits room ns out fs (giveR fits room ns f has).has
  else ⟨false, giveH fits room ns f has, (giveR fits room ns f has).has⟩
def fillF (fits : List (List Int)) (room : List Int) (ns : Nat) (out : Int) (has : List Int) : FR := fillL fits room ns out (List.range fits.length) has
theorem giveR_len (fits : List (List Int)) (room : List Int) (ns : Nat) (f : Int) (has : List Int) : (giveR fits room ns f has).has.length = has.length := (seekF_ok fits room (ns + 1) f _ has).2.1
theorem fillL_len (fits : List (List Int)) (room : List Int) (ns : Nat) (out : Int) : ∀ fs has, (fillL fits room ns out fs has).has.length = has.length
 | [], _ => rfl
 | f :: fs, has => by
  unfold fillL
  split
  ·
   exact fillL_len fits room ns out fs has
  ·
   split
   ·
    exact (fillL_len fits room ns out fs _).trans (giveR_len ..)
   ·
    exact giveR_len ..
end Go.Proofs.Ytkmmihadcbfkoaa
end

section
namespace Go.Proofs.Ytkmmihadcbfkoaa
set_option linter.unusedVariables false
set_option linter.unusedSimpArgs false
theorem getD_set {α : Type} (l : List α) (i : Nat) (x d : α) (j : Nat) (h : i < l.length) : (l.set i x).getD j d = if j = i then x else l.getD j d := by
 simp only [List.getD_eq_getElem?_getD, List.getElem?_set]
 by_cases e : i = j
 ·
  subst e; simp [h]
 rw [if_neg e, if_neg (fun k => e k.symm)]
theorem range_map_getD (l : List Int) : (List.range l.length).map (fun j => l.getD j 0) = l := by
 apply List.ext_getElem (by simp)
 intro i h1 h2
 simp [List.getD_eq_getElem?_getD, List.getElem?_eq_getElem h2]
theorem ld_countP (has : List Int) (s : Int) : ld has s = ((List.range has.length).countP (fun j => has.getD j 0 == s) : Nat) := by
 simp only [ld, atOf, atTo, List.length_map, List.countP_eq_length_filter, List.getD_eq_getElem?_getD]
theorem ld_cnt (has : List Int) (s : Int) : ld has s = (has.count s : Nat) := by
 rw [ld_countP]
 have : has.count s = ((List.range has.length).map (fun j => has.getD j 0)).count s := by rw [range_map_getD]
 rw [this, List.count, List.countP_map]
 rfl
theorem countP_lt_of {α : Type} {p q : α → Bool} : ∀ {L : List α} {g : α}, (∀ x, x ∈ L → p x = true → q x = true) → g ∈ L → q g = true → p g = false → L.countP p + 1 ≤ L.countP q
 | [], g, _, hg, _, _ => absurd hg (by simp)
 | a :: L, g, h, hg, h1, h2 => by
  rcases List.mem_cons.1 hg with e | hg
  ·
   subst e
   rw [List.countP_cons_of_neg (by simp [h2]), List.countP_cons_of_pos h1]
   exact Nat.succ_le_succ (List.countP_mono_left fun x hx => h x (List.mem_cons_of_mem _ hx))
  ·
   have ih := countP_lt_of (fun x hx => h x (List.mem_cons_of_mem _ hx)) hg h1 h2
   have ha := h a List.mem_cons_self
   by_cases hp : p a = true
   ·
    rw [List.countP_cons_of_pos hp, List.countP_cons_of_pos (ha hp)]; omega
   ·
    rw [List.countP_cons_of_neg hp]
    by_cases hq : q a = true
    ·
     rw [List.countP_cons_of_pos hq]; omega
    ·
     rw [List.countP_cons_of_neg hq]; exact ih
theorem ld_set (has : List Int) (i : Nat) (x t : Int) (h : i < has.length) : ld (has.set i x) t = ld has t - (if has.getD i 0 = t then 1 else 0) + (if x = t then 1 else 0) := by
 rw [ld_cnt, ld_cnt, List.count_set h]
 have hp : has.getD i 0 = has[i] := by simp [List.getD_eq_getElem?_getD, List.getElem?_eq_getElem h]
 rw [hp]
 by_cases e : has[i] = t
 rotate_left
 ·
  by_cases k : x = t
  ·
   simp [e, k]
  simp [e, k]
 have : 0 < has.count t := List.count_pos_iff.2 (e ▸ List.getElem_mem h)
 by_cases k : x = t
 ·
  simp [e, k]; omega
 simp [e, k]; omega
theorem ld_drop {a b : List Int} {s : Int} {g : Nat} (hl : a.length = b.length) (h : ∀ j, j < b.length → a.getD j 0 = s → b.getD j 0 = s) (hg : g < b.length) (h1 : b.getD g 0 = s) (h2 : a.getD g 0 ≠ s) : ld a s + 1 ≤ ld b s := by
 rw [ld_countP, ld_countP, hl]
 have := countP_lt_of (p := fun j => a.getD j 0 == s) (q := fun j => b.getD j 0 == s) (L := List.range b.length) (g := g) (fun x hx hp => by
  have := h x (List.mem_range.1 hx) (by simpa using hp)
  simpa using this) (List.mem_range.2 hg) (by simpa using h1) (by simpa using h2)
 omega
def zsum (ns : Nat) (Z : Nat → Bool) (g : Nat → Int) : Int := ((List.range ns).map fun s => if Z s = true then g s else 0).sum
theorem sum_map_le {α : Type} {f g : α → Int} : ∀ {L : List α}, (∀ x, x ∈ L → f x ≤ g x) → (L.map f).sum ≤ (L.map g).sum
 | [], _ => Int.le_refl _
 | a :: L, h => by
  simp only [List.map_cons, List.sum_cons]
  have h1 := h a List.mem_cons_self
  have h2 := sum_map_le (L := L) fun x hx => h x (List.mem_cons_of_mem _ hx)
  omega
theorem zsum_le {ns : Nat} {Z Z' : Nat → Bool} {g h : Nat → Int} (hh : ∀ s, s < ns → (if Z s = true then g s else 0) ≤ (if Z' s = true then h s else 0)) : zsum ns Z g ≤ zsum ns Z' h :=
 sum_map_le fun s hs => hh s (List.mem_range.1 hs)
theorem zsum_mono {ns : Nat} {Z : Nat → Bool} {g h : Nat → Int} (hh : ∀ s, s < ns → Z s = true → g s ≤ h s) : zsum ns Z g ≤ zsum ns Z h :=
 zsum_le fun s hs => by
  by_cases hz : Z s = true
  ·
   rw [if_pos hz, if_pos hz]; exact hh s hs hz
  ·
   rw [if_neg hz, if_neg hz]; exact Int.le_refl _
theorem zsum_bump (Z : Nat → Bool) (g : Nat → Int) (x : Nat) : ∀ ns, zsum ns Z (fun s => g s + if s = x then 1 else 0) = zsum ns Z g + if x < ns ∧ Z x = true then 1 else 0
 | 0 => by
  rw [if_neg (fun h => Nat.not_lt_zero _ h.1)]
  rfl
 | n + 1 => by
  have ih := zsum_bump Z g x n
  unfold zsum at ih ⊢
  simp only [List.range_succ, List.map_append, List.sum_append, List.map_cons, List.map_nil, List.sum_cons, List.sum_nil]
  rw [ih]
  have h1 : (if Z n = true then g n + (if n = x then 1 else 0) else 0) = (if Z n = true then g n else 0) + (if n = x ∧ Z n = true then (1 : Int) else 0) := by
   by_cases hn : Z n = true
   ·
    by_cases e : n = x
    ·
     rw [if_pos hn, if_pos hn, if_pos e, if_pos ⟨e, hn⟩]
    ·
     rw [if_pos hn, if_pos hn, if_neg e, if_neg (fun k => e k.1)]
   ·
    rw [if_neg hn, if_neg hn, if_neg (fun k => hn k.2)]; rfl
  have h2 : (if x < n + 1 ∧ Z x = true then (1 : Int) else 0) = (if x < n ∧ Z x = true then 1 else 0) + (if n = x ∧ Z n = true then 1 else 0) := by
   by_cases e : n = x
   ·
    subst e
    rw [if_neg (show ¬ (n < n ∧ Z n = true) from fun k => Nat.lt_irrefl _ k.1)]
    by_cases hz : Z n = true
    ·
     rw [if_pos ⟨by omega, hz⟩, if_pos ⟨rfl, hz⟩]; rfl
    ·
     rw [if_neg (fun k => hz k.2), if_neg (fun k => hz k.2)]; rfl
   ·
    rw [if_neg (show ¬ (n = x ∧ Z n = true) from fun k => e k.1), Int.add_zero]
    by_cases hz : x < n ∧ Z x = true
    ·
     rw [if_pos hz, if_pos ⟨by omega, hz.2⟩]
    ·
     rw [if_neg hz, if_neg (fun k => hz ⟨by omega, k.2⟩)]
  rw [h1, h2]
  omega
theorem zsum_zero (ns : Nat) (Z : Nat → Bool) : zsum ns Z (fun _ => 0) = 0 := by
 unfold zsum
 induction (List.range ns) with
 | nil => rfl
 | cons a l ih => simp only [List.map_cons, List.sum_cons, ih]; split <;> rfl
theorem len_zsum {ns : Nat} {Z : Nat → Bool} : ∀ (xs : List Int), (∀ x, x ∈ xs → 0 ≤ x ∧ x < ns ∧ Z x.toNat = true) → (xs.length : Int) = zsum ns Z (fun s => (xs.count (s : Int) : Nat))
 | [], _ => by simpa using (zsum_zero ns Z).symm
 | x :: xs, h => by
  have ih := len_zsum xs fun y hy => h y (List.mem_cons_of_mem _ hy)
  obtain ⟨h0, h1, h2⟩ := h x List.mem_cons_self
  have e : zsum ns Z (fun s => ((x :: xs).count (s : Int) : Nat)) = zsum ns Z (fun s => (xs.count (s : Int) : Nat) + if s = x.toNat then 1 else 0) := by
   unfold zsum
   congr 1
   refine List.map_congr_left fun s hs => ?_
   have : ((x :: xs).count (s : Int) : Int) = (xs.count (s : Int) : Nat) + if s = x.toNat then 1 else 0 := by
    rw [List.count_cons]
    by_cases k : s = x.toNat
    ·
     rw [if_pos (by rw [beq_iff_eq]; omega), if_pos k]; omega
    ·
     rw [if_neg (by rw [beq_iff_eq]; omega), if_neg k]; omega
   simp only [this]
  rw [e, zsum_bump, if_pos ⟨by omega, h2⟩, ← ih]
  simp
theorem countP_nodup {p : Nat → Bool} : ∀ (fs L : List Nat), fs.Nodup → (∀ x, x ∈ fs → x ∈ L) → fs.countP p ≤ L.countP p
 | [], L, _, _ => by simp
 | f :: fs, L, hn, hs => by
  have hf := hs f List.mem_cons_self
  have hp := (List.perm_cons_erase hf).countP_eq p
  rw [hp]
  obtain ⟨h1, h2⟩ := List.nodup_cons.1 hn
  have ih := countP_nodup (p := p) fs (L.erase f) h2 fun x hx => (List.mem_erase_of_ne (fun e : x = f => h1 (e ▸ hx))).2 (hs x (List.mem_cons_of_mem _ hx))
  simp only [List.countP_cons]
  omega
def FitsOk (fits : List (List Int)) (ns : Nat) : Prop := ∀ f : Nat, f < fits.length → ∀ s, s ∈ fits.getD f [] → 0 ≤ s ∧ s < ns
structure Asg (fits : List (List Int)) (room : List Int) (ns : Nat) (out : Int) (l : List Int) : Prop where
 len : l.length = fits.length
 none : ∀ f : Nat, f < fits.length → fits.getD f [] = [] ∨ (f : Int) = out → l.getD f 0 = -1
 some : ∀ f : Nat, f < fits.length → fits.getD f [] ≠ [] → (f : Int) ≠ out → l.getD f 0 ∈ fits.getD f []
 load : ∀ s : Nat, s < ns → ld l s ≤ room.getD s 0
structure HallV (fits : List (List Int)) (room : List Int) (ns : Nat) (out : Int) (fs : List Int) : Prop where
 asc : fs.Pairwise (· < ·)
 rng : ∀ f, f ∈ fs → 0 ≤ f ∧ f < fits.length
 ne : ∀ f, f ∈ fs → fits.getD f.toNat [] ≠ []
 out : out ∉ fs
 z : ∃ Z : Nat → Bool, (∀ f, f ∈ fs → ∀ s, s ∈ fits.getD f.toNat [] → Z s.toNat = true) ∧ zsum ns Z (fun s => room.getD s 0) < fs.length
theorem asg_no_hall {fits : List (List Int)} {room : List Int} {ns : Nat} {out : Int} {l fs : List Int} (hf : FitsOk fits ns) (ha : Asg fits room ns out l) (hh : HallV fits room ns out fs) : False := by
 obtain ⟨Z, hz, hlt⟩ := hh.z
 have hlen := len_zsum (ns := ns) (Z := Z) (fs.map fun f => l.getD f.toNat 0) (by
  intro x hx
  obtain ⟨f, hm, rfl⟩ := List.mem_map.1 hx
  have hr := hh.rng f hm
  have hi := ha.some f.toNat (by omega) (hh.ne f hm) (fun e => hh.out (by rw [← e, Int.toNat_of_nonneg hr.1]; exact hm))
  have := hf f.toNat (by omega) _ hi
  exact ⟨this.1, this.2, hz f hm _ hi⟩)
 rw [List.length_map] at hlen
 have hle : zsum ns Z (fun s => ((fs.map fun f => l.getD f.toNat 0).count (s : Int) : Nat)) ≤ zsum ns Z (fun s => room.getD s 0) := zsum_mono fun s hs _ => by
  refine Int.le_trans ?_ (ha.load s hs)
  rw [ld_countP]
  have hn : (fs.map Int.toNat).Nodup := by
   rw [List.Nodup, List.pairwise_map]
   exact hh.asc.imp_of_mem fun {a b} h1 h2 h3 => by
    have := (hh.rng a h1).1
    omega
  have := countP_nodup (p := fun j => l.getD j 0 == (s : Int)) (fs.map Int.toNat) (List.range l.length) hn (by
   intro x hx
   obtain ⟨f, hm, rfl⟩ := List.mem_map.1 hx
   have hr := hh.rng f hm
   have := ha.len
   exact List.mem_range.2 (by omega))
  rw [List.countP_map] at this
  rw [List.count, List.countP_map]
  exact Int.ofNat_le.2 this
 omega
end Go.Proofs.Ytkmmihadcbfkoaa
end

section
namespace Go.Proofs.Ytkmmihadcbfkoaa
set_option linter.unusedVariables false
set_option linter.unusedSimpArgs false
structure PV (fits : List (List Int)) (room : List Int) (ns : Nat) (has : List Int) : Prop where
 len : has.length = fits.length
 fit : ∀ f : Nat, f < fits.length → has.getD f 0 = -1 ∨ has.getD f 0 ∈ fits.getD f []
 load : ∀ s : Nat, s < ns → ld has s ≤ room.getD s 0
structure Moved (n : Nat) (seen : List Bool) (has : List Int) (f : Nat) (new : List Int) : Prop where
 oth : ∀ x : Nat, x < n → x ≠ f → new.getD x 0 = has.getD x 0 ∨ (0 ≤ has.getD x 0 ∧ 0 ≤ new.getD x 0 ∧ seen.getD (new.getD x 0).toNat false = false)
 self : 0 ≤ new.getD f 0 ∧ seen.getD (new.getD f 0).toNat false = false
def Sub (a b : List Bool) : Prop := ∀ t : Nat, a.getD t false = true → b.getD t false = true
theorem Sub.refl (a : List Bool) : Sub a a := fun _ h => h
theorem Sub.trans {a b c : List Bool} (h : Sub a b) (k : Sub b c) : Sub a c := fun t ht => k t (h t ht)
theorem Sub.no {a b : List Bool} (h : Sub a b) {t : Nat} (k : b.getD t false = false) : a.getD t false = false := by
 cases e : a.getD t false with
 | false => rfl
 | true => rw [h t e] at k; cases k
theorem sub_set (a : List Bool) (i : Nat) : Sub a (a.set i true) := fun t h => by
 by_cases hi : i < a.length
 ·
  rw [getD_set a i true false t hi]
  split
  ·
   rfl
  ·
   exact h
 ·
  rw [List.set_eq_of_length_le (by omega)]; exact h
def NewFull (fits : List (List Int)) (room : List Int) (ns : Nat) (seen new : List Bool) (has : List Int) (ex : Int) (res : List Bool) : Prop :=
 ∀ t : Nat, new.getD t false = true → seen.getD t false = true ∨ (t < ns ∧ room.getD t 0 ≤ ld has t ∧ ∀ g, g ∈ atOf has t → g ≠ ex → ∀ s, s ∈ fits.getD g.toNat [] → res.getD s.toNat false = true)
theorem NewFull.refl {fits : List (List Int)} {room : List Int} {ns : Nat} {seen : List Bool} {has : List Int} {ex : Int} {res : List Bool} : NewFull fits room ns seen seen has ex res := fun _ h => Or.inl h
theorem NewFull.res {fits : List (List Int)} {room : List Int} {ns : Nat} {seen new : List Bool} {has : List Int} {ex : Int} {res res' : List Bool} (h : NewFull fits room ns seen new has ex res) (k : Sub res res') : NewFull fits room ns seen new has ex res' := fun t ht => (h t ht).imp id fun ⟨a, b, c⟩ => ⟨a, b, fun g hg he s hs => k _ (c g hg he s hs)⟩
theorem NewFull.trans {fits : List (List Int)} {room : List Int} {ns : Nat} {seen mid new : List Bool} {has : List Int} {ex : Int} {res : List Bool} (h : NewFull fits room ns seen mid has ex res) (k : NewFull fits room ns mid new has ex res) : NewFull fits room ns seen new has ex res := fun t ht => (k t ht).elim (fun e => h t e) Or.inr
theorem at_nonneg {has : List Int} {t g : Int} (h : g ∈ atOf has t) : 0 ≤ g := (mem_atOf.1 h).1
theorem NewFull.ex {fits : List (List Int)} {room : List Int} {ns : Nat} {seen new : List Bool} {has : List Int} {ex : Int} {res : List Bool} (h : NewFull fits room ns seen new has (-1) res) : NewFull fits room ns seen new has ex res := fun t ht => (h t ht).imp id fun ⟨a, b, c⟩ => ⟨a, b, fun g hg _ => c g hg (by have := at_nonneg hg; omega)⟩
structure Good (fits : List (List Int)) (room : List Int) (ns m : Nat) (f : Int) (seen : List Bool) (has : List Int) (r : SR) : Prop where
 fail : r.ok = false → r.has = has
 sub : Sub seen r.seen
 win : r.ok = true → PV fits room ns has → PV fits room ns r.has ∧ Moved fits.length seen has f.toNat r.has
 shut : r.ok = false → cnt seen < m → (∀ s, s ∈ fits.getD f.toNat [] → r.seen.getD s.toNat false = true) ∧ NewFull fits room ns seen r.seen has (-1) r.seen
structure GoodG (fits : List (List Int)) (room : List Int) (ns m : Nat) (f : Int) (gs : List Int) (seen : List Bool) (has : List Int) (r : SR) : Prop where
 fail : r.ok = false → r.has = has
 sub : Sub seen r.seen
 win : r.ok = true → PV fits room ns has → ∃ g, g ∈ gs ∧ g ≠ f ∧ ∃ seen1, Sub seen seen1 ∧ PV fits room ns r.has ∧ Moved fits.length seen1 has g.toNat r.has
 shut : r.ok = false → cnt seen < m → (∀ g, g ∈ gs → g ≠ f → ∀ s, s ∈ fits.getD g.toNat [] → r.seen.getD s.toNat false = true) ∧ NewFull fits room ns seen r.seen has (-1) r.seen
structure GoodS (fits : List (List Int)) (room : List Int) (ns m : Nat) (f : Int) (ss : List Int) (seen : List Bool) (has : List Int) (r : SR) : Prop where
 fail : r.ok = false → r.has = has
 sub : Sub seen r.seen
 win : r.ok = true → PV fits room ns has → PV fits room ns r.has ∧ Moved fits.length seen has f.toNat r.has
 shut : r.ok = false → cnt seen < m → (∀ s, s ∈ ss → r.seen.getD s.toNat false = true) ∧ NewFull fits room ns seen r.seen has f r.seen
theorem seekG_good {fits : List (List Int)} {room : List Int} {ns m : Nat} (hr : ∀ (g : Int) seen has, 0 ≤ g → g < fits.length → seen.length = ns → has.length = fits.length → Good fits room ns m g seen has (seekF fits room m g seen has)) (f : Int) :
  ∀ (gs : List Int) seen has, (∀ g, g ∈ gs → 0 ≤ g ∧ g < fits.length) → seen.length = ns → has.length = fits.length → GoodG fits room ns m f gs seen has (seekG (seekF fits room m) f gs seen has)
 | [], seen, has, _, _, _ => ⟨fun _ => rfl, Sub.refl _, fun h => by simp [seekG] at h, fun _ _ => ⟨fun g hg => by simp at hg, NewFull.refl⟩⟩
 | g :: gs, seen, has, hg, hs, hl => by
  have hg0 := hg g List.mem_cons_self
  have hgs : ∀ x, x ∈ gs → 0 ≤ x ∧ x < fits.length := fun x hx => hg x (List.mem_cons_of_mem _ hx)
  unfold seekG
  by_cases e : g = f
  ·
   rw [if_pos e]
   have ih := seekG_good hr f gs seen has hgs hs hl
   refine ⟨ih.fail, ih.sub, fun h k => ?_, fun h k => ?_⟩
   ·
    obtain ⟨x, hx, r⟩ := ih.win h k
    exact ⟨x, List.mem_cons_of_mem _ hx, r⟩
   ·
    obtain ⟨h1, h2⟩ := ih.shut h k
    refine ⟨fun x hx hne => ?_, h2⟩
    rcases List.mem_cons.1 hx with e2 | hx
    ·
     exact absurd (e2.trans e) hne
    ·
     exact h1 x hx hne
  ·
   rw [if_neg e]
   have hG := hr g seen has hg0.1 hg0.2 hs hl
   have hO := seekF_ok fits room m g seen has
   obtain ⟨r, hre⟩ : ∃ r, seekF fits room m g seen has = r := ⟨_, rfl⟩
   rw [hre] at hG hO ⊢
   by_cases hok : r.ok = true
   ·
    rw [if_pos hok]
    refine ⟨fun h => (by rw [hok] at h; cases h), hG.sub, fun h k => ⟨g, List.mem_cons_self, e, seen, Sub.refl _, hG.win hok k⟩, fun h => (by rw [hok] at h; cases h)⟩
   ·
    rw [if_neg hok]
    have hok' : r.ok = false := by simpa using hok
    have hh := hG.fail hok'
    have ih := seekG_good hr f gs r.seen r.has hgs (hO.1.trans hs) (hO.2.1.trans hl)
    rw [hh] at ih ⊢
    refine ⟨ih.fail, hG.sub.trans ih.sub, fun h k => ?_, fun h k => ?_⟩
    ·
     obtain ⟨x, hx, hne, s1, h1, h2⟩ := ih.win h k
     exact ⟨x, List.mem_cons_of_mem _ hx, hne, s1, hG.sub.trans h1, h2⟩
    ·
     obtain ⟨a1, a2⟩ := hG.shut hok' k
     obtain ⟨h1, h2⟩ := ih.shut h (Nat.lt_of_le_of_lt hO.2.2 k)
     refine ⟨fun x hx hne => ?_, (a2.res ih.sub).trans h2⟩
     rcases List.mem_cons.1 hx with e2 | hx
     ·
      exact fun s hs => ih.sub _ (a1 s (e2 ▸ hs))
     ·
      exact h1 x hx hne
theorem pv_put {fits : List (List Int)} {room : List Int} {ns : Nat} {has : List Int} {f : Nat} {s : Int} (hv : PV fits room ns has) (hf : f < fits.length) (hs : s ∈ fits.getD f []) (hl : ∀ t : Nat, t < ns → (t : Int) = s → ld has t < room.getD t 0) : PV fits room ns (has.set f s) := by
 have hfl : f < has.length := by rw [hv.len]; exact hf
 refine ⟨by rw [List.length_set]; exact hv.len, fun x hx => ?_, fun t ht => ?_⟩
 ·
  rw [getD_set has f s 0 x hfl]
  by_cases e : x = f
  rotate_left
  ·
   rw [if_neg e]; exact hv.fit x hx
  rw [if_pos e, e]; exact Or.inr hs
 rw [ld_set has f s t hfl]
 have h0 := hv.load t ht
 by_cases e : s = (t : Int)
 rotate_left
 ·
  rw [if_neg e]
  split <;> omega
 have := hl t ht e.symm
 rw [if_pos e]
 split <;> omega
theorem moved_put {n : Nat} {seen : List Bool} {has : List Int} {f : Nat} {s : Int} (hl : has.length = n) (hf : f < n) (hs : 0 ≤ s) (hu : seen.getD s.toNat false = false) : Moved n seen has f (has.set f s) := by
 have hfl : f < has.length := by omega
 refine ⟨fun x hx hne => Or.inl ?_, ?_⟩
 ·
  rw [getD_set has f s 0 x hfl, if_neg hne]
 rw [getD_set has f s 0 f hfl, if_pos rfl]
 exact ⟨hs, hu⟩
theorem seekS_good {fits : List (List Int)} {room : List Int} {ns m : Nat} (hf : FitsOk fits ns) (hr : ∀ (g : Int) seen has, 0 ≤ g → g < fits.length → seen.length = ns → has.length = fits.length → Good fits room ns m g seen has (seekF fits room m g seen has)) (f : Int) (hf0 : 0 ≤ f) (hf1 : f < fits.length) :
  ∀ ss seen has, (∀ s, s ∈ ss → s ∈ fits.getD f.toNat []) → seen.length = ns → has.length = fits.length → GoodS fits room ns (m + 1) f ss seen has (seekS (seekF fits room m) room f ss seen has)
 | [], seen, has, _, _, _ => ⟨fun _ => rfl, Sub.refl _, fun h => by simp [seekS] at h, fun _ _ => ⟨fun g hg => by simp at hg, NewFull.refl⟩⟩
 | s :: ss, seen, has, hss, hs, hl => by
  have hin := hss s List.mem_cons_self
  have hss' : ∀ x, x ∈ ss → x ∈ fits.getD f.toNat [] := fun x hx => hss x (List.mem_cons_of_mem _ hx)
  obtain ⟨hs0, hs1⟩ := hf f.toNat (by omega) s hin
  unfold seekS
  by_cases hseen : seen.getD s.toNat false = true
  ·
   rw [if_pos hseen]
   have ih := seekS_good hf hr f hf0 hf1 ss seen has hss' hs hl
   refine ⟨ih.fail, ih.sub, ih.win, fun h k => ?_⟩
   obtain ⟨h1, h2⟩ := ih.shut h k
   refine ⟨fun x hx => ?_, h2⟩
   rcases List.mem_cons.1 hx with e2 | hx
   ·
    rw [e2]; exact ih.sub _ hseen
   ·
    exact h1 x hx
  ·
   rw [if_neg hseen]
   have hun : seen.getD s.toNat false = false := by simpa using hseen
   have hsl : s.toNat < seen.length := by omega
   by_cases hroom : ld has s < room.getD s.toNat 0
   ·
    rw [if_pos hroom]
    refine ⟨fun h => (by cases h), sub_set _ _, fun _ hv => ⟨pv_put hv (by omega) hin fun t ht e => ?_, moved_put hl (by omega) hs0 hun⟩, fun h => (by cases h)⟩
    subst e
    simpa using hroom
   ·
    rw [if_neg hroom]
    have hsee1 : (seen.set s.toNat true).getD s.toNat false = true := by rw [getD_set seen s.toNat true false s.toNat hsl, if_pos rfl]
    have hcn := cnt_set hsl hun
    have hgs : ∀ g, g ∈ atOf has s → 0 ≤ g ∧ g < fits.length := fun g hg => by
     obtain ⟨a, b, _⟩ := mem_atOf.1 hg
     exact ⟨a, by omega⟩
    have hG := seekG_good hr f (atOf has s) (seen.set s.toNat true) has hgs (by simpa using hs) hl
    have hO := seekG_ok (seekF_ok fits room m) f (atOf has s) (seen.set s.toNat true) has
    obtain ⟨r, hre⟩ : ∃ r, seekG (seekF fits room m) f (atOf has s) (seen.set s.toNat true) has = r := ⟨_, rfl⟩
    rw [hre] at hG hO ⊢
    have hsub : Sub seen r.seen := (sub_set _ _).trans hG.sub
    by_cases hok : r.ok = true
    ·
     rw [if_pos hok]
     refine ⟨fun h => (by cases h), hsub, fun _ hv => ?_, fun h => (by cases h)⟩
     obtain ⟨g, hg, hne, seen1, hs1', hv1, hm⟩ := hG.win hok hv
     obtain ⟨hg0, hg1, hg2⟩ := mem_atOf.1 hg
     rw [← List.getD_eq_getElem?_getD] at hg2
     have hrl : r.has.length = has.length := hO.2.1
     have hss1 : seen1.getD s.toNat false = true := hs1' _ hsee1
     have hdrop : ld r.has s + 1 ≤ ld has s := ld_drop (g := g.toNat) hrl (fun j hj hjs => by
      by_cases e : j = g.toNat
      ·
       rw [e]; exact hg2
      ·
       rcases hm.oth j (by omega) e with k | ⟨_, _, k⟩
       ·
        rw [← k]; exact hjs
       ·
        rw [hjs, hss1] at k; cases k) (by omega) hg2 (fun e => by
        have := hm.self.2
        rw [e, hss1] at this; cases this)
     have hld := hv.load s.toNat (by omega)
     rw [Int.toNat_of_nonneg hs0] at hld
     refine ⟨pv_put hv1 (by omega) hin fun t ht e => ?_, ?_⟩
     ·
      subst e
      rw [Int.toNat_natCast] at hld
      omega
     ·
      have hfl : f.toNat < r.has.length := by omega
      refine ⟨fun x hx hne2 => ?_, ?_⟩
      ·
       rw [getD_set r.has f.toNat s 0 x hfl, if_neg hne2]
       by_cases e : x = g.toNat
       ·
        subst e
        refine Or.inr ⟨by rw [hg2]; exact hs0, hm.self.1, ((sub_set seen s.toNat).trans hs1').no hm.self.2⟩
       ·
        exact (hm.oth x hx e).imp id fun ⟨a, b, c⟩ => ⟨a, b, ((sub_set seen s.toNat).trans hs1').no c⟩
      ·
       rw [getD_set r.has f.toNat s 0 f.toNat hfl, if_pos rfl]
       exact ⟨hs0, hun⟩
    ·
     rw [if_neg hok]
     have hok' : r.ok = false := by simpa using hok
     have hh := hG.fail hok'
     have ih := seekS_good hf hr f hf0 hf1 ss r.seen r.has hss' (hO.1.trans (by simpa using hs)) (hO.2.1.trans hl)
     rw [hh] at ih ⊢
     refine ⟨ih.fail, hsub.trans ih.sub, fun h k => ?_, fun h k => ?_⟩
     ·
      obtain ⟨h1, h2⟩ := ih.win h k
      exact ⟨h1, ⟨fun x hx hne => (h2.oth x hx hne).imp id fun ⟨a, b, c⟩ => ⟨a, b, hsub.no c⟩, h2.self.1, hsub.no h2.self.2⟩⟩
     ·
      have hc2 : cnt r.seen ≤ cnt (seen.set s.toNat true) := hO.2.2
      obtain ⟨a1, a2⟩ := hG.shut hok' (by omega)
      obtain ⟨h1, h2⟩ := ih.shut h (by omega)
      refine ⟨fun x hx => ?_, ?_⟩
      ·
       rcases List.mem_cons.1 hx with e2 | hx
       ·
        rw [e2]; exact ih.sub _ (hG.sub _ hsee1)
       ·
        exact h1 x hx
      ·
       refine NewFull.trans (mid := seen.set s.toNat true) (fun t ht => ?_) (NewFull.trans (NewFull.ex (a2.res ih.sub)) h2)
       rw [getD_set seen s.toNat true false t hsl] at ht
       by_cases e : t = s.toNat
       ·
        refine Or.inr ⟨by omega, by rw [e, Int.toNat_of_nonneg hs0]; omega, fun g hg hne x hx => ih.sub _ (a1 g ?_ hne x hx)⟩
        rw [e, Int.toNat_of_nonneg hs0] at hg
        exact hg
       ·
        rw [if_neg e] at ht
        exact Or.inl ht
theorem seek_good {fits : List (List Int)} {room : List Int} {ns : Nat} (hf : FitsOk fits ns) : ∀ m (f : Int) seen has, 0 ≤ f → f < fits.length → seen.length = ns → has.length = fits.length → Good fits room ns m f seen has (seekF fits room m f seen has)
 | 0, f, seen, has, _, _, _, _ => ⟨fun _ => rfl, Sub.refl _, fun h => by simp [seekF] at h, fun _ h => absurd h (Nat.not_lt_zero _)⟩
 | m + 1, f, seen, has, h0, h1, hs, hl => by
  have hS := seekS_good (room := room) hf (fun g s h a b c d => seek_good hf m g s h a b c d) f h0 h1 (fits.getD f.toNat []) seen has (fun _ h => h) hs hl
  unfold seekF
  refine ⟨hS.fail, hS.sub, hS.win, fun h k => ?_⟩
  obtain ⟨a, b⟩ := hS.shut h k
  refine ⟨a, fun t ht => (b t ht).imp id fun ⟨x, y, z⟩ => ⟨x, y, fun g hg _ s hs => ?_⟩⟩
  by_cases e : g = f
  ·
   exact a s (e ▸ hs)
  ·
   exact z g hg e s hs
end Go.Proofs.Ytkmmihadcbfkoaa
end

section
namespace Go.Proofs.Ytkmmihadcbfkoaa
set_option linter.unusedVariables false
set_option linter.unusedSimpArgs false
theorem atOf_nodup (has : List Int) (t : Int) : (atOf has t).Nodup := by
 unfold atOf atTo
 rw [List.Nodup, List.pairwise_map]
 exact (List.nodup_range.filter _).imp fun {a b} h e => h (Int.ofNat.inj e)
theorem mem_hallTo {find : Int} {seen : List Bool} {has : List Int} {k : Nat} {g : Int} : g ∈ hallTo find seen has k ↔ g = find ∨ ∃ t : Nat, t < k ∧ seen.getD t false = true ∧ g ∈ atOf has (t : Int) := by
 simp only [hallTo, List.mem_cons, List.mem_flatMap, List.mem_filter, List.mem_range]
 constructor
 ·
  rintro (h | ⟨t, ⟨a, b⟩, c⟩)
  ·
   exact Or.inl h
  exact Or.inr ⟨t, a, b, c⟩
 rintro (h | ⟨t, a, b, c⟩)
 ·
  exact Or.inl h
 exact Or.inr ⟨t, ⟨a, b⟩, c⟩
theorem hallTo_nodup {find : Nat} {seen : List Bool} {has : List Int} (h : has.getD find 0 = -1) : ∀ k, (hallTo (find : Int) seen has k).Nodup
 | 0 => by simp [hallTo]
 | k + 1 => by
  have ih := hallTo_nodup (seen := seen) h k
  cases hs : seen.getD k false with
  | false => rw [hallTo_no hs]; exact ih
  | true =>
   rw [hallTo_yes hs, List.nodup_append]
   refine ⟨ih, atOf_nodup _ _, fun a ha b hb e => ?_⟩
   subst e
   obtain ⟨_, _, h2⟩ := mem_atOf.1 hb
   rw [← List.getD_eq_getElem?_getD] at h2
   rcases mem_hallTo.1 ha with e | ⟨t, ht, _, hm⟩
   ·
    rw [e, Int.toNat_natCast, h] at h2
    omega
   ·
    obtain ⟨_, _, h3⟩ := mem_atOf.1 hm
    rw [← List.getD_eq_getElem?_getD, h2] at h3
    omega
theorem hallTo_len (find : Int) (seen : List Bool) (has : List Int) : ∀ k, ((hallTo find seen has k).length : Int) = 1 + zsum k (fun t => seen.getD t false) (fun t => ld has t)
 | 0 => rfl
 | k + 1 => by
  have ih := hallTo_len find seen has k
  unfold zsum at ih ⊢
  simp only [List.range_succ, List.map_append, List.sum_append, List.map_cons, List.map_nil, List.sum_cons, List.sum_nil]
  cases hs : seen.getD k false with
  | false =>
   rw [hallTo_no hs, ih]
   simp
  | true =>
   rw [hallTo_yes hs, List.length_append, Int.natCast_add, ih]
   simp [ld]
   omega
theorem compact_asc {zs : List Int} (h : zs.Pairwise (· < ·)) : Lib.compact zs = zs := by
 refine Lib.compact_all zs fun j hj => ?_
 by_cases h0 : j = 0
 ·
  simp [Lib.keeps, h0]
 have : zs[j - 1] < zs[j] := List.pairwise_iff_getElem.1 h (j - 1) j (by omega) hj (by omega)
 refine Lib.keeps_pos ?_
 rw [List.getElem!_toArray, List.getElem!_toArray, getElem!_pos zs j hj, getElem!_pos zs (j - 1) (by omega)]
 omega
theorem sorted_asc {L : List Int} (h : L.Nodup) : (L.mergeSort fun x y => decide (x ≤ y)).Pairwise (· < ·) := by
 have hs := List.pairwise_mergeSort (le := fun x y : Int => decide (x ≤ y)) (fun a b c h1 h2 => by simp only [decide_eq_true_eq] at h1 h2 ⊢; omega) (fun a b => by simp only [Bool.or_eq_true, decide_eq_true_eq]; omega) L
 have hn : (L.mergeSort fun x y => decide (x ≤ y)).Nodup := (List.mergeSort_perm L _).nodup_iff.2 h
 have := hs.and hn
 exact this.imp fun {a b} k => by
  have h1 : a ≤ b := by simpa using k.1
  have h2 : a ≠ b := k.2
  omega
theorem giveH_is {fits : List (List Int)} {room : List Int} {ns : Nat} {f : Nat} {has : List Int} (hok : (giveR fits room ns f has).ok = false) (hh : (giveR fits room ns f has).has = has) (h : has.getD f 0 = -1) :
  giveH fits room ns f has = (hallTo f (giveR fits room ns f has).seen has ns).mergeSort fun x y => decide (x ≤ y) := by
 unfold giveH
 rw [if_neg (by rw [hok]; simp), hh]
 exact compact_asc (sorted_asc (hallTo_nodup h ns))
theorem give_good {fits : List (List Int)} {room : List Int} {ns : Nat} (hf : FitsOk fits ns) {f : Nat} (h1 : f < fits.length) {has : List Int} (hl : has.length = fits.length) :
  Good fits room ns (ns + 1) f (List.replicate ns false) has (giveR fits room ns f has) :=
 seek_good hf (ns + 1) f _ has (by omega) (by omega) (by simp) hl
theorem getD_false (ns t : Nat) : (List.replicate ns false).getD t false = false := by
 simp only [List.getD_eq_getElem?_getD, List.getElem?_replicate]
 split <;> rfl
theorem give_hall {fits : List (List Int)} {room : List Int} {ns : Nat} (hf : FitsOk fits ns) {f : Nat} (h1 : f < fits.length) {has : List Int} (hv : PV fits room ns has) (h : has.getD f 0 = -1) (hne : fits.getD f [] ≠ []) {out : Int} (ho : out ≠ f) (hout : ∀ o : Nat, (o : Int) = out → o < fits.length → has.getD o 0 = -1) (hok : (giveR fits room ns f has).ok = false) :
  HallV fits room ns out (giveH fits room ns f has) := by
 have hG := give_good (room := room) hf h1 hv.len
 have hh := hG.fail hok
 obtain ⟨c1, c2⟩ := hG.shut hok (by simp [cnt])
 rw [giveH_is hok hh h]
 obtain ⟨r, hr⟩ : ∃ r, giveR fits room ns f has = r := ⟨_, rfl⟩
 rw [hr] at c1 c2 ⊢
 rw [Int.toNat_natCast] at c1
 have hperm := List.mergeSort_perm (hallTo f r.seen has ns) (fun x y => decide (x ≤ y))
 have hseen : ∀ t : Nat, r.seen.getD t false = true → t < ns ∧ room.getD t 0 ≤ ld has t ∧ ∀ g, g ∈ atOf has t → ∀ s, s ∈ fits.getD g.toNat [] → r.seen.getD s.toNat false = true := fun t ht => by
  rcases c2 t ht with e | ⟨a, b, c⟩
  ·
   rw [getD_false] at e; cases e
  ·
   exact ⟨a, b, fun g hg s hs => c g hg (by have := at_nonneg hg; omega) s hs⟩
 have hat : ∀ (t : Nat) (g : Int), g ∈ atOf has (t : Int) → 0 ≤ g ∧ g < fits.length ∧ has.getD g.toNat 0 = (t : Int) := fun t g hg => by
  obtain ⟨a, b, c⟩ := mem_atOf.1 hg
  rw [hv.len] at b
  exact ⟨a, b, by rw [List.getD_eq_getElem?_getD]; exact c⟩
 refine ⟨sorted_asc (hallTo_nodup h ns), fun g hg => ?_, fun g hg => ?_, fun hg => ?_, fun t => r.seen.getD t false, fun g hg s hs => ?_, ?_⟩
 ·
  rcases mem_hallTo.1 (hperm.mem_iff.1 hg) with e | ⟨t, _, _, hm⟩
  ·
   omega
  exact ⟨(hat t g hm).1, (hat t g hm).2.1⟩
 ·
  rcases mem_hallTo.1 (hperm.mem_iff.1 hg) with e | ⟨t, _, _, hm⟩
  ·
   rw [e, Int.toNat_natCast]; exact hne
  obtain ⟨a, b, c⟩ := hat t g hm
  intro e
  rcases hv.fit g.toNat (by omega) with k | k
  ·
   omega
  rw [e] at k; simp at k
 ·
  rcases mem_hallTo.1 (hperm.mem_iff.1 hg) with e | ⟨t, _, _, hm⟩
  ·
   exact ho e
  obtain ⟨a, b, c⟩ := hat t out hm
  have := hout out.toNat (by omega) (by omega)
  omega
 ·
  rcases mem_hallTo.1 (hperm.mem_iff.1 hg) with e | ⟨t, _, ht, hm⟩
  ·
   rw [e, Int.toNat_natCast] at hs
   exact c1 s hs
  exact (hseen t ht).2.2 g hm s hs
 rw [hperm.length_eq, hallTo_len]
 have : zsum ns (fun t => r.seen.getD t false) (fun s => room.getD s 0) ≤ zsum ns (fun t => r.seen.getD t false) (fun t => ld has t) := zsum_mono fun s _ hs => (hseen s hs).2.1
 omega
structure FillOk (fits : List (List Int)) (room : List Int) (ns : Nat) (out : Int) (fs : List Nat) (has : List Int) (r : FR) : Prop where
 pv : PV fits room ns r.has
 left : ∀ o : Nat, (o : Int) = out → o < fits.length → r.has.getD o 0 = -1
 keep : ∀ x : Nat, x < fits.length → 0 ≤ has.getD x 0 → 0 ≤ r.has.getD x 0
 done : ∀ f, f ∈ fs → fits.getD f [] ≠ [] → (f : Int) ≠ out → 0 ≤ r.has.getD f 0
 hall : r.hall = []
theorem fillL_spec {fits : List (List Int)} {room : List Int} {ns : Nat} (hf : FitsOk fits ns) (out : Int) : ∀ fs has, PV fits room ns has → (∀ o : Nat, (o : Int) = out → o < fits.length → has.getD o 0 = -1) → (∀ f, f ∈ fs → f < fits.length) →
  ((fillL fits room ns out fs has).ok = true → FillOk fits room ns out fs has (fillL fits room ns out fs has)) ∧ ((fillL fits room ns out fs has).ok = false → HallV fits room ns out (fillL fits room ns out fs has).hall)
 | [], has, hv, ho, _ => ⟨fun _ => ⟨hv, ho, fun _ _ h => h, fun f hf => by simp at hf, rfl⟩, fun h => by simp [fillL] at h⟩
 | f :: fs, has, hv, ho, hfs => by
  have h1 := hfs f List.mem_cons_self
  have hfs' : ∀ x, x ∈ fs → x < fits.length := fun x hx => hfs x (List.mem_cons_of_mem _ hx)
  unfold fillL
  by_cases hc : (fits.getD f []).length = 0 ∨ (f : Int) = out ∨ 0 ≤ has.getD f 0
  ·
   rw [if_pos hc]
   obtain ⟨a, b⟩ := fillL_spec hf out fs has hv ho hfs'
   refine ⟨fun h => ?_, b⟩
   obtain ⟨a1, a2, a3, a4, a5⟩ := a h
   refine ⟨a1, a2, a3, fun x hx hne hxo => ?_, a5⟩
   rcases List.mem_cons.1 hx with e | hx
   ·
    subst e
    rcases hc with k | k | k
    ·
     exact absurd (List.length_eq_zero_iff.1 k) hne
    ·
     exact absurd k hxo
    ·
     exact a3 x h1 k
   ·
    exact a4 x hx hne hxo
  ·
   rw [if_neg hc]
   have c1 : fits.getD f [] ≠ [] := fun e => hc (Or.inl (by rw [e]; rfl))
   have c2 : (f : Int) ≠ out := fun e => hc (Or.inr (Or.inl e))
   have c3 : has.getD f 0 = -1 := by
    rcases hv.fit f h1 with k | k
    ·
     exact k
    ·
     exact absurd (Or.inr (Or.inr (hf f h1 _ k).1)) hc
   have hG := give_good (room := room) hf h1 hv.len
   have hH := give_hall hf h1 hv c3 c1 (fun e => c2 e.symm) ho
   obtain ⟨r, hr⟩ : ∃ r, giveR fits room ns f has = r := ⟨_, rfl⟩
   rw [hr] at hG hH ⊢
   by_cases hok : r.ok = true
   ·
    rw [if_pos hok]
    obtain ⟨w1, w2⟩ := hG.win hok hv
    rw [Int.toNat_natCast] at w2
    have ho' : ∀ o : Nat, (o : Int) = out → o < fits.length → r.has.getD o 0 = -1 := fun o h hl => by
     have hof : o ≠ f := fun e => c2 (by rw [← e]; exact h)
     have hm := ho o h hl
     rcases w2.oth o hl hof with k | ⟨k, _⟩
     ·
      rw [k]; exact hm
     ·
      omega
    obtain ⟨a, b⟩ := fillL_spec hf out fs r.has w1 ho' hfs'
    have hkeep : ∀ x : Nat, x < fits.length → 0 ≤ has.getD x 0 → 0 ≤ r.has.getD x 0 := fun x hx hp => by
     by_cases e : x = f
     ·
      subst e; omega
     ·
      rcases w2.oth x hx e with k | ⟨_, k, _⟩
      ·
       rw [k]; exact hp
      ·
       exact k
    refine ⟨fun h => ?_, b⟩
    obtain ⟨a1, a2, a3, a4, a5⟩ := a h
    refine ⟨a1, a2, fun x hx hp => a3 x hx (hkeep x hx hp), fun x hx hne hxo => ?_, a5⟩
    rcases List.mem_cons.1 hx with e | hx
    ·
     subst e; exact a3 x h1 w2.self.1
    ·
     exact a4 x hx hne hxo
   ·
    rw [if_neg hok]
    exact ⟨fun h => (by cases h), fun _ => hH (by simpa using hok)⟩
theorem pv_none {fits : List (List Int)} {room : List Int} {ns : Nat} (hr : ∀ s : Nat, s < ns → 0 ≤ room.getD s 0) : PV fits room ns (List.replicate fits.length (-1)) := by
 refine ⟨by simp, fun f hf => Or.inl ?_, fun s hs => ?_⟩
 ·
  simp [List.getD_eq_getElem?_getD, List.getElem?_replicate, hf]
 have := hr s hs
 rw [ld_cnt, List.count_replicate]
 have e : ((-1 : Int) == (s : Int)) = false := by
  rw [beq_eq_false_iff_ne]
  omega
 rw [e]
 simpa using this
theorem asg_of_pv {fits : List (List Int)} {room : List Int} {ns : Nat} {out : Int} {l : List Int} (hv : PV fits room ns l) (ho : ∀ o : Nat, (o : Int) = out → o < fits.length → l.getD o 0 = -1) (hd : ∀ f : Nat, f < fits.length → fits.getD f [] ≠ [] → (f : Int) ≠ out → 0 ≤ l.getD f 0) : Asg fits room ns out l := by
 refine ⟨hv.len, fun f hf h => ?_, fun f hf h1 h2 => ?_, hv.load⟩
 ·
  rcases h with h | h
  ·
   rcases hv.fit f hf with k | k
   ·
    exact k
   rw [h] at k; simp at k
  exact ho f h hf
 rcases hv.fit f hf with k | k
 ·
  have := hd f hf h1 h2; omega
 exact k
theorem pv_of_asg {fits : List (List Int)} {room : List Int} {ns : Nat} {out : Int} {l : List Int} (ha : Asg fits room ns out l) : PV fits room ns l := by
 refine ⟨ha.len, fun f hf => ?_, ha.load⟩
 by_cases h : fits.getD f [] = [] ∨ (f : Int) = out
 ·
  exact Or.inl (ha.none f hf h)
 exact Or.inr (ha.some f hf (fun e => h (Or.inl e)) (fun e => h (Or.inr e)))
theorem fill_yes {fits : List (List Int)} {room : List Int} {ns : Nat} {out : Int} (hf : FitsOk fits ns) (hr : ∀ s : Nat, s < ns → 0 ≤ room.getD s 0) (hok : (fillF fits room ns out (List.replicate fits.length (-1))).ok = true) :
  Asg fits room ns out (fillF fits room ns out (List.replicate fits.length (-1))).has ∧ (fillF fits room ns out (List.replicate fits.length (-1))).hall = [] := by
 obtain ⟨a1, a2, a3, a4, a5⟩ := (fillL_spec hf out (List.range fits.length) _ (pv_none hr) (fun o _ h => by simp [List.getD_eq_getElem?_getD, List.getElem?_replicate, h]) (fun f hf => List.mem_range.1 hf)).1 hok
 exact ⟨asg_of_pv a1 a2 fun f hf => a4 f (List.mem_range.2 hf), a5⟩
theorem fill_no {fits : List (List Int)} {room : List Int} {ns : Nat} {out : Int} (hf : FitsOk fits ns) (hr : ∀ s : Nat, s < ns → 0 ≤ room.getD s 0) (hok : (fillF fits room ns out (List.replicate fits.length (-1))).ok = false) :
  HallV fits room ns out (fillF fits room ns out (List.replicate fits.length (-1))).hall :=
 (fillL_spec hf out (List.range fits.length) _ (pv_none hr) (fun o _ h => by simp [List.getD_eq_getElem?_getD, List.getElem?_replicate, h]) (fun f hf => List.mem_range.1 hf)).2 hok
theorem fill_iff {fits : List (List Int)} {room : List Int} {ns : Nat} {out : Int} (hf : FitsOk fits ns) (hr : ∀ s : Nat, s < ns → 0 ≤ room.getD s 0) : (fillF fits room ns out (List.replicate fits.length (-1))).ok = true ↔ ∃ l, Asg fits room ns out l := by
 constructor
 ·
  intro h
  exact ⟨_, (fill_yes hf hr h).1⟩
 rintro ⟨l, hl⟩
 cases hok : (fillF fits room ns out (List.replicate fits.length (-1))).ok with
 | true => rfl
 | false => exact (asg_no_hall hf hl (fill_no hf hr hok)).elim
end Go.Proofs.Ytkmmihadcbfkoaa
end

section
namespace Go.Proofs.Ytkmmihadcbfkoaa
open Go.RowKit Go.Shelf
attribute [local go_sem] Oper.semAt_some
set_option linter.unusedVariables false
set_option linter.unusedSimpArgs false
def Kp2 (n₀ Bs : Nat) (W W' : World) : Prop := Below n₀ W W' ∧ W'.heap[Bs]? = W.heap[Bs]?
theorem Kp2.refl (n₀ Bs : Nat) (W : World) : Kp2 n₀ Bs W W := ⟨Below.refl _ _, rfl⟩
theorem Kp2.trans {n₀ Bs : Nat} {A B C : World} (h : Kp2 n₀ Bs A B) (k : Kp2 n₀ Bs B C) : Kp2 n₀ Bs A C := ⟨h.1.trans k.1, k.2.trans h.2⟩
theorem Kp2.cell {n₀ Bs : Nat} {W W' : World} (h : Kp2 n₀ Bs W W') (o : Nat) : W'.cell? ⟨Bs, o, none⟩ = W.cell? ⟨Bs, o, none⟩ := World.cell?_of_block (w := W) h.2
theorem Kp2.put {n₀ Bs m : Nat} (hn : n₀ ≤ m) (hB : Bs < m) (W : World) (l : Nat) (o o' : Obj) (hl : m ≤ l) (h : W.heap[l]? = some o) (_ : o.isCells = false) (_ : o.isWalk = false) : Kp2 n₀ Bs W (W.putObj l o') :=
 ⟨(Below.refl n₀ W).grown (grownBy_putObj' W l o') (by have := (Array.getElem?_eq_some_iff.1 h).1; omega) (fun k e => by cases e; omega), World.putObj_heap_other (by omega)⟩
theorem Kp2.setCell {n₀ Bs b : Nat} (W : World) (o : Nat) (v : Value) (hb : n₀ ≤ b) (hne : Bs ≠ b) : Kp2 n₀ Bs W (W.setCell ⟨b, o, none⟩ v) :=
 ⟨(Below.refl n₀ W).setCell (p := ⟨b, o, none⟩) hb v, Below.heap_setCell _ _ _ _ hne⟩
set_option maxRecDepth 100000 in
set_option maxHeartbeats 2000000 in
theorem at1_in (n : Nat) (hn : 1 ≤ n) (l Bt Bs g n₀ : Nat) (ad : Option Addr) (len cap : Nat) (s : Int) (zs : List Int) (hlen : zs.length = len) (hreach : len ≤ 9223372036854775807) (J Jx : List Int → World → Prop)
  (hY : ∀ pre x W, J pre W → pre.length < len → YieldAt Fence.wide (n - 1) Try.prog l #[.int .i64 x] W fun e W' =>
   (e = .returned (.bool true) ∧ J (pre ++ [x]) W' ∧ Kp2 n₀ Bs W W') ∨ (e = .returned (.bool false) ∧ Jx (pre ++ [x]) W'))
  (W : World) (hBt : W.cell? ⟨Bt, 0, none⟩ = some (.pointer (some ⟨g, 0, none⟩))) (hBs : W.cell? ⟨Bs, 0, none⟩ = some (.int .i64 s)) (hg : W.cell? ⟨g, 4, none⟩ = some (.slice ad len cap))
  (hc : ∀ j, j < len → ∃ a, ad = some a ∧ a.block < n₀ ∧ W.cell? (a.add j) = some (.int .i64 (zs[j]?.getD 0))) (h0 : J [] W) :
  CallsIn Fence.wide n Try.prog 100 #[.func (.yield l) #[] #[], .pointer (some ⟨Bt, 0, none⟩), .pointer (some ⟨Bs, 0, none⟩)] W fun e W' => (∃ v, e = .returned v) ∧
   ((∃ ys, ys = atTo zs s len ∧ J ys W') ∨ (∃ pre, (∃ k, k ≤ len ∧ pre = atTo zs s k) ∧ Jx pre W')) := by
 refine callsIn_of_wp Try.func100 rfl trivial ?_ rfl
 simp only [Try.ntmps100, List.size_toArray, List.length_cons, List.length_nil, Nat.reduceAdd, Nat.reduceSub, Array.replicate_succ, Array.replicate_zero, List.push_toArray, List.append_toArray, List.nil_append, List.cons_append]
 gi_wp2
 gi_loopw [11] (fun i wr => ∃ k : Nat, k ≤ len ∧ i = .int .i64 k ∧ J (atTo zs s k) wr ∧ Kp2 n₀ Bs W wr)
  (fun i _ => len - (intOf i).toNat)
 case atStart => exact ⟨0, Nat.zero_le _, rfl, h0, Kp2.refl _ _ _⟩
 obtain ⟨k, hk, rfl, hJs, hnx⟩ := hrel
 by_cases hlt : k < len
 rotate_left
 ·
  obtain rfl : k = len := by omega
  gi_wp2
  go_end0
  exact ⟨⟨_, rfl⟩, .inl ⟨_, rfl, hJs⟩⟩
 obtain ⟨a, rfl, hab, hca⟩ := hc k hlt
 have hcx : wr.cell? (a.add k) = some (.int .i64 (zs[k]?.getD 0)) := (hnx.1.cell (p := a.add k) (by rw [Go.ChangeShapes.block_add]; exact hab)).trans hca
 have hsx : wr.cell? ⟨Bs, 0, none⟩ = some (.int .i64 s) := (hnx.cell 0).trans hBs
 have hyes := atTo_yes (zs := zs) (s := s) (k := k)
 have hno := atTo_no (zs := zs) (s := s) (k := k)
 have hY' := hY (atTo zs s k) (k : Int) wr hJs (Nat.lt_of_le_of_lt (atTo_length _ _ _) hlt)
 clear hY hca
 generalize zs[k]?.getD 0 = x at *
 have HY := Go.Lib.hid hyes
 have HN := Go.Lib.hid hno
 have HK := Go.Lib.hid hnx
 clear hyes hno hc hnx
 by_cases he : x = s
 rotate_left
 ·
  have he1 : (x == s) = false := by simpa using he
  clear hY'
  gi_wp2
  refine ⟨fun _ h => (by cases h), ?_⟩
  gi_wp2
  go_roundw
  case rel => exact ⟨k + 1, by omega, by simp, by rw [HN.out he]; exact hJs, HK.out⟩
  case measure => simp [intOf]; omega
 subst he
 obtain ⟨fn, tmps, assign, body, hy, hR⟩ := hY'
 gi_wp2
 refine hR.mono ?_
 rintro e W3 (⟨rfl, hJ3, hk3⟩ | ⟨rfl, hJx3⟩)
 ·
  gi_wp2
  go_roundw
  case rel => exact ⟨k + 1, by omega, by simp, by rw [HY.out trivial]; exact hJ3, HK.out.trans hk3⟩
  case measure => simp [intOf]; omega
 gi_wp2
 refine bodyPost_ret (results_none rfl _ _ _) rfl ?_
 exact ⟨⟨_, rfl⟩, .inr ⟨_, ⟨k + 1, by omega, (HY.out trivial).symm⟩, hJx3⟩⟩
def IntsAt (w : World) (ad : Option Addr) (zs : List Int) : Prop := ∀ j, j < zs.length → ∃ a, ad = some a ∧ a.block < w.heap.size ∧ w.cell? (a.add j) = some (.int .i64 (zs[j]?.getD 0))
theorem IntsAt.below {w w' : World} {ad : Option Addr} {zs : List Int} (h : IntsAt w ad zs) (hb : Below w.heap.size w w') : IntsAt w' ad zs := fun j hj => by
 obtain ⟨a, e, hl, hc⟩ := h j hj
 exact ⟨a, e, Nat.lt_of_lt_of_le hl hb.size, (hb.cell (p := a.add j) (by rw [Go.ChangeShapes.block_add]; exact hl)).trans hc⟩
set_option maxHeartbeats 1000000 in
theorem at_in (n : Nat) (g : Option Addr) (s : Int) (w : World) :
  CallsIn Fence.wide n Try.prog 90 #[.pointer g, .int .i64 s] w fun e w' => e = .returned (.func (.func 100) #[] #[.pointer (some ⟨w.heap.size, 0, none⟩), .pointer (some ⟨w.heap.size + 1, 0, none⟩)]) ∧ w' = (w.alloc (.cells #[.pointer g] 68)).alloc (.cells #[.int .i64 s] 3) := by
 refine callsIn_of_wp Try.func90 rfl trivial ?_ rfl
 simp only [Try.ntmps90, List.size_toArray, List.length_cons, List.length_nil, Nat.reduceAdd, Nat.reduceSub, Array.replicate_succ, Array.replicate_zero, List.push_toArray, List.append_toArray, List.nil_append, List.cons_append]
 gi_wp2
 go_ret
 exact ⟨rfl, rfl⟩
theorem at_stops (n : Nat) (hn : 1 ≤ n) (Bt Bs g : Nat) (ad : Option Addr) (cap : Nat) (s : Int) (zs : List Int) (hreach : zs.length ≤ 9223372036854775807) (n₀ : Nat) (w w0 : World) (hw0 : w0.heap.size = n₀) (hb : Below n₀ w0 w)
  (hBt : Bt < w.heap.size) (hBt0 : w.cell? ⟨Bt, 0, none⟩ = some (.pointer (some ⟨g, 0, none⟩))) (hBs : Bs < w.heap.size) (hBs0 : w.cell? ⟨Bs, 0, none⟩ = some (.int .i64 s)) (hg : w0.cell? ⟨g, 4, none⟩ = some (.slice ad zs.length cap)) (hgl : g < n₀)
  (hz : IntsAt w0 ad zs)  :
  SeqStopsK Fence.wide n Try.prog 100 #[.pointer (some ⟨Bt, 0, none⟩), .pointer (some ⟨Bs, 0, none⟩)] (fun x : Int => #[Value.int .i64 x]) (Kp2 n₀ Bs) (fun ys => ys = atOf zs s) (fun pre => ∃ k, k ≤ zs.length ∧ pre = atTo zs s k) zs.length w := fun l J Jx W hW _ _ hY h0 => by
 have hbW : Below n₀ w0 W := hb.trans (hW.mono (by have := hb.size; omega))
 refine at1_in n hn l Bt Bs g n₀ ad zs.length cap s zs rfl hreach J Jx hY W ((hW.cell (p := ⟨Bt, 0, none⟩) hBt).trans hBt0) ((hW.cell (p := ⟨Bs, 0, none⟩) hBs).trans hBs0) ((hbW.cell (p := ⟨g, 4, none⟩) hgl).trans hg) (fun j hj => ?_) h0
 obtain ⟨a, e, hl, hc⟩ := hz j hj
 rw [hw0] at hl
 exact ⟨a, e, by omega, (hbW.cell (p := a.add j) (by rw [Go.ChangeShapes.block_add]; exact hl)).trans hc⟩
set_option maxRecDepth 100000 in
set_option maxHeartbeats 2000000 in
theorem load_in (g : Nat) (ad : Option Addr) (cap : Nat) (s : Int) (zs : List Int) (hreach : zs.length ≤ 9223372036854775807) (w : World)
  (hg : w.cell? ⟨g, 4, none⟩ = some (.slice ad zs.length cap)) (hz : IntsAt w ad zs) :
  CallsIn Fence.wide 5 Try.prog 74 #[.pointer (some ⟨g, 0, none⟩), .int .i64 s] w fun e W' => e = .returned (.int .i64 ((atOf zs s).length : Int)) ∧ Below w.heap.size w W' := by
 have hgl : g < w.heap.size := World.block_lt_of_cell? w _ hg
 refine callsIn_of_wp_marks Try.func74 rfl trivial ?_ rfl
 simp only [Try.ntmps74, List.size_toArray, List.length_cons, List.length_nil, Nat.reduceAdd, Nat.reduceSub, Array.replicate_succ, Array.replicate_zero, List.push_toArray, List.append_toArray, List.nil_append, List.cons_append]
 gi_wp2_with fail
 refine ⟨trivial, ?_⟩
 refine (at_in (5 - 1) _ _ _).mono ?_
 rintro e w' ⟨rfl, rfl⟩
 gi_wp2
 have hB0 : Below w.heap.size w (((w.alloc (.cells #[.int .i64 0] 3)).alloc (.cells #[.pointer (some ⟨g, 0, none⟩)] 68)).alloc (.cells #[.int .i64 s] 3)) := (((Below.refl _ w).alloc (Nat.le_refl _) _).alloc (by simp) _).alloc (by simp; omega) _
 have bN := (((Boxed.new w 3 (.int .i64 0)).alloc (.cells #[.pointer (some ⟨g, 0, none⟩)] 68)).alloc (.cells #[.int .i64 s] 3))
 have bT := ((Boxed.new (w.alloc (.cells #[.int .i64 0] 3)) 68 (.pointer (some ⟨g, 0, none⟩))).alloc (.cells #[.int .i64 s] 3))
 have bS := Boxed.new ((w.alloc (.cells #[.int .i64 0] 3)).alloc (.cells #[.pointer (some ⟨g, 0, none⟩)] 68)) 3 (.int .i64 s)
 simp only [World.size_alloc] at bT bS
 obtain ⟨W0, hW0⟩ : ∃ W0, (((w.alloc (.cells #[.int .i64 0] 3)).alloc (.cells #[.pointer (some ⟨g, 0, none⟩)] 68)).alloc (.cells #[.int .i64 s] 3)) = W0 := ⟨_, rfl⟩
 have hsz : W0.heap.size = w.heap.size + 3 := by rw [← hW0]; simp
 rw [hW0] at hB0 bN bT bS ⊢
 refine wpIn_rangeFunc_ownG (w0 := W0) rfl (by omega) (gf := 100) (lb := #[.pointer (some ⟨w.heap.size + 1, 0, none⟩), .pointer (some ⟨w.heap.size + 1 + 1, 0, none⟩)]) rfl trivial (enters_of Try.func100 (by kernel_rfl) rfl)
  (at_stops (5 - 1) (by omega) (w.heap.size + 1) (w.heap.size + 1 + 1) g ad cap s zs hreach w.heap.size W0 w rfl hB0 (by omega) bT.cell (by omega) bS.cell hg hgl hz)
  Kp2.trans (Kp2.put (by omega) (by omega)) (Below.refl _ _) (fun _ => rfl)
  (fun pre W => Boxed W w.heap.size 3 (.int .i64 (pre.length : Int)) ∧ Below w.heap.size w W)
  (fun _ _ _ => False)
  (OwnFrom.and (Own.from (boxed_own w.heap.size 3 (fun pre : List Int => Value.int .i64 (pre.length : Int))) _) (ownFrom_below (Nat.le_refl _) (by omega)))
  (fun _ _ _ _ _ hs _ _ => hs)
  ⟨bN, hB0⟩
  (fun x => { tmps := #[.pointer (some ⟨g, 0, none⟩), .int .i64 s, undef, undef, .int .i64 0, .pointer (some ⟨w.heap.size, 0, none⟩), .pointer (some ⟨g, 0, none⟩), .int .i64 s, .func (.func 100) #[] #[.pointer (some ⟨w.heap.size + 1, 0, none⟩), .pointer (some ⟨w.heap.size + 1 + 1, 0, none⟩)], .int .i64 x, undef, undef, undef], defers := [] }) ?assign ?body ?done ?stop
 case assign =>
  intro l x W K hK
  gi_wp2
  simpa using hK
 case body =>
  rintro l pre x W ⟨hb, hB⟩ hlt
  have hc := hb.cell
  have hf := hb.frozen
  gi_wp2
  exact ⟨(KeepsOthers.setCell _ _ _).from _, Kp2.setCell _ _ _ (Nat.le_refl _) (by omega), by simp; exact hb.set _, hB.setCell (p := ⟨w.heap.size, 0, none⟩) (Nat.le_refl _) _⟩
 case done =>
  rintro D ys W hD rfl ⟨hb, hB⟩ hK
  have hc := hb.cell
  gi_wp2
  refine ⟨by simp, .inl ⟨_, _, rfl, run_takeDeferred hK, ?_⟩⟩
  exact ⟨_, results_tmp rfl _ _ _, rfl, hB.trans (belowK_b (w := w) (Nat.le_refl _) W D _ _ (by omega) hK rfl rfl)⟩
 case stop =>
  rintro D c pre W _ _ h _
  exact h.elim
theorem itinfo3 : (Try.prog.info? 3).map (fun i => (i.zero, i.size, i.bytes)) = some (some (.int .i64 0), 1, 8) := by kernel_rfl
set_option maxRecDepth 100000 in
set_option maxHeartbeats 2000000 in
theorem appendSeq_in (Bt Bs g : Nat) (ad : Option Addr) (cap : Nat) (s : Int) (zs : List Int) (hreach : zs.length * 8 ≤ 140737488355328) (w : World)
  (hBt : w.cell? ⟨Bt, 0, none⟩ = some (.pointer (some ⟨g, 0, none⟩))) (hBs : w.cell? ⟨Bs, 0, none⟩ = some (.int .i64 s))
  (hg : w.cell? ⟨g, 4, none⟩ = some (.slice ad zs.length cap)) (hz : IntsAt w ad zs) :
  CallsIn Fence.wide 5 Try.prog 99 #[.slice none 0 0, .func (.func 100) #[] #[.pointer (some ⟨Bt, 0, none⟩), .pointer (some ⟨Bs, 0, none⟩)]] w fun e W' => ∃ v, e = .returned v ∧ W'.ownsRow w.heap.size 3 1 v (atOf zs s).length ((atOf zs s).map (Value.int .i64)) ∧ Below w.heap.size w W' := by
 have hgl : g < w.heap.size := World.block_lt_of_cell? w _ hg
 have hBtl : Bt < w.heap.size := World.block_lt_of_cell? w _ hBt
 have hBsl : Bs < w.heap.size := World.block_lt_of_cell? w _ hBs
 obtain ⟨i0, hi, hz0, hz1, hz2⟩ := info_parts itinfo3
 refine callsIn_of_wp_marks Try.func99 rfl trivial ?_ rfl
 simp only [Try.ntmps99, List.size_toArray, List.length_cons, List.length_nil, Nat.reduceAdd, Nat.reduceSub, Array.replicate_succ, Array.replicate_zero, List.push_toArray, List.append_toArray, List.nil_append, List.cons_append]
 gi_wp2
 have hB0 : Below w.heap.size w (w.alloc (.cells #[.slice none 0 0] 22)) := (Below.refl _ w).alloc (Nat.le_refl _) _
 have bN := Boxed.new w 22 (.slice none 0 0)
 obtain ⟨W0, hW0⟩ : ∃ W0, (w.alloc (.cells #[.slice none 0 0] 22)) = W0 := ⟨_, rfl⟩
 have hsz : W0.heap.size = w.heap.size + 1 := by rw [← hW0]; simp
 rw [hW0] at hB0 bN ⊢
 refine wpIn_rangeFunc_ownG (w0 := W0) rfl (by omega) (gf := 100) (lb := #[.pointer (some ⟨Bt, 0, none⟩), .pointer (some ⟨Bs, 0, none⟩)]) rfl trivial (enters_of Try.func100 (by kernel_rfl) rfl)
  (at_stops (5 - 1) (by omega) Bt Bs g ad cap s zs (by omega) w.heap.size W0 w rfl hB0 (by omega) ((hB0.cell (p := ⟨Bt, 0, none⟩) hBtl).trans hBt) (by omega) ((hB0.cell (p := ⟨Bs, 0, none⟩) hBsl).trans hBs) hg hgl hz)
  Kp2.trans (Kp2.put (by omega) (by omega)) (Below.refl _ _) (fun _ => rfl)
  (fun pre W => (∃ v, Boxed W w.heap.size 22 v ∧ W.ownsRow w.heap.size 3 1 v pre.length (pre.map (Value.int .i64)) ∧ True) ∧ Below w.heap.size w W)
  (fun _ _ _ => False)
  (OwnFrom.and (Own.from (holdsRow_own w.heap.size w.heap.size 22 3 1 (fun pre : List Int => pre.length) (fun pre => pre.map (Value.int .i64)) (fun _ _ => True)) _) (ownFrom_below (Nat.le_refl _) (by omega)))
  (fun _ _ _ _ _ hs _ _ => hs)
  ⟨⟨_, bN, World.ownsRow_nil _ _ _ _, trivial⟩, hB0⟩
  (fun x => { tmps := #[.slice none 0 0, .func (.func 100) #[] #[.pointer (some ⟨Bt, 0, none⟩), .pointer (some ⟨Bs, 0, none⟩)], .pointer (some ⟨w.heap.size, 0, none⟩), undef, .slice none 0 0, .int .i64 x, .func (.func 100) #[] #[.pointer (some ⟨Bt, 0, none⟩), .pointer (some ⟨Bs, 0, none⟩)], .int .i64 x, undef, undef, undef, undef, undef], defers := [] }) ?assign ?body ?done ?stop
 case assign =>
  intro l x W K hK
  gi_wp2
  exact hK
 case body =>
  rintro l pre x W ⟨⟨v, hv, hrow, _⟩, hB⟩ hlt
  have hc := hv.cell
  gi_wp2_with (gi_at_builtin; refine wpListIn_append_own _ rfl _ _ 22 rfl w.heap.size 3 i0 (.int .i64 0) 1 8 Try.underlying22 hi hz0 hz1 hz2 rfl (by decide) _ _ _ rfl (hrow.alloc _) ⟨W.heap.size, 0, none⟩ 1 1 [.int .i64 x] rfl rfl (cell_one_new _ _ _) (by simp [Value.oneCell']) (by unfold maxLen; omega) (by omega) (by have := hB.size; simp; omega) ?_; intro v' w1 hown' hgrow _; obtain ⟨g', cap', rfl⟩ := ownsRow_succ hown'; obtain ⟨hv1, hv2, hr2, hk2, hb2⟩ := hv.appended (by decide) hrow hB.size (Nat.le_refl _) hown' hgrow; have hc1 := hv1.cell; have hf1 := hv1.frozen)
  exact ⟨hk2.from _, ⟨hb2, hb2.block Bs hBsl⟩, ⟨_, hv2, by simpa using hr2, trivial⟩, hB.trans hb2⟩
 case done =>
  rintro D ys W hD rfl ⟨⟨v, hv, hrow, _⟩, hB⟩ hK
  have hc := hv.cell
  gi_wp2
  refine ⟨by simp, .inl ⟨_, _, rfl, run_takeDeferred hK, ?_⟩⟩
  exact ⟨_, results_tmp rfl _ _ _, v, rfl, ownsRow_putObj hrow _ hK rfl, hB.trans (belowK_b (w := w) (Nat.le_refl _) W D _ _ (by omega) hK rfl rfl)⟩
 case stop =>
  rintro D c pre W _ _ h _
  exact h.elim
set_option maxHeartbeats 1000000 in
theorem collect_in (Bt Bs g : Nat) (ad : Option Addr) (cap : Nat) (s : Int) (zs : List Int) (hreach : zs.length * 8 ≤ 140737488355328) (w : World)
  (hBt : w.cell? ⟨Bt, 0, none⟩ = some (.pointer (some ⟨g, 0, none⟩))) (hBs : w.cell? ⟨Bs, 0, none⟩ = some (.int .i64 s))
  (hg : w.cell? ⟨g, 4, none⟩ = some (.slice ad zs.length cap)) (hz : IntsAt w ad zs) :
  Calls Try.prog 89 #[.func (.func 100) #[] #[.pointer (some ⟨Bt, 0, none⟩), .pointer (some ⟨Bs, 0, none⟩)]] w fun e W' => ∃ v, e = .returned v ∧ W'.ownsRow w.heap.size 3 1 v (atOf zs s).length ((atOf zs s).map (Value.int .i64)) ∧ Below w.heap.size w W' := by
 have H := callsIn_wide.1 (appendSeq_in Bt Bs g ad cap s zs hreach w hBt hBs hg hz)
 go_enter Try.func89, Try.ntmps89
 go_wp2_with fail
 refine H.mono ?_
 rintro e w' ⟨v, rfl, ho, hb⟩
 go_wp2_with fail
 go_ret
 exact ⟨v, rfl, ho, hb⟩
theorem load_calls (g : Nat) (ad : Option Addr) (cap : Nat) (s : Int) (zs : List Int) (hreach : zs.length ≤ 9223372036854775807) (w : World)
  (hg : w.cell? ⟨g, 4, none⟩ = some (.slice ad zs.length cap)) (hz : IntsAt w ad zs) :
  Calls Try.prog 74 #[.pointer (some ⟨g, 0, none⟩), .int .i64 s] w fun e W' => e = .returned (.int .i64 ((atOf zs s).length : Int)) ∧ Below w.heap.size w W' :=
 callsIn_wide.1 (load_in g ad cap s zs hreach w hg hz)
theorem at_calls (g : Option Addr) (s : Int) (w : World) :
  Calls Try.prog 90 #[.pointer g, .int .i64 s] w fun e w' => e = .returned (.func (.func 100) #[] #[.pointer (some ⟨w.heap.size, 0, none⟩), .pointer (some ⟨w.heap.size + 1, 0, none⟩)]) ∧ w' = (w.alloc (.cells #[.pointer g] 68)).alloc (.cells #[.int .i64 s] 3) :=
 callsIn_wide.1 (at_in 1 g s w)
end Go.Proofs.Ytkmmihadcbfkoaa
end

section
namespace Go.Proofs.Ytkmmihadcbfkoaa
open Go.RowKit Go.Proofs.YtkmmihadcbfkoaaW.PrintWords
set_option linter.unusedVariables false
set_option linter.unusedSimpArgs false
theorem cell_of_heap {w : World} {g t j : Nat} {cs : Array Value} {fr : Nat × Nat} {v : Value} (h : w.heap[g]? = some (.cells cs t fr)) (hj : cs[j]? = some v) : w.cell? ⟨g, j, none⟩ = some v := by
 simp [World.cell?, h, hj]
theorem frozen_of_heap {w : World} {g t j : Nat} {cs : Array Value} (h : w.heap[g]? = some (.cells cs t (0, 0))) : w.frozen? ⟨g, j, none⟩ = false := by
 simp [World.frozen?, h]
def RowAt {α : Type} (w : World) (b t : Nat) (enc : α → Value) (xs : List α) : Prop :=
 ∃ cs, w.heap[b]? = some (.cells cs t (0, 0)) ∧ ∀ (j : Nat) (h : j < xs.length), cs[j]? = some (enc xs[j])
theorem RowAt.lt {α : Type} {w : World} {b t : Nat} {enc : α → Value} {xs : List α} (h : RowAt w b t enc xs) : b < w.heap.size := by
 obtain ⟨cs, h, _⟩ := h
 exact (Array.getElem?_eq_some_iff.1 h).1
theorem RowAt.cell {α : Type} {w : World} {b t : Nat} {enc : α → Value} {xs : List α} (h : RowAt w b t enc xs) (j : Nat) (hj : j < xs.length) : w.cell? ⟨b, j, none⟩ = some (enc xs[j]) := by
 obtain ⟨cs, h, hc⟩ := h
 simp [World.cell?, h, hc j hj]
theorem RowAt.cellD {α : Type} {w : World} {b t : Nat} {enc : α → Value} {xs : List α} (h : RowAt w b t enc xs) (d : α) (i : Int) (h0 : 0 ≤ i) (h1 : i < xs.length) : w.cell? ⟨b, i.toNat, none⟩ = some (enc (xs.getD i.toNat d)) := by
 rw [h.cell i.toNat (by omega)]
 congr 2
 simp [List.getD_eq_getElem?_getD, List.getElem?_eq_getElem (show i.toNat < xs.length by omega)]
theorem RowAt.frozen {α : Type} {w : World} {b t : Nat} {enc : α → Value} {xs : List α} (h : RowAt w b t enc xs) (j : Nat) : w.frozen? ⟨b, j, none⟩ = false := by
 obtain ⟨cs, h, hc⟩ := h
 simp [World.frozen?, h]
theorem RowAt.set {α : Type} {w : World} {b t : Nat} {enc : α → Value} {xs : List α} (h : RowAt w b t enc xs) (i : Nat) (v : α) : RowAt (w.setCell ⟨b, i, none⟩ (enc v)) b t enc (xs.set i v) := by
 obtain ⟨cs, h, hc⟩ := h
 refine ⟨cs.setIfInBounds i (enc v), ?_, fun j hj => ?_⟩
 ·
  simp [World.setCell, Array.getElem?_modify, h]
 have hj' : j < xs.length := by simpa using hj
 rw [Array.getElem?_setIfInBounds, List.getElem_set]
 have hsz : j < cs.size := (Array.getElem?_eq_some_iff.1 (hc j hj')).1
 by_cases e : i = j
 rotate_left
 ·
  simp [e, hc j hj']
 subst e; simp [hsz]
theorem RowAt.same {α : Type} {w w' : World} {b t : Nat} {enc : α → Value} {xs : List α} (h : RowAt w b t enc xs) (e : w'.heap[b]? = w.heap[b]?) : RowAt w' b t enc xs := by
 obtain ⟨cs, h, hc⟩ := h
 exact ⟨cs, e.trans h, hc⟩
theorem RowAt.below {α : Type} {w w' : World} {b t : Nat} {enc : α → Value} {xs : List α} (h : RowAt w b t enc xs) (hb : Below w.heap.size w w') : RowAt w' b t enc xs :=
 h.same (hb.block b h.lt)
theorem below_of_drew {B : Nat} {w w' : World} (h : Below B w.drew w') : Below B w w' := ⟨h.os, h.tape, h.output, h.size, h.block⟩
def szOf : Option Obj → Nat
 | some (.cells cs _ _) => cs.size
 | _ => 0
theorem szOf_setCell (w : World) (a : Addr) (v : Value) (k : Nat) : szOf ((w.setCell a v).heap[k]?) = szOf (w.heap[k]?) := by
 simp only [World.setCell, Array.getElem?_modify]
 split
 ·
  cases w.heap[k]? with
  | none => rfl
  | some o =>
   cases o with
   | cells cs e fr =>
    simp only [Option.map_some, szOf]
    split <;> simp
   | _ => rfl
 rfl
structure Agree (b1 b2 : Nat) (w w' : World) : Prop where
 os : w'.os = w.os
 tape : w'.tape = w.tape
 output : w'.output = w.output
 size : w.heap.size ≤ w'.heap.size
 block : ∀ k, k < w.heap.size → k ≠ b1 → k ≠ b2 → w'.heap[k]? = w.heap[k]?
 cells : ∀ k, k < w.heap.size → szOf (w'.heap[k]?) = szOf (w.heap[k]?)
theorem Agree.refl (b1 b2 : Nat) (w : World) : Agree b1 b2 w w := ⟨rfl, rfl, rfl, Nat.le_refl _, fun _ _ _ _ => rfl, fun _ _ => rfl⟩
theorem Agree.trans {b1 b2 : Nat} {a b c : World} (h : Agree b1 b2 a b) (k : Agree b1 b2 b c) : Agree b1 b2 a c :=
 ⟨k.os.trans h.os, k.tape.trans h.tape, k.output.trans h.output, Nat.le_trans h.size k.size, fun i hi h1 h2 => (k.block i (Nat.lt_of_lt_of_le hi h.size) h1 h2).trans (h.block i hi h1 h2), fun i hi => (k.cells i (Nat.lt_of_lt_of_le hi h.size)).trans (h.cells i hi)⟩
theorem Agree.of_below {b1 b2 : Nat} {w w' : World} (h : Below w.heap.size w w') : Agree b1 b2 w w' := ⟨h.os, h.tape, h.output, h.size, fun k hk _ _ => h.block k hk, fun k hk => by rw [h.block k hk]⟩
theorem Agree.set1 {b1 b2 : Nat} (w : World) (o : Nat) (v : Value) : Agree b1 b2 w (w.setCell ⟨b1, o, none⟩ v) :=
 ⟨rfl, rfl, rfl, by simp [World.setCell], fun k _ h _ => Below.heap_setCell _ _ _ _ h, fun k _ => szOf_setCell _ _ _ _⟩
theorem Agree.set2 {b1 b2 : Nat} (w : World) (o : Nat) (v : Value) : Agree b1 b2 w (w.setCell ⟨b2, o, none⟩ v) :=
 ⟨rfl, rfl, rfl, by simp [World.setCell], fun k _ _ h => Below.heap_setCell _ _ _ _ h, fun k _ => szOf_setCell _ _ _ _⟩
theorem Agree.below {b1 b2 B : Nat} {w0 w w' : World} (h0 : Below B w0 w) (hB : B ≤ w.heap.size) (h : Agree b1 b2 w w') (h1 : B ≤ b1) (h2 : B ≤ b2) : Below B w0 w' :=
 h0.trans ⟨h.os, h.tape, h.output, h.size, fun k hk => h.block k (by omega) (by omega) (by omega)⟩
theorem rows_at {w : World} {A : Option Addr} {n : Nat} {xs : List (List Int)} (h : Kd.C (Kd.slice 3 (Kd.int .i64)) w A n xs) (i : Int) (h0 : 0 ≤ i) (h1 : i < n) : ∃ ad A0 c0, A = some ad ∧ w.cell? (ad.add i.toNat) = some (.slice A0 (xs.getD i.toNat []).length c0) ∧ (xs.getD i.toNat []).length ≤ c0 ∧ Kd.C (Kd.int .i64) w A0 (xs.getD i.toNat []).length (xs.getD i.toNat []) := by
 obtain ⟨ad, c, e, _, hK, hc0⟩ := Kd.C_get h ([] : List Int) i h0 h1
 have hc : ∀ j u, c[j]? = some u → w.cell? (ad.add (i.toNat * 1 + j)) = some u := hc0
 obtain ⟨A0, c0, rfl, l0, g0⟩ := hK
 exact ⟨ad, A0, c0, e, by have hq := hc 0 _ rfl; rwa [Nat.mul_one, Nat.add_zero] at hq, l0, g0⟩
def RowsAt (w : World) (A2 : Option Addr) (ra : Nat → Option Addr) (rc : Nat → Nat) (fits : List (List Int)) : Prop :=
 ∀ i, i < fits.length → ∃ a, A2 = some a ∧ w.cell? (a.add i) = some (.slice (ra i) (fits.getD i []).length (rc i)) ∧ Kd.C (Kd.int .i64) w (ra i) (fits.getD i []).length (fits.getD i [])
theorem RowsAt.below {w w' : World} {A2 : Option Addr} {ra : Nat → Option Addr} {rc : Nat → Nat} {fits : List (List Int)} (h : RowsAt w A2 ra rc fits) (hb : Below w.heap.size w w') : RowsAt w' A2 ra rc fits := fun i hi => by
 obtain ⟨a, e, hc, hk⟩ := h i hi
 exact ⟨a, e, pw_cell_below hb hc, Kd.C_below hk hb⟩
theorem RowsAt.of_C {w : World} {A2 : Option Addr} {fits : List (List Int)} (h : Kd.C (Kd.slice 3 (Kd.int .i64)) w A2 fits.length fits) : ∃ ra rc, RowsAt w A2 ra rc fits := by
 have hx : ∀ i : Nat, ∃ p : Option Addr × Nat, i < fits.length → ∃ a, A2 = some a ∧ w.cell? (a.add i) = some (.slice p.1 (fits.getD i []).length p.2) ∧ Kd.C (Kd.int .i64) w p.1 (fits.getD i []).length (fits.getD i []) := fun i => by
  by_cases hi : i < fits.length
  ·
   obtain ⟨a, A0, c0, e, hc, _, hk⟩ := rows_at h (i : Int) (by omega) (by omega)
   exact ⟨(A0, c0), fun _ => ⟨a, e, by simpa using hc, by simpa using hk⟩⟩
  ·
   exact ⟨(none, 0), fun h => absurd h hi⟩
 exact ⟨fun i => (Classical.choose (hx i)).1, fun i => (Classical.choose (hx i)).2, fun i hi => Classical.choose_spec (hx i) hi⟩
structure Lay where
 g : Nat
 Bt : Nat
 Bn : Nat
 Bk : Nat
 bs : Nat
 bh : Nat
 ns : Nat
 nh : Nat
 A2 : Option Addr
 c2 : Nat
 Ar : Option Addr
 cr : Nat
 ch : Nat
 ra : Nat → Option Addr
 rc : Nat → Nat
structure Still (c : Lay) (fits : List (List Int)) (room : List Int) (w : World) : Prop where
 t : w.cell? ⟨c.Bt, 0, none⟩ = some (.pointer (some ⟨c.g, 0, none⟩))
 n : w.cell? ⟨c.Bn, 0, none⟩ = some (.slice (some ⟨c.bs, 0, none⟩) c.ns c.ns)
 k : w.cell? ⟨c.Bk, 0, none⟩ = some (.func (.func 96) #[] #[.pointer (some ⟨c.Bt, 0, none⟩), .pointer (some ⟨c.Bn, 0, none⟩), .pointer (some ⟨c.Bk, 0, none⟩)])
 f2 : w.cell? ⟨c.g, 2, none⟩ = some (.slice c.A2 fits.length c.c2)
 f3 : w.cell? ⟨c.g, 3, none⟩ = some (.slice c.Ar room.length c.cr)
 f4 : w.cell? ⟨c.g, 4, none⟩ = some (.slice (some ⟨c.bh, 0, none⟩) c.nh c.ch)
 fits : RowsAt w c.A2 c.ra c.rc fits
 room : Kd.C (Kd.int .i64) w c.Ar room.length room
def Stands (c : Lay) (fits : List (List Int)) (room : List Int) (w : World) : Prop := ∀ w', Agree c.bs c.bh w w' → Still c fits room w'
theorem Stands.still {c : Lay} {fits : List (List Int)} {room : List Int} {w : World} (h : Stands c fits room w) : Still c fits room w := h w (Agree.refl _ _ _)
theorem Stands.later {c : Lay} {fits : List (List Int)} {room : List Int} {w w' : World} (h : Stands c fits room w) (a : Agree c.bs c.bh w w') : Stands c fits room w' := fun w2 k => h w2 (a.trans k)
structure Turns (c : Lay) (w : World) (seen : List Bool) (has : List Int) : Prop where
 rs : RowAt w c.bs 4 Value.bool seen
 rh : RowAt w c.bh 3 (Value.int .i64) has
 ls : seen.length = c.ns
 lh : has.length = c.nh
theorem Turns.below {c : Lay} {w w' : World} {seen : List Bool} {has : List Int} (h : Turns c w seen has) (hb : Below w.heap.size w w') : Turns c w' seen has := ⟨h.rs.below hb, h.rh.below hb, h.ls, h.lh⟩
theorem Turns.ne {c : Lay} {w : World} {seen : List Bool} {has : List Int} (h : Turns c w seen has) : c.bs ≠ c.bh := by
 obtain ⟨⟨cs, h1, _⟩, ⟨ct, h2, _⟩, _, _⟩ := h
 intro e
 rw [e, h2] at h1
 injection h1 with h1
 injection h1 with _ h1
 exact absurd h1 (by decide)
theorem Turns.setSeen {c : Lay} {w : World} {seen : List Bool} {has : List Int} (h : Turns c w seen has) (i : Nat) (v : Bool) : Turns c (w.setCell ⟨c.bs, i, none⟩ (.bool v)) (seen.set i v) has :=
 ⟨h.rs.set i v, h.rh.same (Below.heap_setCell _ _ _ _ h.ne.symm), by simp [h.ls], h.lh⟩
theorem Turns.setHas {c : Lay} {w : World} {seen : List Bool} {has : List Int} (h : Turns c w seen has) (i : Nat) (v : Int) : Turns c (w.setCell ⟨c.bh, i, none⟩ (.int .i64 v)) seen (has.set i v) :=
 ⟨h.rs.same (Below.heap_setCell _ _ _ _ h.ne), h.rh.set i v, h.ls, by simp [h.lh]⟩
theorem RowAt.ints {w : World} {b : Nat} {xs : List Int} (h : RowAt w b 3 (Value.int .i64) xs) : IntsAt w (some ⟨b, 0, none⟩) xs := fun j hj => by
 refine ⟨⟨b, 0, none⟩, rfl, h.lt, ?_⟩
 rw [add_plain, h.cell j hj]
 simp [List.getElem?_eq_getElem hj]
end Go.Proofs.Ytkmmihadcbfkoaa
end

section
namespace Go.Proofs.Ytkmmihadcbfkoaa
open Go.RowKit Go.Proofs.YtkmmihadcbfkoaaW.PrintWords
set_option linter.unusedVariables false
set_option linter.unusedSimpArgs false
def SeekPost (c : Lay) (r : SR) (w : World) (e : Ending) (w' : World) : Prop := e = .returned (.bool r.ok) ∧ Agree c.bs c.bh w w' ∧ Turns c w' r.seen r.has
structure Fit (c : Lay) (fits : List (List Int)) (room : List Int) : Prop where
 slot : ∀ i : Nat, i < fits.length → ∀ j : Nat, j < (fits.getD i []).length → 0 ≤ (fits.getD i []).getD j 0 ∧ (fits.getD i []).getD j 0 < c.ns
 room : room.length = c.ns
 row : ∀ i : Nat, i < fits.length → (fits.getD i []).length ≤ 1000000
 finds : fits.length = c.nh
 ns : c.ns ≤ 1000000
 nh : c.nh ≤ 1000000
structure GRel (c : Lay) (fits : List (List Int)) (room : List Int) (rec : Int → List Bool → List Int → SR) (gs : List Int) (f : Int) (m : Nat) (r : SR) (w : World) (j : Nat) (wr : World) : Prop where
 mk :: (out : ∃ sn hs, seekG rec f (gs.drop j) sn hs = r ∧ Stands c fits room wr ∧ Turns c wr sn hs ∧ Agree c.bs c.bh w wr ∧ cnt sn < m)
theorem collected_reads {c : Lay} {w3 w4 : World} {v : Value} {gs : List Int} (h1 : c.bs < w3.heap.size) (h2 : c.bh < w3.heap.size) (ho : w4.ownsRow w3.heap.size 3 1 v gs.length (gs.map (Value.int .i64))) :
  ∃ A cc, v = .slice A gs.length cc ∧ ∀ w5, Agree c.bs c.bh w4 w5 → ReadsInt w5 .i64 A gs.length gs := by
 obtain ⟨A, cc, rfl, _⟩ := own_reads (k := .i64) (xs := gs) ho
 refine ⟨A, cc, rfl, fun w5 ag => ?_⟩
 have ho5 := own_move (w1 := w5) ho (fun k hk => ag.block k (own_lt ho k hk) (by have := own_base ho k hk; omega) (by have := own_base ho k hk; omega))
 obtain ⟨A', c', e, hr⟩ := own_reads (k := .i64) (xs := gs) ho5
 injection e with e1 e2 e3
 rw [e1]
 exact hr
structure SkRel (c : Lay) (fits : List (List Int)) (room : List Int) (rec : Int → List Bool → List Int → SR) (row : List Int) (f : Int) (m : Nat) (r : SR) (w : World) (k : Nat) (wr : World) : Prop where
 mk :: (out : ∃ sn hs, seekS rec room f (row.drop k) sn hs = r ∧ Stands c fits room wr ∧ Turns c wr sn hs ∧ Agree c.bs c.bh w wr ∧ cnt sn < m + 1)
set_option maxRecDepth 100000 in
set_option maxHeartbeats 4000000 in
theorem seek_calls (c : Lay) (fits : List (List Int)) (room : List Int) (hF : Fit c fits room) (m : Nat) : ∀ (f : Int) (seen : List Bool) (has : List Int) (w : World), cnt seen < m → 0 ≤ f → f < c.nh →
  Stands c fits room w → Turns c w seen has →
  Calls Try.prog 96 #[.int .i64 f, .pointer (some ⟨c.Bt, 0, none⟩), .pointer (some ⟨c.Bn, 0, none⟩), .pointer (some ⟨c.Bk, 0, none⟩)] w (SeekPost c (seekF fits room m f seen has) w) := by
 induction m with
 | zero => intro f seen has w h; omega
 | succ m ih =>
  intro f seen has w hm h0 h1 hS hT
  have hst := hS.still
  have hlf : f < (fits.length : Int) := by rw [hF.finds]; exact h1
  obtain ⟨fn, rfl⟩ := Int.eq_ofNat_of_zero_le h0
  have hfn : fn < fits.length := by omega
  obtain ⟨ad2, eA2, hrc, hrow⟩ := hst.fits fn hfn
  have hslot := hF.slot fn hfn
  have hrl := hF.row fn hfn
  obtain ⟨r, hr⟩ : ∃ r, seekF fits room (m + 1) (fn : Int) seen has = r := ⟨_, rfl⟩
  rw [hr]
  unfold seekF at hr
  rw [Int.toNat_natCast] at hr
  obtain ⟨row, hrw⟩ : ∃ row, fits.getD fn [] = row := ⟨_, rfl⟩
  rw [hrw] at hr hrl hslot hrow hrc
  have HRW := Go.Lib.hid hrw
  clear hrw
  have t1 := hst.t
  have t2 := hst.f2
  rw [eA2] at t2
  have p0 := eq_true h0
  have q0 := eq_true hlf
  have HT := Go.Lib.hid hT
  have HS := Go.Lib.hid hS
  have HR := Go.Lib.hid hrow
  have hcap : row.length ≤ 9223372036854775807 := by omega
  have HF := Go.Lib.hid hF
  have IH := Go.Lib.hid ih
  have HL := Go.Lib.hid hslot
  have HE := Go.Lib.hid hr
  have HST := Go.Lib.hid hst
  clear hst hT hS ih hF hrow hslot hr
  go_enter Try.func96, Try.ntmps96
  go_wp2_with fail
  go_loopw [19] (fun i wr => ∃ k : Nat, k ≤ row.length ∧ i = .int .i64 k ∧ SkRel c fits room (seekF fits room m) row fn m r w k wr) (fun i _ => row.length - (intOf i).toNat)
  case atStart => exact ⟨0, Nat.zero_le _, rfl, ⟨seen, has, HE.out, HS.out, HT.out, Agree.refl _ _ _, hm⟩⟩
  obtain ⟨k, hk, rfl, ⟨sn, hs, hre, hS, hT, hA, hcn⟩⟩ := hrel
  have hst := hS.still
  by_cases hlt : k < row.length
  rotate_left
  ·
   obtain rfl : k = row.length := by omega
   rw [List.drop_length] at hre
   unfold seekS at hre
   have HT5 := Go.Lib.hid hT
   have HA5 := Go.Lib.hid hA
   have HREa := Go.Lib.hid hre
   clear hT hA hre hst hS
   go_wp2_with fail
   go_ret
   have hfin := HREa.out
   subst hfin
   exact ⟨rfl, HA5.out, HT5.out⟩
  obtain ⟨ad2', eA2', hrc', hrow'⟩ := hst.fits fn hfn
  rw [HRW.out] at hrow' hrc'
  obtain ⟨a3, e3, hx3⟩ := Kd.at_int hrow' (k : Int) (by omega) (by omega)
  obtain ⟨s, hs0⟩ : ∃ s, row.getD k 0 = s := ⟨_, rfl⟩
  have hdrop : row.drop k = s :: row.drop (k + 1) := by
   rw [List.drop_eq_getElem_cons hlt, ← hs0]
   simp [List.getD_eq_getElem?_getD, List.getElem?_eq_getElem hlt]
  have hsl := HL.out k hlt
  have e4 : rd row (k : Int) = s := by rw [← hs0]; simp [rd]
  rw [hs0] at hsl
  rw [hdrop] at hre
  rw [e4, Int.toNat_natCast] at hx3
  obtain ⟨hs1, hs2⟩ := hsl
  have b1 := hst.t
  have b2 := hst.n
  have b3 := hT.rs.cellD false s hs1 (by rw [hT.ls]; exact hs2)
  have p1 := eq_true hs1
  have q1 := eq_true hs2
  clear hrc' hrow' hs0 e4 hdrop eA2'
  have HT := Go.Lib.hid hT
  have HS := Go.Lib.hid hS
  have HST := Go.Lib.hid hst
  have HA := Go.Lib.hid hA
  have HRE := Go.Lib.hid hre
  clear hT hS hst hA hre t1 t2 hrc
  rw [e3]
  clear e3
  by_cases hsn : sn.getD s.toNat false = true
  ·
   rw [hsn] at b3
   have HSN := Go.Lib.hid hsn
   clear hsn
   go_wp2_with fail
   go_roundw
   case rel => exact ⟨k + 1, by omega, by simp, ⟨sn, hs, by have h := HRE.out; unfold seekS at h; rw [if_pos HSN.out] at h; exact h, HS.out, HT.out, HA.out, hcn⟩⟩
   case measure => simp [intOf]; omega
  have hsn' : sn.getD s.toNat false = false := by simpa using hsn
  rw [hsn'] at b3
  have HSN := Go.Lib.hid hsn'
  clear hsn hsn'
  have f1 := HT.out.rs.frozen s.toNat
  go_wp2_with fail
  have ag : Agree c.bs c.bh wr (wr.setCell ⟨c.bs, s.toNat, none⟩ (.bool true)) := Agree.set1 _ _ _
  have hT1 := HT.out.setSeen s.toNat true
  generalize wr.setCell ⟨c.bs, s.toNat, none⟩ (.bool true) = w1 at *
  have hS1 := HS.out.later ag
  have hst1 := hS1.still
  have d1 := hst1.t
  have d3 := hst1.f3
  have d4 := hst1.f4
  have hrl2 : s < (room.length : Int) := by rw [HF.out.room]; exact hs2
  obtain ⟨ar, ear, hxr⟩ := Kd.at_int hst1.room s hs1 hrl2
  rw [ear] at d3
  obtain ⟨q, hq⟩ : ∃ q, rd room s = q := ⟨_, rfl⟩
  rw [hq] at hxr
  have q2 := eq_true hrl2
  have hz := hT1.rh.ints
  have hgl := World.block_lt_of_cell? w1 _ d3
  have htl := World.block_lt_of_cell? w1 _ d1
  have harl := World.block_lt_of_cell? w1 _ hxr
  have d4' : w1.cell? ⟨c.g, 4, none⟩ = some (.slice (some ⟨c.bh, 0, none⟩) hs.length c.ch) := by rw [HT.out.lh]; exact d4
  have hlen : hs.length ≤ 9223372036854775807 := by rw [HT.out.lh]; have := HF.out.nh; omega
  have LC := load_calls c.g (some ⟨c.bh, 0, none⟩) c.ch s hs hlen w1.drew d4' hz
  have HZ := Go.Lib.hid hz
  have HD4 := Go.Lib.hid d4'
  have HQ := Go.Lib.hid hq
  have HT1 := Go.Lib.hid hT1
  have HS1 := Go.Lib.hid hS1
  have HAG := Go.Lib.hid ag
  have HSTt := Go.Lib.hid hst1
  have HEAR := Go.Lib.hid ear
  clear hz d4 d4' hq hT1 hS1 ag hst1 b1 b2 b3 hx3 hlen ear hlf q0 f1 eA2
  go_region_held3 (fun w' => w'.cell? ⟨c.Bt, 0, none⟩ = some (.pointer (some ⟨c.g, 0, none⟩)) ∧ w'.cell? ⟨c.g, 3, none⟩ = some (.slice (some ar) room.length c.cr) ∧ w'.cell? (ar.add s.toNat) = some (.int .i64 q))
   (go_keep)
   (first | (go_at_call 74; refine LC.mono ?_; rintro e w' ⟨rfl, hb0⟩; have hb := below_of_drew hb0; clear hb0; have k1 := (hb.cell (p := ⟨c.Bt, 0, none⟩) htl).trans d1; have k2 := (hb.cell (p := ⟨c.g, 3, none⟩) hgl).trans d3; have k3 := (hb.cell (p := ar.add s.toNat) harl).trans hxr))
  have hT2 : Turns c w' (sn.set s.toNat true) hs := HT1.out.below hb
  have hS2 : Stands c fits room w' := HS1.out.later (Agree.of_below hb)
  have hA2 : Agree c.bs c.bh w w' := HA.out.trans (HAG.out.trans (Agree.of_below hb))
  have hcn2 : cnt (sn.set s.toNat true) < m := by
   have := cnt_set (seen := sn) (i := s.toNat) (by rw [HT.out.ls]; omega) HSN.out
   omega
  have hre := HRE.out
  unfold seekS at hre
  rw [if_neg (by rw [HSN.out]; simp)] at hre
  rw [show room.getD s.toNat 0 = q from HQ.out] at hre
  have g4 := hS2.still.f4
  obtain ⟨x5, g5⟩ : ∃ x5, w'.cell? ⟨c.bh, fn, none⟩ = some (.int .i64 x5) := ⟨_, hT2.rh.cell fn (by rw [hT2.lh]; omega)⟩
  have g6 := hT2.rh.frozen fn
  have qn : ((fn : Int) < (c.nh : Int)) = True := eq_true h1
  have HT2 := Go.Lib.hid hT2
  have HS2 := Go.Lib.hid hS2
  have HA2 := Go.Lib.hid hA2
  have HB := Go.Lib.hid hb
  have HCN := Go.Lib.hid hcn2
  clear hT2 hS2 hA2 hb d1 d3 hxr k2 k3 hcn2 LC
  by_cases hld : ((atOf hs s).length : Int) < q
  ·
   rw [if_pos (show ld hs s < q from hld)] at hre
   have HRE := Go.Lib.hid hre
   clear hre
   go_wp2_with fail
   go_ret
   have hfin := HRE.out
   subst hfin
   exact ⟨rfl, HA2.out.trans (Agree.set2 _ _ _), HT2.out.setHas fn s⟩
  rw [if_neg (show ¬ ld hs s < q from hld)] at hre
  have HRE2 := Go.Lib.hid hre
  clear hre
  go_wp2_with fail
  refine (at_calls _ _ _).mono ?_
  rintro e w3 ⟨rfl, rfl⟩
  go_wp2_with fail
  have hB3 : Below w'.heap.size w' ((w'.alloc (.cells #[.pointer (some ⟨c.g, 0, none⟩)] 68)).alloc (.cells #[.int .i64 s] 3)) := ((Below.refl _ w').alloc (Nat.le_refl _) _).alloc (by simp) _
  have bT := ((Boxed.new w' 68 (.pointer (some ⟨c.g, 0, none⟩))).alloc (.cells #[.int .i64 s] 3)).cell
  have bS := (Boxed.new (w'.alloc (.cells #[.pointer (some ⟨c.g, 0, none⟩)] 68)) 3 (.int .i64 s)).cell
  simp only [World.size_alloc] at bS
  have hlen8 : hs.length * 8 ≤ 140737488355328 := by rw [HT.out.lh]; have := HF.out.nh; omega
  have CO := collect_in w'.heap.size (w'.heap.size + 1) c.g (some ⟨c.bh, 0, none⟩) c.ch s hs hlen8 _ bT bS (by rw [HT2.out.lh]; exact ((HS2.out.later (Agree.of_below hB3)).still.f4)) (HT2.out.below hB3).rh.ints
  refine CO.mono ?_
  clear CO
  rintro e w4 ⟨v4, rfl, ho4, hb4⟩
  have hT4 := (HT2.out.below hB3).below hb4
  have hS4 := (HS2.out.later (Agree.of_below hB3)).later (Agree.of_below hb4)
  have hA4 := (HA2.out.trans (Agree.of_below hB3)).trans (Agree.of_below hb4)
  generalize (w'.alloc (.cells #[.pointer (some ⟨c.g, 0, none⟩)] 68)).alloc (.cells #[.int .i64 s] 3) = w3 at *
  have hb3 := (HT2.out.below hB3)
  obtain ⟨gs, hgs⟩ : ∃ gs, atOf hs s = gs := ⟨_, rfl⟩
  have hgm : ∀ j : Nat, j < gs.length → 0 ≤ gs.getD j 0 ∧ gs.getD j 0 < (c.nh : Int) := fun j hj => by
   have hm2 : gs.getD j 0 ∈ atOf hs s := by
    rw [hgs, List.getD_eq_getElem?_getD, List.getElem?_eq_getElem hj]
    exact List.getElem_mem hj
   have := mem_atOf.1 hm2
   rw [HT.out.lh] at this
   exact ⟨this.1, this.2.1⟩
  have hgl : gs.length ≤ 1000000 := by
   have := atTo_length hs s hs.length
   rw [show atTo hs s hs.length = gs from hgs, HT.out.lh] at this
   have := HF.out.nh
   omega
  have hre := HRE2.out
  rw [hgs] at ho4 hre
  obtain ⟨A4, c4, rfl, hR4⟩ := collected_reads (c := c) (Nat.lt_of_lt_of_le HT2.out.rs.lt hB3.size) (Nat.lt_of_lt_of_le HT2.out.rh.lt hB3.size) ho4
  obtain ⟨r2, hr2⟩ : ∃ r2, seekG (seekF fits room m) (fn : Int) gs (sn.set s.toNat true) hs = r2 := ⟨_, rfl⟩
  rw [hr2] at hre
  have HRE := Go.Lib.hid hre
  have HR2 := Go.Lib.hid hr2
  have HGM := Go.Lib.hid hgm
  have HGS := Go.Lib.hid hgs
  have HT4 := Go.Lib.hid hT4
  have HS4 := Go.Lib.hid hS4
  have HA4 := Go.Lib.hid hA4
  have HR4 := Go.Lib.hid hR4
  clear hre hr2 hgm hgs hT4 hS4 hA4 hR4 ho4 hb4 hb3 bT bS hlen8 k1 g4 g5 g6
  have gcap : gs.length ≤ 9223372036854775807 := by omega
  go_wp2_with fail
  go_loopw [53] (fun i wx => ∃ j : Nat, j ≤ gs.length ∧ i = .int .i64 j ∧ GRel c fits room (seekF fits room m) gs fn m r2 w4 j wx) (fun i _ => gs.length - (intOf i).toNat)
  case atStart => exact ⟨0, Nat.zero_le _, rfl, ⟨_, _, HR2.out, HS4.out, HT4.out, Agree.refl _ _ _, HCN.out⟩⟩
  obtain ⟨j, hj, rfl, ⟨sn2, hs2', hre2, hS5, hT5, hA5, hcn5⟩⟩ := hrel
  by_cases hlt2 : j < gs.length
  rotate_left
  ·
   obtain rfl : j = gs.length := by omega
   have hre := hre2
   rw [List.drop_length] at hre
   unfold seekG at hre
   have HT5 := Go.Lib.hid hT5
   have HS5 := Go.Lib.hid hS5
   have HA5 := Go.Lib.hid hA5
   have HREa := Go.Lib.hid hre
   clear hT5 hS5 hA5 hre hre2
   go_wp2_with fail
   go_roundw
   case rel =>
    have hfin := HRE.out
    rw [← HREa.out, if_neg (by simp)] at hfin
    exact ⟨k + 1, by omega, by simp, ⟨sn2, hs2', hfin, HS5.out, HT5.out, HA4.out.trans HA5.out, by omega⟩⟩
   case measure => simp [intOf]; omega
  obtain ⟨a6, e6, hx6⟩ := (HR4.out _ hA5).at_ (j : Int) (by omega) (by omega)
  obtain ⟨g, hg0⟩ : ∃ g, gs.getD j 0 = g := ⟨_, rfl⟩
  have hdrop2 : gs.drop j = g :: gs.drop (j + 1) := by
   rw [List.drop_eq_getElem_cons hlt2, ← hg0]
   simp [List.getD_eq_getElem?_getD, List.getElem?_eq_getElem hlt2]
  have hgb := HGM.out j hlt2
  have e7 : rd gs (j : Int) = g := by rw [← hg0]; simp [rd]
  rw [hg0] at hgb
  rw [hdrop2] at hre2
  rw [e7, Int.toNat_natCast] at hx6
  obtain ⟨hgb1, hgb2⟩ := hgb
  have b7 := hS5.still.k
  have HRE5 := Go.Lib.hid hre2
  have HT5 := Go.Lib.hid hT5
  have HS5 := Go.Lib.hid hS5
  have HA5 := Go.Lib.hid hA5
  clear hre2 hT5 hS5 hA5 hg0 e7 hdrop2
  rw [e6]
  clear e6
  by_cases hgf : g = (fn : Int)
  ·
   have hgf1 : (g != (fn : Int)) = false := by simpa using hgf
   have HGF := Go.Lib.hid hgf
   clear hgf
   go_wp2_with fail
   go_roundw
   case rel => exact ⟨j + 1, by omega, by simp, ⟨sn2, hs2', by have h := HRE5.out; unfold seekG at h; rw [if_pos HGF.out] at h; exact h, HS5.out, HT5.out, HA5.out, hcn5⟩⟩
   case measure => simp [intOf]; omega
  have hgf1 : (g != (fn : Int)) = true := by simpa using hgf
  have HGF := Go.Lib.hid hgf
  clear hgf
  have CI := IH.out g sn2 hs2' wr hcn5 hgb1 hgb2 HS5.out HT5.out
  go_wp2_with fail
  refine CI.mono ?_
  clear CI
  obtain ⟨r3, hr3⟩ : ∃ r3, seekF fits room m g sn2 hs2' = r3 := ⟨_, rfl⟩
  have hok3 := seekF_ok fits room m g sn2 hs2'
  rw [hr3] at hok3 ⊢
  have HR3 := Go.Lib.hid hr3
  have HOK3 := Go.Lib.hid hok3
  clear hr3 hok3
  rintro e w6 ⟨rfl, ag6, hT6⟩
  have hS6 := HS5.out.later ag6
  have hA6 := HA5.out.trans ag6
  have hre := HRE5.out
  unfold seekG at hre
  rw [if_neg HGF.out, HR3.out] at hre
  by_cases hok : r3.ok = true
  rotate_left
  ·
   rw [if_neg hok] at hre
   have hok' : r3.ok = false := by simpa using hok
   have hcn6 : cnt r3.seen < m := Nat.lt_of_le_of_lt HOK3.out.2.2 hcn5
   have HT6 := Go.Lib.hid hT6
   have HS6 := Go.Lib.hid hS6
   have HA6 := Go.Lib.hid hA6
   have HREa := Go.Lib.hid hre
   rw [hok']
   clear hT6 hS6 hA6 hre ag6 hok hok' hx6 b7
   go_wp2_with fail
   go_roundw
   case rel => exact ⟨j + 1, by omega, by simp, ⟨r3.seen, r3.has, HREa.out, HS6.out, HT6.out, HA6.out, hcn6⟩⟩
   case measure => simp [intOf]; omega
  rw [if_pos hok] at hre
  have g0 := hS6.still.t
  have g4 := hS6.still.f4
  obtain ⟨x5, g5⟩ : ∃ x5, w6.cell? ⟨c.bh, fn, none⟩ = some (.int .i64 x5) := ⟨_, hT6.rh.cell fn (by rw [hT6.lh]; omega)⟩
  have g6 := hT6.rh.frozen fn
  have HT6 := Go.Lib.hid hT6
  have HS6 := Go.Lib.hid hS6
  have HA6 := Go.Lib.hid hA6
  have HREa := Go.Lib.hid hre
  have HOK := Go.Lib.hid hok
  rw [hok]
  clear hT6 hS6 hA6 hre ag6 hok hx6 b7
  go_wp2_with fail
  go_ret
  have hfin := HRE.out
  rw [← HREa.out, if_pos HOK.out] at hfin
  subst hfin
  exact ⟨rfl, (HA4.out.trans HA6.out).trans (Agree.set2 _ _ _), HT6.out.setHas fn s⟩
end Go.Proofs.Ytkmmihadcbfkoaa
end

section
namespace Go.Proofs
open Go.Shelf
def Try.lays189_ren : Go.Shelf.Ren := ⟨fun | 189 => 97 | 125 => 102 | 257 => 101 | 128 => 112 | 129 => 113 | 294 => 103 | 295 => 104 | 296 => 105 | 297 => 106 | 298 => 107 | 299 => 108 | 216 => 109 | 300 => 110 | 301 => 111 | 328 => 114 | 329 => 115 | 330 => 116 | 331 => 117 | 332 => 118 | 215 => 119 | 343 => 120 | n => n, fun | 28 => 22 | 3 => 3 | 46 => 101 | 0 => 0 | 51 => 112 | 53 => 115 | 4 => 4 | 183 => 125 | 182 => 124 | 131 => 129 | 5 => 5 | 9 => 9 | 218 => 133 | 222 => 137 | 228 => 139 | 229 => 43 | n => n, fun | n => n⟩
theorem Try.lays189 : Go.Proofs.Lays.n189 Try.prog Try.lays189_ren := {
 mixed := by kernel_rfl
 f125 := Try.func102.trans (congrArg some (by kernel_rfl))
 f128 := Try.func112.trans (congrArg some (by kernel_rfl))
 f129 := Try.func113.trans (congrArg some (by kernel_rfl))
 f189 := Try.func97.trans (congrArg some (by kernel_rfl))
 f215 := Try.func119.trans (congrArg some (by kernel_rfl))
 f216 := Try.func109.trans (congrArg some (by kernel_rfl))
 f257 := Try.func101.trans (congrArg some (by kernel_rfl))
 f294 := Try.func103.trans (congrArg some (by kernel_rfl))
 f295 := Try.func104.trans (congrArg some (by kernel_rfl))
 f296 := Try.func105.trans (congrArg some (by kernel_rfl))
 f297 := Try.func106.trans (congrArg some (by kernel_rfl))
 f298 := Try.func107.trans (congrArg some (by kernel_rfl))
 f299 := Try.func108.trans (congrArg some (by kernel_rfl))
 f300 := Try.func110.trans (congrArg some (by kernel_rfl))
 f301 := Try.func111.trans (congrArg some (by kernel_rfl))
 f328 := Try.func114.trans (congrArg some (by kernel_rfl))
 f329 := Try.func115.trans (congrArg some (by kernel_rfl))
 f330 := Try.func116.trans (congrArg some (by kernel_rfl))
 f331 := Try.func117.trans (congrArg some (by kernel_rfl))
 f332 := Try.func118.trans (congrArg some (by kernel_rfl))
 f343 := Try.func120.trans (congrArg some (by kernel_rfl))
 t0 := Try.underlying0
 a0 := Try.isAgg0
 z0 := Try.sizeOf0
 v0 := Try.zeroValue0
 t3 := Try.underlying3
 a3 := Try.isAgg3
 z3 := Try.sizeOf3
 v3 := Try.zeroValue3
 t4 := Try.underlying4
 a4 := Try.isAgg4
 z4 := Try.sizeOf4
 v4 := Try.zeroValue4
 t5 := Try.underlying5
 a5 := Try.isAgg5
 z5 := Try.sizeOf5
 v5 := Try.zeroValue5
 t9 := Try.underlying9
 a9 := Try.isAgg9
 z9 := Try.sizeOf9
 v9 := Try.zeroValue9
 t28 := Try.underlying22
 a28 := Try.isAgg22
 z28 := Try.sizeOf22
 v28 := Try.zeroValue22
 t46 := Try.underlying101
 a46 := Try.isAgg101
 z46 := Try.sizeOf101
 v46 := Try.zeroValue101
 t51 := Try.underlying112
 a51 := Try.isAgg112
 z51 := Try.sizeOf112
 v51 := Try.zeroValue112
 t53 := Try.underlying115
 a53 := Try.isAgg115
 z53 := Try.sizeOf115
 v53 := Try.zeroValue115
 t131 := Try.underlying129
 a131 := Try.isAgg129
 z131 := Try.sizeOf129
 v131 := Try.zeroValue129
 t182 := Try.underlying124
 a182 := Try.isAgg124
 z182 := Try.sizeOf124
 v182 := Try.zeroValue124
 t183 := Try.underlying125
 a183 := Try.isAgg125
 z183 := Try.sizeOf125
 v183 := Try.zeroValue125
 t218 := Try.underlying133
 a218 := Try.isAgg133
 z218 := Try.sizeOf133
 v218 := Try.zeroValue133
 t222 := Try.underlying137
 a222 := Try.isAgg137
 z222 := Try.sizeOf137
 v222 := Try.zeroValue137
 t228 := Try.underlying139
 a228 := Try.isAgg139
 z228 := Try.sizeOf139
 v228 := Try.zeroValue139
 t229 := Try.underlying43
 a229 := Try.isAgg43
 z229 := Try.sizeOf43
 v229 := Try.zeroValue43 }
open Go.Sort Go.RowKit in
theorem Try.slices_Sort_int (blk off cap : Nat) (zs : List Int) (w : World) (hH : Holds (Value.int .i64) w blk off zs.toArray) (hblk : blk < w.heap.size) (hsz : zs.length < 4611686018427387904) :
  Calls Try.prog 97 #[.slice (some ⟨blk, off, none⟩) zs.length cap] w fun e w' =>
   e = .returned (.tuple #[]) ∧ ∃ n os, w' = grow (putRow (Value.int .i64) (Sort.ahead w n) blk off (zs.mergeSort fun x y => decide (x ≤ y)).toArray) os := Any.slices_Sort_int Try.lays189 blk off cap zs w hH hblk hsz
def Try.lays212_ren : Go.Shelf.Ren := ⟨fun | 212 => 85 | 263 => 94 | 264 => 95 | n => n, fun | 46 => 101 | 51 => 112 | 146 => 113 | 53 => 115 | 148 => 116 | n => n, fun | n => n⟩
theorem Try.lays212 : Go.Proofs.Lays.n212 Try.prog Try.lays212_ren := {
 mixed := by kernel_rfl
 f212 := Try.func85.trans (congrArg some (by kernel_rfl))
 f263 := Try.func94.trans (congrArg some (by kernel_rfl))
 f264 := Try.func95.trans (congrArg some (by kernel_rfl))
 t46 := Try.underlying101
 a46 := Try.isAgg101
 z46 := Try.sizeOf101
 v46 := Try.zeroValue101
 t51 := Try.underlying112
 a51 := Try.isAgg112
 z51 := Try.sizeOf112
 v51 := Try.zeroValue112
 t53 := Try.underlying115
 a53 := Try.isAgg115
 z53 := Try.sizeOf115
 v53 := Try.zeroValue115
 t146 := Try.underlying113
 a146 := Try.isAgg113
 z146 := Try.sizeOf113
 v146 := Try.zeroValue113
 t148 := Try.underlying116
 a148 := Try.isAgg116
 z148 := Try.sizeOf116
 v148 := Try.zeroValue116 }
open Go.RowKit Go.Lib in
theorem Try.bits_Mul (x y : Nat) (hx : x < 18446744073709551616) (hy : y < 18446744073709551616) (w : World) :
  Calls Try.prog 85 #[.int .u64 x, .int .u64 y] w fun e w' => e = .returned (.tuple #[.int .u64 ((x * y / 18446744073709551616 : Nat) : Int), .int .u64 ((x * y % 18446744073709551616 : Nat) : Int)]) ∧ w' = w := Any.bits_Mul Try.lays212 x y hx hy w
def Try.laysNm220_ren : Go.Shelf.Ren := ⟨fun | 20 => 98 | n => n, fun | 22 => 22 | 3 => 3 | 4 => 4 | 0 => 0 | n => n, fun | n => n⟩
theorem Try.laysNm220 : Go.Proofs.Lays2.n20 Try.prog Try.laysNm220_ren := {
 mixed := by kernel_rfl
 f20 := Try.func98.trans (congrArg some (by kernel_rfl))
 t0 := Try.underlying0
 a0 := Try.isAgg0
 z0 := Try.sizeOf0
 v0 := Try.zeroValue0
 t3 := Try.underlying3
 a3 := Try.isAgg3
 z3 := Try.sizeOf3
 v3 := Try.zeroValue3
 t4 := Try.underlying4
 a4 := Try.isAgg4
 z4 := Try.sizeOf4
 v4 := Try.zeroValue4
 t22 := Try.underlying22
 a22 := Try.isAgg22
 z22 := Try.sizeOf22
 v22 := Try.zeroValue22
 i3 := by kernel_rfl }
open Go.RowKit Go.Lib Go.Sort in
theorem Try.slices_Compact_int (blk off cap : Nat) (zs : List Int) (w : World) (hH : Holds (Value.int .i64) w blk off zs.toArray) (hsz : zs.length ≤ 9223372036854775807) (hcap : zs.length ≤ cap) :
  Calls Try.prog 98 #[.slice (some ⟨blk, off, none⟩) zs.length cap] w fun e w' => e = .returned (.slice (some ⟨blk, off, none⟩) (Lib.compact zs).length cap) ∧ ∃ q, w' = putRow (Value.int .i64) (Sort.ahead w q) blk off (Lib.compact zs ++ List.replicate (zs.length - (Lib.compact zs).length) 0).toArray := Any.slices_Compact_int Try.laysNm220 blk off cap zs w hH hsz hcap
open Go.RowKit Go.Lib Go.Sort in
theorem Try.slices_Compact_int_empty (a : Option Addr) (cap : Nat) (w : World) :
  Calls Try.prog 98 #[.slice a 0 cap] w fun e w' => e = .returned (.slice a 0 cap) ∧ w' = w := Any.slices_Compact_int_empty Try.laysNm220 a cap w
open Go.RowKit Go.Sort in
theorem Try.slices_Sort_int_none (p : Option Addr) (cap : Nat) (w : World) :
  Calls Try.prog 97 #[.slice p 0 cap] w fun e w' => e = .returned (.tuple #[]) ∧ w' = w := Any.slices_Sort_int_none Try.lays189 p cap w
end Go.Proofs
end

section
namespace Go.Proofs.Ytkmmihadcbfkoaa.PM
open Go.RowKit Go.Proofs.YtkmmihadcbfkoaaW.PrintWords Go.Proofs.YtkmmihadcbfkoaaW.PrintLast Go.Proofs.YtkmmihadcbfkoaaW.PrintMore
set_option linter.unusedVariables false
set_option linter.unusedSimpArgs false
def errW : Option Int → Value
 | none => .nilIface
 | some c => .iface 0 (.int .i64 c)
theorem errW_none : errW none = .nilIface := rfl
theorem errW_some (c : Int) : errW (some c) = .iface 0 (.int .i64 c) := rfl
theorem info3 : (Try.prog.info? 3).map (fun i => (i.zero, i.size, i.bytes)) = some (some (.int .i64 0), 1, 8) := by kernel_rfl
theorem info4 : (Try.prog.info? 4).map (fun i => (i.zero, i.size, i.bytes)) = some (some (.bool false), 1, 1) := by kernel_rfl
theorem info22 : (Try.prog.info? 22).map (fun i => (i.zero, i.size, i.bytes)) = some (some (.slice none 0 0), 1, 24) := by kernel_rfl
def rd_L1 (xs : List (List Int)) (i : Int) : (List Int) := xs.getD i.toNat ([] : List Int)
theorem at_L1 {w : World} {A : Option Addr} {n : Nat} {xs : List (List Int)} (h : Kd.C (Kd.slice 3 (Kd.int .i64)) w A n xs) (i : Int) (h0 : 0 ≤ i) (h1 : i < n) : ∃ ad A0 c0, A = some ad ∧ w.cell? (ad.add i.toNat) = some (.slice A0 (rd_L1 xs i).length c0) ∧ (rd_L1 xs i).length ≤ c0 ∧ (Kd.int .i64).C w A0 (rd_L1 xs i).length (rd_L1 xs i) := by
 obtain ⟨ad, c, e, _, hK, hc0⟩ := Kd.C_get h ([] : List Int) i h0 h1
 have hc : ∀ j u, c[j]? = some u → w.cell? (ad.add (i.toNat * 1 + j)) = some u := hc0
 obtain ⟨A0, c0, rfl, l0, g0⟩ := hK
 exact ⟨ad, A0, c0, e, by have hq := hc 0 _ rfl; rwa [Nat.mul_one, Nat.add_zero] at hq, l0, g0⟩
structure S50 where
 f0 : Int
 f1 : Int
 f2 : Int
def z50 : S50 := ⟨(0 : Int), (0 : Int), (0 : Int)⟩
def k50 : Kd S50 := Kd.iso (Kd.pair (Kd.int .i64) (Kd.pair (Kd.int .i64) (Kd.int .i64))) (fun x : S50 => (x.f0, x.f1, x.f2))
theorem k50_open {w : World} {x : S50} {cs : List Value} (h : k50.K w x cs) : cs = [.int .i64 x.f0, .int .i64 x.f1, .int .i64 x.f2] := by
 obtain ⟨_, _, rfl, rfl, ⟨_, _, rfl, rfl, rfl⟩⟩ := h
 exact rfl
theorem k50_mk (w : World) (x : S50)  : k50.K w x [.int .i64 x.f0, .int .i64 x.f1, .int .i64 x.f2] := ⟨[.int .i64 x.f0], [.int .i64 x.f1, .int .i64 x.f2], rfl, rfl, ⟨[.int .i64 x.f1], [.int .i64 x.f2], rfl, rfl, rfl⟩⟩
def rd_T50 (xs : List S50) (i : Int) : S50 := xs.getD i.toNat z50
theorem at_T50 {w : World} {A : Option Addr} {n : Nat} {xs : List S50} (h : Kd.C k50 w A n xs) (i : Int) (h0 : 0 ≤ i) (h1 : i < n) : ∃ ad , A = some ad ∧ w.cell? (ad.add (i.toNat * 3)) = some (.int .i64 (rd_T50 xs i).f0) ∧ w.cell? ⟨(ad.add (i.toNat * 3)).block, (ad.add (i.toNat * 3)).off + 1, none⟩ = some (.int .i64 (rd_T50 xs i).f1) ∧ w.cell? ⟨(ad.add (i.toNat * 3)).block, (ad.add (i.toNat * 3)).off + 2, none⟩ = some (.int .i64 (rd_T50 xs i).f2) := by
 obtain ⟨ad, c, e, _, hK, hc0⟩ := Kd.C_get h z50 i h0 h1
 have hc : ∀ j u, c[j]? = some u → w.cell? (ad.add (i.toNat * 3 + j)) = some u := hc0
 obtain rfl := k50_open hK
 exact ⟨ad, e, hc 0 _ rfl, by rw [← add_field _ _ 1 (by omega)]; exact hc 1 _ rfl, by rw [← add_field _ _ 2 (by omega)]; exact hc 2 _ rfl⟩
theorem eqA50 (d : Nat) (w : World) (x0 y0 : Int) (x1 y1 : Int) (x2 y2 : Int) :
  (Op.equalIn (d + 2) 50 (.agg #[.int .i64 x0, .int .i64 x1, .int .i64 x2]) (.agg #[.int .i64 y0, .int .i64 y1, .int .i64 y2])).run Try.prog w = .ok (x0 == y0 && (x1 == y1 && (x2 == y2))) w := by
 refine eqA_of Try.underlying50 (by kernel_rfl) ?_
 refine eqf_cons (by rfl) (by go_simp; rfl) (by go_simp; rfl) (by go_simp) ?_
 refine eqf_cons (by rfl) (by go_simp; rfl) (by go_simp; rfl) (by go_simp) ?_
 exact eqf_last (by rfl) (by go_simp; rfl) (by go_simp; rfl) (by go_simp)
end Go.Proofs.Ytkmmihadcbfkoaa.PM
end

section
namespace Go.Proofs.Ytkmmihadcbfkoaa
open Go.RowKit Go.Proofs.YtkmmihadcbfkoaaW.PrintWords PM
set_option linter.unusedVariables false
set_option linter.unusedSimpArgs false
theorem mul_one_hi (n : Nat) (h : n ≤ 1000000) : (((1 * n / 18446744073709551616 : Nat)) : Int) = 0 := by
 rw [Nat.one_mul, Nat.div_eq_of_lt (by omega)]; rfl
theorem mul_one_lo (n : Nat) (h : n ≤ 1000000) : (((1 * n % 18446744073709551616 : Nat)) : Int) = (n : Int) := by
 rw [Nat.one_mul, Nat.mod_eq_of_lt (by omega)]
theorem trinfo4 : (Try.prog.info? 4).map (fun i => (i.zero, i.size, i.bytes)) = some (some (.bool false), 1, 1) := by kernel_rfl
theorem make_row {t e : TypeId} {z : Value} {by_ : Nat} (ht : Try.prog.underlying t = some (.slice e)) (hi : (Try.prog.info? e).map (fun i => (i.zero, i.size, i.bytes)) = some (some z, 1, by_)) (hz : z.cells = #[z]) (n : Nat) (hn : (by_ : Int) * (n : Int) ≤ 281474976710656) (hn2 : n ≤ 1000000) (w : World) :
  (Instr.makeSlice t (.int .i64 (n : Int)) (.int .i64 (n : Int))).run Try.prog w = .ok (.slice (some ⟨w.heap.size, 0, none⟩) n n) (w.alloc (.cells (List.replicate n z).toArray e)) := by
 obtain ⟨i0, hi0, hz0, hz1, hz2⟩ := info_parts hi
 have h := run_make (P := Try.prog) w t e i0 z ht hi0 hz0 .i64 .i64 n n (by omega) (Int.le_refl _) (by rw [hz2]; exact hn) (by omega)
 have e : madeCells #[z] n = (List.replicate n z).toArray := by
  apply Array.toList_inj.1
  rw [toList_madeCells_one]
 rw [h, hz, hz1, Int.toNat_natCast, Nat.mul_one, e]
def half (v : Int) (n k : Nat) : List Value := List.replicate k (.int .i64 v) ++ List.replicate (n - k) (.int .i64 0)
theorem half_length {v : Int} {n k : Nat} (h : k ≤ n) : (half v n k).length = n := by simp [half]; omega
theorem half_splice {v : Int} {n k m : Nat} (h : k + m ≤ n) : splice (half v n k) k (List.replicate m (Value.int .i64 v)) = half v n (k + m) := by
 unfold splice half
 rw [List.take_append_of_le_length (by simp), List.drop_append]
 simp only [List.length_replicate, List.take_replicate, List.drop_replicate, Nat.min_self]
 rw [show k - (k + m) = 0 from by omega, show n - k - (k + m - k) = n - (k + m) from by omega, List.replicate_zero, List.nil_append, ← List.append_assoc, List.replicate_append_replicate]
theorem half_get {v : Int} {n k j : Nat} (h : j < k) : (half v n k)[j]? = some (Value.int .i64 v) := by
 unfold half
 rw [List.getElem?_append_left (by simpa using h)]
 simp [h]
theorem half_zero (v : Int) (n : Nat) : half v n 0 = List.replicate n (Value.int .i64 0) := by simp [half]
theorem half_all (v : Int) (n : Nat) : half v n n = List.replicate n (Value.int .i64 v) := by simp [half]
set_option maxRecDepth 100000 in
set_option maxHeartbeats 2000000 in
theorem repeat_calls (b : Nat) (v : Int) (n : Nat) (hn : n ≤ 1000000) (w : World) (hc : w.cell? ⟨b, 0, none⟩ = some (.int .i64 v)) :
  Calls Try.prog 54 #[.slice (some ⟨b, 0, none⟩) 1 1, .int .i64 n] w fun e w' => ∃ bh, e = .returned (.slice (some ⟨bh, 0, none⟩) n n) ∧ w.heap.size ≤ bh ∧ w'.heap[bh]? = some (.cells (List.replicate n (Value.int .i64 v)).toArray 3 (0, 0)) ∧ Below w.heap.size w w' := by
 have h1 := mul_one_hi n hn
 have h2 := mul_one_lo n hn
 have MU := Try.bits_Mul 1 n (by omega) (by omega) w
 rw [h1, h2] at MU
 clear h1 h2
 have hmk := make_row (t := 22) (e := 3) Try.underlying22 itinfo3 rfl n (by show (8 : Int) * (n : Int) ≤ _; omega) hn w
 have hbl := World.block_lt_of_cell? w _ hc
 go_enter Try.func54, Try.ntmps54
 go_wp2_with fail
 refine MU.mono ?_
 clear MU
 rintro e w' ⟨rfl, rfl⟩
 have hg := World.alloc_heap_new w' (.cells (List.replicate n (Value.int .i64 0)).toArray 3)
 have hB := (Below.refl w'.heap.size w').alloc (Nat.le_refl _) (.cells (List.replicate n (Value.int .i64 0)).toArray 3)
 have hc1 := (hB.cell (p := ⟨b, 0, none⟩) hbl).trans hc
 rw [← half_zero v] at hg hB hc1 hmk
 have HG := Go.Lib.hid hg
 have HB := Go.Lib.hid hB
 have HC := Go.Lib.hid hc1
 clear hg hB hc1
 obtain ⟨k0, hk0e⟩ : ∃ k0, k0 = Nat.min 1 n := ⟨_, rfl⟩
 have hkk : k0 ≤ n ∧ k0 ≤ 1 ∧ (0 < k0 ∨ n = 0) := by rw [hk0e]; refine ⟨Nat.min_le_right _ _, Nat.min_le_left _ _, ?_⟩; show 0 < min 1 n ∨ n = 0; omega
 have HKE := Go.Lib.hid hk0e
 have HKK := Go.Lib.hid hkk
 clear hk0e hkk
 go_wp2_with (with_reducible refine wpList_copy_splice rfl _ _ 22 22 rfl 3 Try.underlying22 (by kernel_rfl) (some ⟨w'.heap.size, 0, none⟩) (some ⟨b, 0, none⟩) n n 1 1 rfl rfl w'.heap.size 0 (half v n 0) 3 HG.out (List.replicate k0 (Value.int .i64 v)) (by rw [List.length_replicate]; exact HKE.out) ?_ ?_ ?_ w'.heap.size w' HB.out (Nat.le_refl _) ?_)
 ·
  intro h0 j u hj
  have : j < 1 := by
   have := (List.getElem?_eq_some_iff.1 hj).1
   have h1 := HKK.out.2.1
   simp at this
   omega
  obtain rfl : j = 0 := by omega
  have hju : u = .int .i64 v := by
   have := List.mem_of_getElem? hj
   exact (List.mem_replicate.1 this).2
  rw [hju]
  exact hc
 ·
  have := HKK.out.1
  rw [half_length (by omega), List.length_replicate]; omega
 ·
  intro u hu; rw [(List.mem_replicate.1 hu).2]; rfl
 intro w1 hg1 hb1
 rw [half_splice (by have := HKK.out.1; omega), Nat.zero_add] at hg1
 have hk0 : k0 ≤ n ∧ (0 < k0 ∨ n = 0) := ⟨HKK.out.1, HKK.out.2.2⟩
 have HG1 := Go.Lib.hid hg1
 have HB1 := Go.Lib.hid hb1
 have HK := Go.Lib.hid hk0
 clear hg1 hb1 hk0 hmk
 go_wp2_with fail
 go_loopw [8] (fun i wr => ∃ k : Nat, i = .int .i64 k ∧ Hid (k ≤ n ∧ (0 < k ∨ n = 0)) ∧ Hid (wr.heap[w'.heap.size]? = some (.cells (half v n k).toArray 3 (0, 0))) ∧ Below w'.heap.size w' wr) (fun i _ => n - (intOf i).toNat)
 case atStart => exact ⟨k0, rfl, HK.out, HG1.out, HB1.out⟩
 obtain ⟨k, rfl, HK2, HG2, hb2⟩ := hrel
 obtain ⟨hk1, hk2⟩ := HK2.out
 by_cases hlt : k < n
 rotate_left
 ·
  obtain rfl : k = n := by omega
  have HB2 := Go.Lib.hid hb2
  clear hb2 hk2
  go_wp2_with fail
  go_ret
  exact ⟨w'.heap.size, rfl, Nat.le_refl _, by rw [← half_all]; exact HG2.out, HB2.out⟩
 have hkp : 0 < k := by omega
 have HB2 := Go.Lib.hid hb2
 clear hb2 hk2
 go_wp2_with fail
 have HG3 : Hid (wr.drew.heap[w'.heap.size]? = some (.cells (half v n k).toArray 3 (0, 0))) := HG2
 have HB3 := Go.Lib.hid (HB2.out.drew)
 have hle : Nat.min k (n - k) ≤ k := Nat.min_le_left _ _
 have hle2 : Nat.min k (n - k) ≤ n - k := Nat.min_le_right _ _
 have hpos : 0 < Nat.min k (n - k) := by show 0 < min k (n - k); omega
 have S1 : 0 < (List.replicate (Nat.min k (n - k)) (Value.int .i64 v)).length → (some (⟨w'.heap.size, k, none⟩ : Addr)) = some ⟨w'.heap.size, k, none⟩ ∧ ∃ ad, (some (⟨w'.heap.size, 0, none⟩ : Addr)) = some ad ∧ ∀ j u, (List.replicate (Nat.min k (n - k)) (Value.int .i64 v))[j]? = some u → wr.drew.cell? (ad.add j) = some u := by
  intro _
  refine ⟨rfl, _, rfl, fun j u hj => ?_⟩
  have hjl := (List.getElem?_eq_some_iff.1 hj).1
  rw [List.length_replicate] at hjl
  have hju : u = .int .i64 v := (List.mem_replicate.1 (List.mem_of_getElem? hj)).2
  rw [hju, add_plain]
  have hg := HG2.out
  have hh := half_get (v := v) (n := n) (k := k) (j := j) (by omega)
  show wr.cell? _ = _
  simp only [World.cell?, hg]
  simpa using hh
 have S2 : k + (List.replicate (Nat.min k (n - k)) (Value.int .i64 v)).length ≤ (half v n k).length := by rw [half_length hk1, List.length_replicate]; omega
 have S3 : ∀ u ∈ List.replicate (Nat.min k (n - k)) (Value.int .i64 v), u.oneCell' = true := by
  intro u hu
  rw [(List.mem_replicate.1 hu).2]; rfl
 have S0 : (List.replicate (Nat.min k (n - k)) (Value.int .i64 v)).length = Nat.min k (n - k) := List.length_replicate
 obtain ⟨m, hm⟩ : ∃ m, m = Nat.min k (n - k) := ⟨_, rfl⟩
 have HM := Go.Lib.hid hm
 rw [← hm] at S1 S2 S3 hle hle2 hpos
 replace S0 : (List.replicate m (Value.int .i64 v)).length = Nat.min k (n - k) := by rw [List.length_replicate]; exact hm
 have hnk : ¬ n = k := by omega
 have HS0 := Go.Lib.hid S0
 have HS1 := Go.Lib.hid S1
 have HS2 := Go.Lib.hid S2
 have HS3 := Go.Lib.hid S3
 clear hm S0 S1 S2 S3
 go_region_held3 (fun w' => True) (first | trivial) ((refine step_copy_splice (by rfl) _ _ 22 22 (by rfl) 3 Try.underlying22 (by kernel_rfl) (some ⟨w'.heap.size, k, none⟩) (some ⟨w'.heap.size, 0, none⟩) (n - k) (n - k) k n (by rfl) (by rfl) w'.heap.size k (half v n k) 3 HG3.out (List.replicate m (Value.int .i64 v)) HS0.out HS1.out HS2.out HS3.out w'.heap.size w' HB3.out (Nat.le_refl _) ?_; intro w2 hg2 hb2))
 rw [half_splice (by omega)] at hg2
 have hwr : IntKind.i64.wrap ((k : Int) + (m : Int)) = (k : Int) + (m : Int) := by rw [IntKind.wrap_i64]; omega
 have HG5 := Go.Lib.hid hg2
 have HB5 := Go.Lib.hid hb2
 clear hg2 hb2
 go_wp2_with fail
 go_roundw
 case rel => exact ⟨k + m, by simp [hwr], ⟨by omega, by omega⟩, HG5.out, HB5.out⟩
 case measure => simp [intOf, hwr]; omega
def rooms (l : List S50) : List Int := l.map fun s => s.f2
structure Trial (n0w : Nat) (s0 s1 s2 : Value) (room : List Int) (nh : Nat) (g bh : Nat) (vr : Value) (ch : Nat) (w : World) : Prop where
 gb : w.heap[g]? = some (.cells #[s0, s1, s2, vr, .slice (some ⟨bh, 0, none⟩) nh ch] 80 (0, 0))
 gl : n0w ≤ g
 hl : n0w ≤ bh
 room : w.ownsRow n0w 3 1 vr room.length (room.map (Value.int .i64))
 ne : vr.ownBlock ≠ some bh
set_option maxRecDepth 100000 in
set_option maxHeartbeats 4000000 in
theorem tried_calls (A0 : Option Addr) (n0 c0 : Nat) (A1 : Option Addr) (c1 : Nat) (l1 : List S50) (A2 : Option Addr) (n2 c2 : Nat) (w : World) (hn0 : n0 ≤ 1000000) (hn1 : l1.length ≤ 1000000) (hr1 : Kd.C k50 w A1 l1.length l1) :
  Calls Try.prog 60 #[.agg #[.slice A0 n0 c0, .slice A1 l1.length c1, .slice A2 n2 c2]] w fun e w' => ∃ g bh vr, e = .returned (.pointer (some ⟨g, 0, none⟩)) ∧ Trial w.heap.size (.slice A0 n0 c0) (.slice A1 l1.length c1) (.slice A2 n2 c2) (rooms l1) n0 g bh vr n0 w' ∧ RowAt w' bh 3 (Value.int .i64) (List.replicate n0 (-1)) ∧ Below w.heap.size w w' := by
 have HR1 := Go.Lib.hid hr1
 clear hr1
 go_enter Try.func60, Try.ntmps60
 go_wp2_with fail
 have b0 := World.alloc_heap_new w (.cells #[.slice A0 n0 c0, .slice A1 l1.length c1, .slice A2 n2 c2] 26)
 have e0 : (w.alloc (.cells #[.slice A0 n0 c0, .slice A1 l1.length c1, .slice A2 n2 c2] 26)).cell? ⟨w.heap.size, 0, none⟩ = some (.slice A0 n0 c0) := cell_of_heap b0 rfl
 have e1 : (w.alloc (.cells #[.slice A0 n0 c0, .slice A1 l1.length c1, .slice A2 n2 c2] 26)).cell? ⟨w.heap.size, 1, none⟩ = some (.slice A1 l1.length c1) := cell_of_heap b0 rfl
 have e2 : (w.alloc (.cells #[.slice A0 n0 c0, .slice A1 l1.length c1, .slice A2 n2 c2] 26)).cell? ⟨w.heap.size, 2, none⟩ = some (.slice A2 n2 c2) := cell_of_heap b0 rfl
 have hB0 := (Below.refl w.heap.size w).alloc (Nat.le_refl _) (.cells #[.slice A0 n0 c0, .slice A1 l1.length c1, .slice A2 n2 c2] 26)
 obtain ⟨w1, hw1⟩ : ∃ w1, w.alloc (.cells #[.slice A0 n0 c0, .slice A1 l1.length c1, .slice A2 n2 c2] 26) = w1 := ⟨_, rfl⟩
 have hsz : w1.heap.size = w.heap.size + 1 := by rw [← hw1]; simp
 rw [hw1] at e0 e1 e2 hB0 ⊢
 have HB0 := Go.Lib.hid hB0
 have HW1 := Go.Lib.hid hw1
 have hlt1 : w.heap.size < w1.heap.size := by omega
 have HSZ := Go.Lib.hid hsz
 have hcm : (w1.alloc (.cells #[.int .i64 (-1)] 3)).drew.cell? ⟨w1.heap.size, 0, none⟩ = some (.int .i64 (-1)) := (Boxed.new w1 3 (.int .i64 (-1))).cell
 have RC := repeat_calls w1.heap.size (-1) n0 hn0 _ hcm
 have hBm := below_of_drew ((Below.refl w.heap.size (w1.alloc (.cells #[.int .i64 (-1)] 3)).drew))
 have HB1 := Go.Lib.hid (hB0.alloc (by omega) (.cells #[.int .i64 (-1)] 3))
 clear b0 hB0 hw1 hsz hcm hBm
 go_region_held3 (fun w' => w'.cell? ⟨w.heap.size, 0, none⟩ = some (.slice A0 n0 c0) ∧ w'.cell? ⟨w.heap.size, 1, none⟩ = some (.slice A1 l1.length c1) ∧ w'.cell? ⟨w.heap.size, 2, none⟩ = some (.slice A2 n2 c2))
  (go_keep)
  (first | (go_at_call 54; refine RC.mono ?_; rintro e w2 ⟨bh, rfl, hbh, hrow, hb2⟩; have hb := below_of_drew hb2; clear hb2; have k1 := hb.cell (p := ⟨w.heap.size, 0, none⟩) (by simp; omega); have k2 := hb.cell (p := ⟨w.heap.size, 1, none⟩) (by simp; omega); have k3 := hb.cell (p := ⟨w.heap.size, 2, none⟩) (by simp; omega)))
 have hszr : w1.heap.size ≤ bh := by simp at hbh; omega
 have hbl : bh < w2.heap.size := (Array.getElem?_eq_some_iff.1 hrow).1
 have hBw2 : Below w.heap.size w w2 := HB1.out.trans ⟨hb.os, hb.tape, hb.output, hb.size, fun k hk => hb.block k (by simp; omega)⟩
 have hrow2 : RowAt w2 bh 3 (Value.int .i64) (List.replicate n0 (-1)) := ⟨_, hrow, fun j hj => by simp at hj; simp [hj]⟩
 have HROW := Go.Lib.hid hrow2
 have HBW2 := Go.Lib.hid hBw2
 clear hrow hrow2 hBw2 hb k1 k2 k3 hbh RC
 go_wp2_with fail
 obtain ⟨g, hg⟩ : ∃ g, w2.heap.size = g := ⟨_, rfl⟩
 obtain ⟨w3, hw3⟩ : ∃ w3, w2.alloc (.cells #[.slice A0 n0 c0, .slice A1 l1.length c1, .slice A2 n2 c2, .slice none 0 0, .slice (some ⟨bh, 0, none⟩) n0 n0] 80) = w3 := ⟨_, rfl⟩
 have hB3 : Below w.heap.size w w3 := by rw [← hw3]; exact HBW2.out.alloc (HBW2.out.size) _
 have hRow3 : RowAt w3 bh 3 (Value.int .i64) (List.replicate n0 (-1)) := by rw [← hw3]; exact HROW.out.below ((Below.refl _ _).alloc (Nat.le_refl _) _)
 have hT3 : Trial w.heap.size (.slice A0 n0 c0) (.slice A1 l1.length c1) (.slice A2 n2 c2) ((rooms l1).take 0) n0 g bh (.slice none 0 0) n0 w3 := by
  rw [← hw3, ← hg]
  exact ⟨World.alloc_heap_new _ _, HBW2.out.size, by omega, by simpa using World.ownsRow_nil _ _ _ _, by simp [Value.ownBlock]⟩
 rw [hw3, hg]
 have hne : bh ≠ g := by omega
 have hle1 : (l1.length : Int) ≤ 9223372036854775807 := by omega
 have HT3 := Go.Lib.hid hT3
 have HR3 := Go.Lib.hid hRow3
 have HB3 := Go.Lib.hid hB3
 have HG := Go.Lib.hid hg
 have HW3 := Go.Lib.hid hw3
 clear hT3 hRow3 hB3 hg hw3 hbl
 obtain ⟨i0, hi0, hz0, hz1, hz2⟩ := info_parts itinfo3
 go_loopw [17] (fun i wr => ∃ k : Nat, k ≤ l1.length ∧ i = .int .i64 k ∧ Hid (∃ vr, Trial w.heap.size (.slice A0 n0 c0) (.slice A1 l1.length c1) (.slice A2 n2 c2) ((rooms l1).take k) n0 g bh vr n0 wr ∧ RowAt wr bh 3 (Value.int .i64) (List.replicate n0 (-1)) ∧ Below w.heap.size w wr)) (fun i _ => l1.length - (intOf i).toNat)
 case atStart => exact ⟨0, Nat.zero_le _, rfl, ⟨_, HT3.out, HR3.out, HB3.out⟩⟩
 obtain ⟨k, hk, rfl, HID⟩ := hrel
 obtain ⟨vr, hT, hRo, hBo⟩ := HID.out
 by_cases hlt : k < l1.length
 rotate_left
 ·
  obtain rfl : k = l1.length := by omega
  have hlr : (rooms l1).take l1.length = rooms l1 := List.take_of_length_le (by simp [rooms])
  rw [hlr] at hT
  have HT := Go.Lib.hid hT
  have HRo := Go.Lib.hid hRo
  have HBo := Go.Lib.hid hBo
  clear hT hRo hBo HID hlr
  go_wp2_with fail
  go_ret
  exact ⟨g, bh, vr, rfl, HT.out, HRo.out, HBo.out⟩
 obtain ⟨a9, e9, x0, x1, x2⟩ := at_T50 (Kd.C_below HR1.out hBo) (k : Int) (by omega) (by omega)
 rw [Int.toNat_natCast] at x0 x1 x2
 obtain ⟨s9, hs9⟩ : ∃ s9, rd_T50 l1 (k : Int) = s9 := ⟨_, rfl⟩
 rw [hs9] at x0 x1 x2
 have hgne : vr.ownBlock ≠ some g := fun e => by
  obtain ⟨cells, hcl⟩ := own_typed hT.room g e
  have hg2 := hT.gb
  rw [hcl] at hg2
  injection hg2 with hg2
  injection hg2 with _ hg2
  exact absurd hg2 (by decide)
 have hlr : ((rooms l1).take k).length = k := by simp [rooms]; omega
 obtain ⟨A7, c7, e7⟩ := own_slice hT.room
 rw [hlr] at e7
 have z1 : wr.cell? ⟨g, 3, none⟩ = some (.slice A7 k c7) := by rw [← e7]; exact cell_of_heap hT.gb rfl
 have z2 : wr.frozen? ⟨g, 3, none⟩ = false := frozen_of_heap hT.gb
 have hgl := (Array.getElem?_eq_some_iff.1 hT.gb).1
 have HS9 := Go.Lib.hid hs9
 have HT := Go.Lib.hid hT
 have HRo := Go.Lib.hid hRo
 have HBo := Go.Lib.hid hBo
 have HGN := Go.Lib.hid hgne
 have HE7 := Go.Lib.hid e7
 have HLR := Go.Lib.hid hlr
 clear hs9 hT hRo hBo HID hgne e7 hlr
 subst e9
 go_wp2_with fail
 obtain ⟨w4, hw4⟩ : ∃ w4, wr.alloc (.cells #[.int .i64 s9.f0, .int .i64 s9.f1, .int .i64 s9.f2] 50) = w4 := ⟨_, rfl⟩
 have hB4 := (Below.refl wr.heap.size wr).alloc (Nat.le_refl _) (.cells #[.int .i64 s9.f0, .int .i64 s9.f1, .int .i64 s9.f2] 50)
 have b4 := World.alloc_heap_new wr (.cells #[.int .i64 s9.f0, .int .i64 s9.f1, .int .i64 s9.f2] 50)
 have hsz4 : w4.heap.size = wr.heap.size + 1 := by rw [← hw4]; simp
 rw [hw4] at hB4 b4 ⊢
 have y1 := (hB4.cell (p := ⟨g, 3, none⟩) hgl).trans z1
 have y2 := (hB4.frozen (p := ⟨g, 3, none⟩) hgl).trans z2
 have y3 : w4.cell? ⟨wr.heap.size, 2, none⟩ = some (.int .i64 s9.f2) := cell_of_heap b4 rfl
 have hown4 := pw_own_below (HT.out.room) hB4
 rw [HE7.out, HLR.out] at hown4
 have hgl4 : g < w4.heap.size := by omega
 have hrl4 : wr.heap.size < w4.heap.size := by omega
 have HB4 := Go.Lib.hid hB4
 have HO4 := Go.Lib.hid hown4
 have hgn7 : (Value.slice A7 k c7).ownBlock ≠ some g := by rw [← HE7.out]; exact HGN.out
 have HG7 := Go.Lib.hid hgn7
 have hgn8 : (Value.slice A7 k c7).ownBlock ≠ some wr.heap.size := fun e => by
  rw [← HE7.out] at e
  exact absurd (own_lt HT.out.room _ e) (by omega)
 have HG8 := Go.Lib.hid hgn8
 clear hgn8
 have hb4l : w.heap.size ≤ w4.heap.size := Nat.le_trans HBo.out.size (by omega)
 have HSZ4 := Go.Lib.hid hsz4
 have y4 : (w4.alloc (.cells #[.int .i64 s9.f2] 3)).drew.frozen? ⟨g, 3, none⟩ = false := (((Below.refl w4.heap.size w4).alloc (Nat.le_refl _) (.cells #[.int .i64 s9.f2] 3)).frozen (p := ⟨g, 3, none⟩) hgl4).trans y2
 clear hB4 b4 hown4 hw4 z1 z2 x0 x1 x2 hgn7 hsz4
 have s1 : k + 1 ≤ maxLen := by unfold maxLen; omega
 have s2 : (k + 1) * 8 ≤ 140737488355328 := by omega
 have s3 : w.heap.size ≤ (w4.alloc (.cells #[.int .i64 s9.f2] 3)).drew.heap.size := by simp; omega
 have s4 : (w4.alloc (.cells #[.int .i64 s9.f2] 3)).drew.heap.size = w4.heap.size + 1 := by simp
 have s5 : ∀ u ∈ [Value.int .i64 s9.f2], u.oneCell' = true := by simp [Value.oneCell']
 have S4 := Go.Lib.hid s4
 have S5 := Go.Lib.hid s5
 clear s4 s5
 go_region_law ((refine step_append_lies _ (by rfl) _ _ 22 (by rfl) w.heap.size 3 i0 _ 1 8 Try.underlying22 hi0 hz0 hz1 hz2 rfl (by omega) (.slice A7 k c7) k _ (by rfl) ((HO4.out.alloc _).drew) ⟨w4.heap.size, 0, none⟩ 1 1 [.int .i64 s9.f2] (by rfl) (by rfl) (World.news_of_block (cs := #[.int .i64 s9.f2]) (t := 3) (fr := (0, 0)) (heap_alloc_new w4 _)) S5.out (by omega) s1 s2 s3 (w4.heap.size + 1) S4.out ?_; intro gg cap w5 hown5 hgrow hat hltg; have k1 := (hgrow.cell_far ⟨g, 3, none⟩ (by simp; omega) (Ne.symm HG7.out)).trans ((((Below.refl w4.heap.size w4).alloc (Nat.le_refl _) (.cells #[.int .i64 s9.f2] 3)).cell (p := ⟨g, 3, none⟩) hgl4).trans y1); have k2 := (hgrow.frozen_far ⟨g, 3, none⟩ (by simp; omega) (Ne.symm HG7.out)).trans y4))
 all_goals
  have HO5 := Go.Lib.hid hown5
  have HGR := Go.Lib.hid hgrow
  have HAT := Go.Lib.hid hat
  clear hown5 hgrow hat
  go_wp2_with fail
  go_roundw
  case rel =>
   have hB4' := HB4.out
   have hgb4 : w4.heap[g]? = some (.cells #[.slice A0 n0 c0, .slice (some a9) l1.length c1, .slice A2 n2 c2, .slice A7 k c7, .slice (some ⟨bh, 0, none⟩) n0 n0] 80 (0, 0)) := by
    rw [← HE7.out]; exact (hB4'.block g hgl).trans HT.out.gb
   have hnegg : gg ≠ g := fun e => by
    rcases HAT.out with h | h
    ·
     rw [e] at h; exact HG7.out h
    ·
     omega
   have hbhl : bh < wr.heap.size := HRo.out.lt
   have hnegb : gg ≠ bh := fun e => by
    rcases HAT.out with h | h
    ·
     rw [e, ← HE7.out] at h; exact HT.out.ne h
    ·
     omega
   have hblk : ∀ q, q < w4.heap.size → some q ≠ (Value.slice A7 k c7).ownBlock → w5.heap[q]? = w4.heap[q]? := fun q hq hn => (HGR.out.block q (by simp; omega) hn).trans (Below.heap_alloc _ _ _ hq)
   have hB5 : Below w.heap.size w w5 := by
    refine (HBo.out.trans (hB4'.mono HBo.out.size)).trans ⟨HGR.out.os, HGR.out.tape, HGR.out.output, ?_, fun q hq => hblk q (by omega) fun e => ?_⟩
    ·
     have := HGR.out.size; simp at this; omega
    ·
     have := own_base HO4.out q e.symm; omega
   have hgb5 : w5.heap[g]? = some (.cells #[.slice A0 n0 c0, .slice (some a9) l1.length c1, .slice A2 n2 c2, .slice A7 k c7, .slice (some ⟨bh, 0, none⟩) n0 n0] 80 (0, 0)) := (hblk g (by omega) (Ne.symm HG7.out)).trans hgb4
   refine ⟨k + 1, by omega, by simp, ⟨.slice (some ⟨gg, 0, none⟩) (k + 1) cap, ⟨?_, HT.out.gl, HT.out.hl, ?_, ?_⟩, ?_, ?_⟩⟩
   ·
    simp [World.setCell, Array.getElem?_modify, hgb5]
   ·
    have htk : (rooms l1).take (k + 1) = (rooms l1).take k ++ [s9.f2] := by
     rw [List.take_succ_eq_append_getElem (by simp [rooms]; omega)]
     congr 2
     rw [← HS9.out]
     simp [rooms, rd_T50, List.getD_eq_getElem?_getD, List.getElem?_eq_getElem hlt]
    rw [htk, List.length_append, HLR.out, List.map_append]
    exact own_move HO5.out fun q hq => by
     have : gg = q := by simpa [Value.ownBlock] using hq
     subst this
     exact Below.heap_setCell _ _ _ _ hnegg
   ·
    simp [Value.ownBlock]; exact hnegb
   ·
    refine HRo.out.same ?_
    rw [Below.heap_setCell _ _ _ _ (show bh ≠ (⟨g, 3, none⟩ : Addr).block from hne)]
    exact (hblk bh (by omega) (fun e => HT.out.ne (by rw [HE7.out]; exact e.symm))).trans (hB4'.block bh hbhl)
   ·
    exact hB5.setCell (p := ⟨g, 3, none⟩) HT.out.gl _
  case measure => simp [intOf]; omega
end Go.Proofs.Ytkmmihadcbfkoaa
end

section
namespace Go.Proofs.Ytkmmihadcbfkoaa
open Go.RowKit Go.Sort Go.Proofs.YtkmmihadcbfkoaaW.PrintWords
set_option linter.unusedVariables false
set_option linter.unusedSimpArgs false
theorem own_holds {w : World} {base g n cap : Nat} {zs : List Int} (h : w.ownsRow base 3 1 (.slice (some ⟨g, 0, none⟩) n cap) n (zs.map (Value.int .i64))) : Holds (Value.int .i64) w g 0 zs.toArray := by
 intro j hj
 have hj' : j < zs.length := by simpa using hj
 have hl : zs.length = n := by have := h.1; simpa using this
 have hc := h.cells (g := g) rfl j (.int .i64 zs[j]) (by simp [List.getElem?_eq_getElem hj'])
 refine ⟨?_, ?_⟩
 ·
  rw [Nat.zero_add]
  rw [add_plain] at hc
  rw [hc]
  congr 2
  rw [getElem!_pos _ j hj]
  simp
 rcases h.2 with ⟨h1, _⟩ | ⟨g', cap', cur, h1, _, hh, _⟩
 ·
  cases h1
 injection h1 with h1
 injection h1 with h1
 injection h1 with h1
 subst h1
 exact frozen_of_heap hh
theorem own_put {w : World} {base g n cap : Nat} {xs : List Value} (h : w.ownsRow base 3 1 (.slice (some ⟨g, 0, none⟩) n cap) n xs) (d : Array Int) (hd : d.size = n) (q : Nat) (os : Array Obj) :
  (grow (putRow (Value.int .i64) (Sort.ahead w q) g 0 d) os).ownsRow base 3 1 (.slice (some ⟨g, 0, none⟩) n cap) n (d.toList.map (Value.int .i64)) ∧ w.grownBy (grow (putRow (Value.int .i64) (Sort.ahead w q) g 0 d) os) (some g) := by
 rcases h.2 with ⟨h1, _⟩ | ⟨g', cap', cur, h1, hb, hh, h3, h4, h5, h6⟩
 ·
  cases h1
 injection h1 with h1 h1b h1c
 injection h1 with h1
 injection h1 with h1
 subst h1; subst h1c
 have hgl := (Array.getElem?_eq_some_iff.1 hh).1
 have hheap : ∀ k, (putRow (Value.int .i64) (Sort.ahead w q) g 0 d).heap[k]? = if k = g then some (.cells (putCells (Value.int .i64) 0 d cur) 3 (0, 0)) else w.heap[k]? := fun k => by
  show (w.heap.modify g _)[k]? = _
  rw [Array.getElem?_modify]
  by_cases e : g = k
  ·
   subst e
   simp [hh, onCells]
  ·
   simp [e, Ne.symm e]
 have hsz : (putRow (Value.int .i64) (Sort.ahead w q) g 0 d).heap.size = w.heap.size := by
  show (w.heap.modify g _).size = _
  simp
 have hgr : ∀ k, k < w.heap.size → (grow (putRow (Value.int .i64) (Sort.ahead w q) g 0 d) os).heap[k]? = (putRow (Value.int .i64) (Sort.ahead w q) g 0 d).heap[k]? := fun k hk => by
  show ((putRow (Value.int .i64) (Sort.ahead w q) g 0 d).heap ++ os)[k]? = _
  rw [Array.getElem?_append_left (by omega)]
 refine ⟨⟨by simp [hd], .inr ⟨g, cap, putCells (Value.int .i64) 0 d cur, rfl, hb, ?_, h3, h4, by simp [putCells, h5], ?_⟩⟩, ⟨rfl, rfl, rfl, ?_, ?_⟩⟩
 ·
  rw [hgr g hgl, hheap g, if_pos rfl]
 ·
  apply List.ext_getElem?
  intro j
  by_cases hj : j < n
  rotate_left
  ·
   rw [List.getElem?_eq_none (by simp; omega), List.getElem?_eq_none (by simp; omega)]
  have hj2 : j < cur.size := by omega
  rw [List.getElem?_take, if_pos (by omega), Array.getElem?_toList]
  simp only [putCells, Array.getElem?_mapIdx, Array.getElem?_eq_getElem hj2, Option.map_some]
  rw [if_pos ⟨Nat.zero_le _, by omega⟩, Nat.sub_zero, getElem!_pos d j (by omega)]
  simp [List.getElem?_map, Array.getElem?_eq_getElem (show j < d.size by omega)]
 ·
  show w.heap.size ≤ (grow _ os).heap.size
  rw [size_grow, hsz]
  omega
 intro k hk hne
 rw [hgr k hk, hheap k, if_neg (fun e => hne (by rw [e]))]
theorem own_shrink {w : World} {base g n m cap : Nat} {xs : List Value} (h : w.ownsRow base 3 1 (.slice (some ⟨g, 0, none⟩) n cap) n xs) (hm : m ≤ n) : w.ownsRow base 3 1 (.slice (some ⟨g, 0, none⟩) m cap) m (xs.take m) := by
 rcases h.2 with ⟨h1, _⟩ | ⟨g', cap', cur, h1, hb, hh, h3, h4, h5, h6⟩
 ·
  cases h1
 injection h1 with h1 h1b h1c
 injection h1 with h1
 injection h1 with h1
 subst h1; subst h1c
 have hl := h.1
 refine ⟨by simp; omega, .inr ⟨g, cap, cur, rfl, hb, hh, by omega, h4, h5, ?_⟩⟩
 rw [← h6, List.take_take]
 congr 1
 omega
theorem sort_own {w : World} {base n : Nat} {v : Value} {zs : List Int} (hn : zs.length = n) (hb : n ≤ 10000000) (h : w.ownsRow base 3 1 v n (zs.map (Value.int .i64))) :
  Calls Try.prog 97 #[v] w fun e w' => e = .returned (.tuple #[]) ∧ w'.ownsRow base 3 1 v n ((zs.mergeSort fun x y => decide (x ≤ y)).map (Value.int .i64)) ∧ w.grownBy w' v.ownBlock := by
 rcases h.2 with ⟨rfl, h0⟩ | ⟨g, cap, cur, rfl, hbb, hh, _⟩
 ·
  have hz : zs = [] := List.eq_nil_of_length_eq_zero (by omega)
  subst hz; subst h0
  refine (Try.slices_Sort_int_none none 0 w).mono ?_
  rintro e w' ⟨rfl, rfl⟩
  exact ⟨rfl, by simpa using h, grown_of_below (Below.refl _ _) _⟩
 have hgl := (Array.getElem?_eq_some_iff.1 hh).1
 subst hn
 refine (Try.slices_Sort_int g 0 cap zs w (own_holds h) hgl (by omega)).mono ?_
 rintro e w' ⟨rfl, q, os, rfl⟩
 have H := own_put h (zs.mergeSort fun x y => decide (x ≤ y)).toArray (by simp) q os
 exact ⟨rfl, by simpa using H.1, H.2⟩
theorem compact_le (zs : List Int) : (Lib.compact zs).length ≤ zs.length := by
 unfold Lib.compact Lib.compactUpTo
 rw [List.length_map]
 exact Nat.le_trans (List.length_filter_le _ _) (by simp)
theorem compact_own {w : World} {base n : Nat} {v : Value} {zs : List Int} (hn : zs.length = n) (hb : n ≤ 10000000) (h : w.ownsRow base 3 1 v n (zs.map (Value.int .i64))) :
  Calls Try.prog 98 #[v] w fun e w' => ∃ v', e = .returned v' ∧ w'.ownsRow base 3 1 v' (Lib.compact zs).length ((Lib.compact zs).map (Value.int .i64)) ∧ w.grownBy w' v.ownBlock ∧ v'.ownBlock = v.ownBlock := by
 have hle := compact_le zs
 rcases h.2 with ⟨rfl, h0⟩ | ⟨g, cap, cur, rfl, hbb, hh, hcap, _⟩
 ·
  have hz : zs = [] := List.eq_nil_of_length_eq_zero (by omega)
  subst hz; subst h0
  refine (Try.slices_Compact_int_empty none 0 w).mono ?_
  rintro e w' ⟨rfl, rfl⟩
  exact ⟨_, rfl, World.ownsRow_nil _ _ _ _, grown_of_below (Below.refl _ _) _, rfl⟩
 subst hn
 refine (Try.slices_Compact_int g 0 cap zs w (own_holds h) (by omega) (by omega)).mono ?_
 rintro e w' ⟨rfl, q, rfl⟩
 have H := own_put h (Lib.compact zs ++ List.replicate (zs.length - (Lib.compact zs).length) 0).toArray (by simp; omega) q #[]
 rw [grow_empty] at H
 have H2 := own_shrink H.1 hle
 refine ⟨_, rfl, ?_, H.2, rfl⟩
 rw [List.map_append, List.take_append_of_le_length (by simp), List.take_of_length_le (by simp)] at H2
 exact H2
end Go.Proofs.Ytkmmihadcbfkoaa
end

section
namespace Go.Proofs.Ytkmmihadcbfkoaa
open Go.RowKit Go.Proofs.YtkmmihadcbfkoaaW.PrintWords PM
set_option linter.unusedVariables false
set_option linter.unusedSimpArgs false
structure TL where
 g : Nat
 bh : Nat
 s0 : Value
 A1 : Option Addr
 n1 : Nat
 c1 : Nat
 A2 : Option Addr
 c2 : Nat
 ra : Nat → Option Addr
 rc : Nat → Nat
 Ar : Option Addr
 cr : Nat
 nh : Nat
 ch : Nat
structure TStill (t : TL) (fits : List (List Int)) (room : List Int) (w : World) : Prop where
 f0 : w.cell? ⟨t.g, 0, none⟩ = some t.s0
 f1 : w.cell? ⟨t.g, 1, none⟩ = some (.slice t.A1 t.n1 t.c1)
 f2 : w.cell? ⟨t.g, 2, none⟩ = some (.slice t.A2 fits.length t.c2)
 f3 : w.cell? ⟨t.g, 3, none⟩ = some (.slice t.Ar room.length t.cr)
 f4 : w.cell? ⟨t.g, 4, none⟩ = some (.slice (some ⟨t.bh, 0, none⟩) t.nh t.ch)
 fits : RowsAt w t.A2 t.ra t.rc fits
 room : Kd.C (Kd.int .i64) w t.Ar room.length room
def TStands (t : TL) (fits : List (List Int)) (room : List Int) (w : World) : Prop := ∀ w', Agree t.bh t.bh w w' → TStill t fits room w'
theorem TStands.still {t : TL} {fits : List (List Int)} {room : List Int} {w : World} (h : TStands t fits room w) : TStill t fits room w := h w (Agree.refl _ _ _)
theorem TStands.later {t : TL} {fits : List (List Int)} {room : List Int} {w w' : World} (h : TStands t fits room w) (a : Agree t.bh t.bh w w') : TStands t fits room w' := fun w2 k => h w2 (a.trans k)
structure TFit (t : TL) (fits : List (List Int)) (room : List Int) : Prop where
 slot : ∀ i : Nat, i < fits.length → ∀ j : Nat, j < (fits.getD i []).length → 0 ≤ (fits.getD i []).getD j 0 ∧ (fits.getD i []).getD j 0 < t.n1
 room : room.length = t.n1
 row : ∀ i : Nat, i < fits.length → (fits.getD i []).length ≤ 1000000
 finds : fits.length = t.nh
 ns : t.n1 ≤ 1000
 nh : t.nh ≤ 1000
def lay (t : TL) (Bt Bn Bk bs : Nat) : Lay := { g := t.g, Bt := Bt, Bn := Bn, Bk := Bk, bs := bs, bh := t.bh, ns := t.n1, nh := t.nh, A2 := t.A2, c2 := t.c2, Ar := t.Ar, cr := t.cr, ch := t.ch, ra := t.ra, rc := t.rc }
theorem TFit.fit {t : TL} {fits : List (List Int)} {room : List Int} (h : TFit t fits room) (Bt Bn Bk bs : Nat) : Fit (lay t Bt Bn Bk bs) fits room :=
 ⟨h.slot, h.room, h.row, h.finds, by have := h.ns; show t.n1 ≤ _; omega, by have := h.nh; show t.nh ≤ _; omega⟩
def GivePost (t : TL) (r : SR) (hall : List Int) (w : World) (e : Ending) (w' : World) : Prop :=
 ∃ v, e = .returned (.tuple #[v, .bool r.ok]) ∧ Agree t.bh t.bh w w' ∧ RowAt w' t.bh 3 (Value.int .i64) r.has ∧ w'.ownsRow w.heap.size 3 1 v hall.length (hall.map (Value.int .i64))
structure Begun (t : TL) (w : World) (W : World) : Prop where
 b0 : W.heap[w.heap.size]? = some (.cells #[.pointer (some ⟨t.g, 0, none⟩)] 68 (0, 0))
 b1 : W.heap[w.heap.size + 1]? = some (.cells (Array.replicate t.n1 (Value.bool false)) 4 (0, 0))
 b2 : W.heap[w.heap.size + 1 + 1]? = some (.cells #[.slice (some ⟨w.heap.size + 1, 0, none⟩) t.n1 t.n1] 104 (0, 0))
 b3 : W.heap[w.heap.size + 1 + 1 + 1]? = some (.cells #[.func (.func 96) #[] #[.pointer (some ⟨w.heap.size, 0, none⟩), .pointer (some ⟨w.heap.size + 1 + 1, 0, none⟩), .pointer (some ⟨w.heap.size + 1 + 1 + 1, 0, none⟩)]] 90 (0, 0))
 sz : W.heap.size = w.heap.size + 4
 bl : Below w.heap.size w W
theorem begun (t : TL) (w : World) : Begun t w ((((w.alloc (.cells #[.pointer (some ⟨t.g, 0, none⟩)] 68)).alloc (.cells (Array.replicate t.n1 (Value.bool false)) 4)).alloc (.cells #[.slice (some ⟨w.heap.size + 1, 0, none⟩) t.n1 t.n1] 104)).alloc (.cells #[.func (.func 96) #[] #[.pointer (some ⟨w.heap.size, 0, none⟩), .pointer (some ⟨w.heap.size + 1 + 1, 0, none⟩), .pointer (some ⟨w.heap.size + 1 + 1 + 1, 0, none⟩)]] 90)) := by
 have a0 := World.alloc_heap_new w (.cells #[.pointer (some ⟨t.g, 0, none⟩)] 68)
 generalize hw1 : w.alloc (.cells #[.pointer (some ⟨t.g, 0, none⟩)] 68) = w1 at *
 have s1 : w1.heap.size = w.heap.size + 1 := by rw [← hw1]; simp
 have c1 : Below w.heap.size w w1 := by rw [← hw1]; exact (Below.refl _ w).alloc (Nat.le_refl _) _
 have a1 := World.alloc_heap_new w1 (.cells (Array.replicate t.n1 (Value.bool false)) 4)
 generalize hw2 : w1.alloc (.cells (Array.replicate t.n1 (Value.bool false)) 4) = w2 at *
 have s2 : w2.heap.size = w.heap.size + 1 + 1 := by rw [← hw2]; simp [s1]
 have c2 : Below w1.heap.size w1 w2 := by rw [← hw2]; exact (Below.refl _ w1).alloc (Nat.le_refl _) _
 have a2 := World.alloc_heap_new w2 (.cells #[.slice (some ⟨w.heap.size + 1, 0, none⟩) t.n1 t.n1] 104)
 generalize hw3 : w2.alloc (.cells #[.slice (some ⟨w.heap.size + 1, 0, none⟩) t.n1 t.n1] 104) = w3 at *
 have s3 : w3.heap.size = w.heap.size + 1 + 1 + 1 := by rw [← hw3]; simp [s2]
 have c3 : Below w2.heap.size w2 w3 := by rw [← hw3]; exact (Below.refl _ w2).alloc (Nat.le_refl _) _
 have a3 := World.alloc_heap_new w3 (.cells #[.func (.func 96) #[] #[.pointer (some ⟨w.heap.size, 0, none⟩), .pointer (some ⟨w.heap.size + 1 + 1, 0, none⟩), .pointer (some ⟨w.heap.size + 1 + 1 + 1, 0, none⟩)]] 90)
 generalize hw4 : w3.alloc (.cells #[.func (.func 96) #[] #[.pointer (some ⟨w.heap.size, 0, none⟩), .pointer (some ⟨w.heap.size + 1 + 1, 0, none⟩), .pointer (some ⟨w.heap.size + 1 + 1 + 1, 0, none⟩)]] 90) = w4 at *
 have s4 : w4.heap.size = w.heap.size + 4 := by rw [← hw4]; simp [s3]
 have c4 : Below w3.heap.size w3 w4 := by rw [← hw4]; exact (Below.refl _ w3).alloc (Nat.le_refl _) _
 rw [s1] at a1; rw [s2] at a2; rw [s3] at a3
 refine ⟨?_, ?_, ?_, a3, s4, ((c1.trans (c2.mono (by omega))).trans (c3.mono (by omega))).trans (c4.mono (by omega))⟩
 ·
  exact (((c4.block _ (by omega)).trans (c3.block _ (by omega))).trans (c2.block _ (by omega))).trans a0
 ·
  exact ((c4.block _ (by omega)).trans (c3.block _ (by omega))).trans a1
 exact (c4.block _ (by omega)).trans a2
theorem Begun.agree {t : TL} {w W w' : World} (h : Begun t w W) (hbh : t.bh < w.heap.size) (a : Agree (w.heap.size + 1) t.bh W w') : Agree t.bh t.bh w w' :=
 ⟨a.os.trans h.bl.os, a.tape.trans h.bl.tape, a.output.trans h.bl.output, Nat.le_trans h.bl.size a.size, fun k hk h1 _ => (a.block k (by rw [h.sz]; omega) (by omega) h1).trans (h.bl.block k hk), fun k hk => (a.cells k (by rw [h.sz]; omega)).trans (by rw [h.bl.block k hk])⟩
theorem Begun.stands {t : TL} {fits : List (List Int)} {room : List Int} {w W : World} (h : Begun t w W) (hbh : t.bh < w.heap.size) (hS : TStands t fits room w) :
  Stands (lay t w.heap.size (w.heap.size + 1 + 1) (w.heap.size + 1 + 1 + 1) (w.heap.size + 1)) fits room W := fun w' a => by
 have st := hS w' (h.agree hbh a)
 have hsz := h.sz
 refine ⟨?_, ?_, ?_, st.f2, st.f3, st.f4, st.fits, st.room⟩
 ·
  exact cell_of_heap ((a.block w.heap.size (by omega) (by show w.heap.size ≠ w.heap.size + 1; omega) (by show w.heap.size ≠ t.bh; omega)).trans h.b0) rfl
 ·
  exact cell_of_heap ((a.block (w.heap.size + 1 + 1) (by omega) (by show w.heap.size + 1 + 1 ≠ w.heap.size + 1; omega) (by show w.heap.size + 1 + 1 ≠ t.bh; omega)).trans h.b2) rfl
 ·
  exact cell_of_heap ((a.block (w.heap.size + 1 + 1 + 1) (by omega) (by show w.heap.size + 1 + 1 + 1 ≠ w.heap.size + 1; omega) (by show w.heap.size + 1 + 1 + 1 ≠ t.bh; omega)).trans h.b3) rfl
theorem Begun.turns {t : TL} {w W : World} {has : List Int} (h : Begun t w W) (hH : RowAt w t.bh 3 (Value.int .i64) has) (hl : has.length = t.nh) :
  Turns (lay t w.heap.size (w.heap.size + 1 + 1) (w.heap.size + 1 + 1 + 1) (w.heap.size + 1)) W (List.replicate t.n1 false) has := by
 refine ⟨⟨_, h.b1, fun j hj => ?_⟩, hH.below h.bl, by simp [lay], hl⟩
 simp at hj
 simp [hj]
theorem cnt_replicate (n : Nat) : cnt (List.replicate n false) = n := by simp [cnt]
set_option maxRecDepth 100000 in
set_option maxHeartbeats 4000000 in
theorem give_calls (t : TL) (fits : List (List Int)) (room : List Int) (hF : TFit t fits room) (find : Nat) (hfind : find < t.nh) (has : List Int) (hlh : has.length = t.nh) (w : World)
  (hS : TStands t fits room w) (hH : RowAt w t.bh 3 (Value.int .i64) has) :
  Calls Try.prog 87 #[.pointer (some ⟨t.g, 0, none⟩), .int .i64 find] w (GivePost t (giveR fits room t.n1 find has) (giveH fits room t.n1 find has) w) := by
 have hst := hS.still
 have hf1 := hst.f1
 have hgl := World.block_lt_of_cell? w _ hf1
 have hns := hF.ns
 have hmk := make_row (t := 104) (e := 4) Try.underlying104 trinfo4 rfl t.n1 (by show (1 : Int) * (t.n1 : Int) ≤ _; omega) (by omega) (w.alloc (.cells #[.pointer (some ⟨t.g, 0, none⟩)] 68))
 rw [World.size_alloc] at hmk
 have HS := Go.Lib.hid hS
 have HH := Go.Lib.hid hH
 have HF := Go.Lib.hid hF
 have HLH := Go.Lib.hid hlh
 clear hst hS hH hF hlh
 obtain ⟨r, hr⟩ : ∃ r, giveR fits room t.n1 (find : Int) has = r := ⟨_, rfl⟩
 obtain ⟨hl, hhl⟩ : ∃ hl, giveH fits room t.n1 (find : Int) has = hl := ⟨_, rfl⟩
 rw [hhl, hr]
 unfold giveH at hhl
 rw [hr] at hhl
 have hrk := seekF_ok fits room (t.n1 + 1) (find : Int) (List.replicate t.n1 false) has
 rw [show seekF fits room (t.n1 + 1) (find : Int) (List.replicate t.n1 false) has = r from hr] at hrk
 have HR := Go.Lib.hid hr
 have HHL := Go.Lib.hid hhl
 have HRK := Go.Lib.hid hrk
 clear hr hhl hrk
 go_enter Try.func87, Try.ntmps87
 go_wp2_with fail
 have hbg := begun t w
 generalize (((w.alloc (.cells #[.pointer (some ⟨t.g, 0, none⟩)] 68)).alloc (.cells (Array.replicate t.n1 (Value.bool false)) 4)).alloc (.cells #[.slice (some ⟨w.heap.size + 1, 0, none⟩) t.n1 t.n1] 104)).alloc (.cells #[.func (.func 96) #[] #[.pointer (some ⟨w.heap.size, 0, none⟩), .pointer (some ⟨w.heap.size + 1 + 1, 0, none⟩), .pointer (some ⟨w.heap.size + 1 + 1 + 1, 0, none⟩)]] 90) = W0 at *
 have hbhl := HH.out.lt
 have hSt0 := hbg.stands hbhl HS.out
 have hT0 := hbg.turns HH.out HLH.out
 have SC := seek_calls _ fits room (HF.out.fit _ _ _ _) (t.n1 + 1) (find : Int) (List.replicate t.n1 false) has W0 (by rw [cnt_replicate]; omega) (by omega) (by show (find : Int) < (t.nh : Int); omega) hSt0 hT0
 rw [show seekF fits room (t.n1 + 1) (find : Int) (List.replicate t.n1 false) has = r from HR.out] at SC
 refine SC.mono ?_
 clear SC
 rintro e w1 ⟨rfl, ag, hT1⟩
 have hSt1 := hSt0.later ag
 have HBG := Go.Lib.hid hbg
 have HAG := Go.Lib.hid ag
 have HT1 := Go.Lib.hid hT1
 have HS1 := Go.Lib.hid hSt1
 clear hbg ag hT1 hSt1 hSt0 hT0 hmk hf1
 by_cases hok : r.ok = true
 ·
  have HOK := Go.Lib.hid hok
  rw [hok]
  clear hok
  go_wp2_with fail
  go_ret2
  refine ⟨.slice none 0 0, by rw [HOK.out]; rfl, HBG.out.agree hbhl HAG.out, HT1.out.rh, ?_⟩
  have h := HHL.out
  rw [if_pos HOK.out] at h
  rw [← h]
  exact World.ownsRow_nil _ _ _ _
 have hok' : r.ok = false := by simpa using hok
 have HOK := Go.Lib.hid hok'
 rw [hok']
 clear hok hok'
 have bn : w1.cell? ⟨w.heap.size + 1 + 1, 0, none⟩ = some (.slice (some ⟨w.heap.size + 1, 0, none⟩) t.n1 t.n1) := HS1.out.still.n
 have hn1 : (t.n1 : Int) ≤ 9223372036854775807 := by omega
 have hsz1 : w.heap.size + 4 ≤ w1.heap.size := by have h1 := HBG.out.sz; have h2 := HAG.out.size; omega
 have hsz2 : w.heap.size + 1 + 1 < w1.heap.size := by omega
 go_wp2_with fail
 have hnh := HF.out.nh
 have hhas : r.has.length = t.nh := HT1.out.lh
 have hseenl : r.seen.length = t.n1 := HT1.out.ls
 have hhl : ∀ k, (hallTo (find : Int) r.seen r.has k).length ≤ 1 + k * 1000 := fun k => by
  unfold hallTo
  rw [List.length_cons, List.length_flatMap]
  have h2 : (((List.range k).filter fun s : Nat => r.seen.getD s false).map fun s : Nat => (atOf r.has (s : Int)).length).sum ≤ ((List.range k).filter fun s : Nat => r.seen.getD s false).length * 1000 := by
   generalize ((List.range k).filter fun s : Nat => r.seen.getD s false) = l
   induction l with
   | nil => simp
   | cons a l ih =>
    have := atTo_length r.has (a : Int) r.has.length
    rw [show atTo r.has (a : Int) r.has.length = atOf r.has (a : Int) from rfl] at this
    simp only [List.map_cons, List.sum_cons, List.length_cons]
    omega
  have h3 : ((List.range k).filter fun s : Nat => r.seen.getD s false).length ≤ k := Nat.le_trans (List.length_filter_le _ _) (by simp)
  have h4 := Nat.mul_le_mul_right 1000 h3
  omega
 have hown0 : (w1.alloc (.cells #[.int .i64 (find : Int)] 3)).ownsRow w1.heap.size 3 1 (.slice (some ⟨w1.heap.size, 0, none⟩) 1 1) (hallTo (find : Int) r.seen r.has 0).length ((hallTo (find : Int) r.seen r.has 0).map (Value.int .i64)) :=
  ⟨by simp, .inr ⟨_, 1, _, rfl, Nat.le_refl _, World.alloc_heap_new _ _, Nat.le_refl _, by unfold maxLen; omega, rfl, by simp [hallTo]⟩⟩
 have HO0 := Go.Lib.hid hown0
 have HHAS := Go.Lib.hid hhas
 have HSL := Go.Lib.hid hseenl
 have HHLL := Go.Lib.hid hhl
 clear hown0 hhas hseenl hhl
 go_loopw [8, 26] (fun v8 i wr => ∃ k : Nat, k ≤ t.n1 ∧ i = .int .i64 k ∧ Hid (wr.ownsRow w1.heap.size 3 1 v8 (hallTo (find : Int) r.seen r.has k).length ((hallTo (find : Int) r.seen r.has k).map (Value.int .i64)) ∧ Below w1.heap.size w1 wr)) (fun _ i _ => t.n1 - (intOf i).toNat)
 case atStart => exact ⟨0, Nat.zero_le _, rfl, HO0.out, (Below.refl _ _).alloc (Nat.le_refl _) _⟩
 obtain ⟨k, hk, rfl, HID⟩ := hrel
 obtain ⟨hO, hB⟩ := HID.out
 have HO := Go.Lib.hid hO
 have HB := Go.Lib.hid hB
 have hTr := HT1.out.below hB
 have hSr := HS1.out.later (Agree.of_below hB)
 have HTr := Go.Lib.hid hTr
 have HSr := Go.Lib.hid hSr
 clear hO hB hTr hSr HID
 by_cases hlt : k < t.n1
 rotate_left
 ·
  obtain rfl : k = t.n1 := by omega
  have hll := HHLL.out t.n1
  have hkk : t.n1 * 1000 ≤ 1000000 := by have := Nat.mul_le_mul_right 1000 (show t.n1 ≤ 1000 by omega); omega
  have hsmall : (hallTo (find : Int) r.seen r.has t.n1).length ≤ 1000000 + 1 := by omega
  have SRT := sort_own rfl (by omega) HO.out
  clear hll hkk
  go_wp2_with fail
  refine SRT.mono ?_
  clear SRT
  rintro e w5 ⟨rfl, hO5, hg5⟩
  have hB5 : Below w1.heap.size w1 w5 := HB.out.grown hg5 HB.out.size (fun q hq => own_base HO.out q hq)
  have hl5 : (((hallTo (find : Int) r.seen r.has t.n1).mergeSort fun x y => decide (x ≤ y))).length = (hallTo (find : Int) r.seen r.has t.n1).length := by simp
  have CPT := compact_own hl5 (by omega) hO5
  have HO5 := Go.Lib.hid hO5
  have HB5 := Go.Lib.hid hB5
  have HL5 := Go.Lib.hid hl5
  clear hO5 hB5 hl5 hg5
  go_wp2_with fail
  refine CPT.mono ?_
  clear CPT
  rintro e w6 ⟨v6, rfl, hO6, hg6, _⟩
  have hB6 : Below w1.heap.size w1 w6 := HB5.out.grown hg6 HB5.out.size (fun q hq => own_base HO5.out q hq)
  have HO6 := Go.Lib.hid hO6
  have HB6 := Go.Lib.hid hB6
  clear hO6 hB6 hg6
  go_wp2_with fail
  go_ret2
  have hhl := HHL.out
  rw [if_neg (by rw [HOK.out]; simp)] at hhl
  refine ⟨v6, by rw [HOK.out]; rfl, HBG.out.agree hbhl (HAG.out.trans (Agree.of_below HB6.out)), (HT1.out.below HB6.out).rh, ?_⟩
  rw [← hhl]
  exact own_weaken HO6.out (by omega)
 have c1 : wr.cell? ⟨w.heap.size + 1, k, none⟩ = some (.bool (r.seen.getD k false)) := by
  have h := HTr.out.rs.cellD false (k : Int) (by omega) (by rw [HSL.out]; omega)
  rw [Int.toNat_natCast] at h
  exact h
 by_cases hsn : r.seen.getD k false = true
 rotate_left
 ·
  have hsn' : r.seen.getD k false = false := by simpa using hsn
  rw [hsn'] at c1
  have HSN := Go.Lib.hid hsn'
  clear hsn hsn'
  go_wp2_with fail
  go_roundw
  case rel => exact ⟨k + 1, by omega, by simp, by rw [hallTo_no HSN.out]; exact HO.out, HB.out⟩
  case measure => simp [intOf]; omega
 rw [hsn] at c1
 have HSN := Go.Lib.hid hsn
 clear hsn
 have c2 : wr.cell? ⟨w.heap.size, 0, none⟩ = some (.pointer (some ⟨t.g, 0, none⟩)) := HSr.out.still.t
 go_wp2_with fail
 refine (at_calls _ _ _).mono ?_
 rintro e w3 ⟨rfl, rfl⟩
 go_wp2_with fail
 have hB3 : Below wr.heap.size wr ((wr.alloc (.cells #[.pointer (some ⟨t.g, 0, none⟩)] 68)).alloc (.cells #[.int .i64 (k : Int)] 3)) := ((Below.refl _ wr).alloc (Nat.le_refl _) _).alloc (by simp) _
 have bT := ((Boxed.new wr 68 (.pointer (some ⟨t.g, 0, none⟩))).alloc (.cells #[.int .i64 (k : Int)] 3)).cell
 have bS := (Boxed.new (wr.alloc (.cells #[.pointer (some ⟨t.g, 0, none⟩)] 68)) 3 (.int .i64 (k : Int))).cell
 simp only [World.size_alloc] at bS
 have hlen8 : r.has.length * 8 ≤ 140737488355328 := by rw [HHAS.out]; omega
 have CO := collect_in wr.heap.size (wr.heap.size + 1) t.g (some ⟨t.bh, 0, none⟩) t.ch (k : Int) r.has hlen8 _ bT bS (by rw [HHAS.out]; exact ((HSr.out.later (Agree.of_below hB3)).still.f4)) (HTr.out.below hB3).rh.ints
 refine CO.mono ?_
 clear CO
 rintro e w4 ⟨v4, rfl, ho4, hb4⟩
 have hO4 := pw_own_below (pw_own_below HO.out hB3) hb4
 have hB4 : Below w1.heap.size w1 w4 := (HB.out.trans (hB3.mono HB.out.size)).trans (hb4.mono (Nat.le_trans HB.out.size hB3.size))
 have hR4 := Kd.R_of_own (enc := Value.int .i64) (h1 := fun _ => rfl) (ok := fun q => w1.heap.size ≤ q) hO4 (fun q hq => own_base hO4 q hq)
 obtain ⟨A4, c4, rfl, _, hC4⟩ := Kd.R_reads (Kd.R_of_own (enc := Value.int .i64) (h1 := fun _ => rfl) (ok := fun _ => True) ho4 (fun _ _ => trivial))
 have hat := atTo_length r.has (k : Int) r.has.length
 rw [show atTo r.has (k : Int) r.has.length = atOf r.has (k : Int) from rfl, HHAS.out] at hat
 have hfr : ∀ q, w4.heap.size ≤ q → w1.heap.size ≤ q := fun q hq => Nat.le_trans hB4.size hq
 have hll := HHLL.out k
 have hkk : k * 1000 ≤ 1000000 := by have := Nat.mul_le_mul_right 1000 (show k ≤ 1000 by omega); omega
 have hsum : ((hallTo (find : Int) r.seen r.has k).length + (atOf r.has (k : Int)).length) * 8 ≤ 140737488355328 := by omega
 have HR4 := Go.Lib.hid hR4
 have HC4 := Go.Lib.hid hC4
 have HB4 := Go.Lib.hid hB4
 have HFR := Go.Lib.hid hfr
 have hb4s := hB4.size
 have HSUM := Go.Lib.hid hsum
 clear hR4 hC4 hB4 hfr hO4 ho4 hb4 bT bS hlen8 hB3 hat hll hkk hsum c1 c2
 go_wp2_with (at_builtin; refine Kd.R_append_row (Value.int .i64) 0 (w0 := w1) w1.heap.size rfl _ _ 22 3 (.int .i64 0) 8 rfl Try.underlying22 itinfo3 rfl (by omega) _ (hallTo (find : Int) r.seen r.has k) (atOf r.has (k : Int)) A4 _ c4 (fun q => w1.heap.size ≤ q) rfl rfl HFR.out HR4.out HC4.out HB4.out hb4s HSUM.out ?_; intro v5 w5 hR5 hB5 _ _; have HR5 := Go.Lib.hid hR5; have HB5 := Go.Lib.hid hB5; clear hR5 hB5)
 go_roundw
 case rel => exact ⟨k + 1, by omega, by simp, by rw [hallTo_yes HSN.out]; exact Kd.own_of_R HR5.out, HB5.out⟩
 case measure => simp [intOf]; omega
end Go.Proofs.Ytkmmihadcbfkoaa
end

section
namespace Go.Proofs.Ytkmmihadcbfkoaa
open Go.RowKit Go.Proofs.YtkmmihadcbfkoaaW.PrintWords PM
set_option linter.unusedVariables false
set_option linter.unusedSimpArgs false
def FillPost (t : TL) (r : FR) (w : World) (e : Ending) (w' : World) : Prop :=
 ∃ v, e = .returned (.tuple #[v, .bool r.ok]) ∧ Agree t.bh t.bh w w' ∧ RowAt w' t.bh 3 (Value.int .i64) r.has ∧ w'.ownsRow w.heap.size 3 1 v r.hall.length (r.hall.map (Value.int .i64))
set_option maxRecDepth 100000 in
set_option maxHeartbeats 4000000 in
theorem fill_calls (t : TL) (fits : List (List Int)) (room : List Int) (hF : TFit t fits room) (out : Int) (has : List Int) (hlh : has.length = t.nh) (w : World)
  (hS : TStands t fits room w) (hH : RowAt w t.bh 3 (Value.int .i64) has) :
  Calls Try.prog 61 #[.pointer (some ⟨t.g, 0, none⟩), .int .i64 out] w (FillPost t (fillF fits room t.n1 out has) w) := by
 have hst := hS.still
 have f2 := hst.f2
 have hfl : (fits.length : Int) ≤ 9223372036854775807 := by have h1 := hF.finds; have h2 := hF.nh; omega
 obtain ⟨r, hr⟩ : ∃ r, fillF fits room t.n1 out has = r := ⟨_, rfl⟩
 rw [hr]
 unfold fillF at hr
 have HS := Go.Lib.hid hS
 have HH := Go.Lib.hid hH
 have HF := Go.Lib.hid hF
 have HLH := Go.Lib.hid hlh
 have HR := Go.Lib.hid hr
 clear hst hS hH hF hlh hr
 go_enter Try.func61, Try.ntmps61
 go_wp2_with fail
 go_loopw [16] (fun i wr => ∃ k : Nat, k ≤ fits.length ∧ i = .int .i64 k ∧ Hid (∃ hs, fillL fits room t.n1 out ((List.range fits.length).drop k) hs = r ∧ hs.length = t.nh ∧ RowAt wr t.bh 3 (Value.int .i64) hs ∧ Agree t.bh t.bh w wr)) (fun i _ => fits.length - (intOf i).toNat)
 case atStart => exact ⟨0, Nat.zero_le _, rfl, has, HR.out, HLH.out, HH.out, Agree.refl _ _ _⟩
 obtain ⟨k, hk, rfl, HID⟩ := hrel
 obtain ⟨hs, hre, hhl, hrow, hag⟩ := HID.out
 by_cases hlt : k < fits.length
 rotate_left
 ·
  obtain rfl : k = fits.length := by omega
  rw [List.drop_of_length_le (by simp)] at hre
  unfold fillL at hre
  have HRE := Go.Lib.hid hre
  have HRO := Go.Lib.hid hrow
  have HAG := Go.Lib.hid hag
  clear hre hrow hag hhl HID
  go_wp2_with fail
  go_ret2
  have hfin := HRE.out
  subst hfin
  exact ⟨_, rfl, HAG.out, HRO.out, World.ownsRow_nil _ _ _ _⟩
 have hdrop : (List.range fits.length).drop k = k :: (List.range fits.length).drop (k + 1) := by
  rw [List.drop_eq_getElem_cons (by simpa using hlt)]
  simp
 rw [hdrop] at hre
 unfold fillL at hre
 have hSr := HS.out.later hag
 obtain ⟨a2, e2, hx2, _⟩ := hSr.still.fits k hlt
 have g2 := hSr.still.f4
 have hkh : k < hs.length := by have := HF.out.finds; omega
 have g3 := hrow.cellD 0 (k : Int) (by omega) (by omega)
 rw [Int.toNat_natCast] at g3
 have hkn : (k : Int) < (t.nh : Int) := by omega
 obtain ⟨row, hrw⟩ : ∃ row, fits.getD k [] = row := ⟨_, rfl⟩
 rw [hrw] at hx2 hre
 have hrl := HF.out.row k hlt
 rw [hrw] at hrl
 have HRW := Go.Lib.hid hrw
 have HRE := Go.Lib.hid hre
 have HHL := Go.Lib.hid hhl
 have HRO := Go.Lib.hid hrow
 have HAG := Go.Lib.hid hag
 have HSR := Go.Lib.hid hSr
 clear hrw hre hhl hrow hag hSr hdrop HID
 rw [e2] at f2 ⊢
 clear e2
 by_cases hr0 : row.length = 0
 ·
  have q0 : ((row.length : Int) == 0) = true := by simpa using hr0
  have HR0 := Go.Lib.hid hr0
  clear hr0
  go_wp2_with fail
  go_roundw
  case rel => exact ⟨k + 1, by omega, by simp, hs, by have h := HRE.out; rw [if_pos (.inl HR0.out)] at h; exact h, HHL.out, HRO.out, HAG.out⟩
  case measure => simp [intOf]; omega
 have q0 : ((row.length : Int) == 0) = false := by simpa using hr0
 have HR0 := Go.Lib.hid hr0
 clear hr0
 by_cases hko : (k : Int) = out
 ·
  have q1 : ((k : Int) == out) = true := by simpa using hko
  have HKO := Go.Lib.hid hko
  clear hko
  go_wp2_with fail
  go_roundw
  case rel => exact ⟨k + 1, by omega, by simp, hs, by have h := HRE.out; rw [if_pos (.inr (.inl HKO.out))] at h; exact h, HHL.out, HRO.out, HAG.out⟩
  case measure => simp [intOf]; omega
 have q1 : ((k : Int) == out) = false := by simpa using hko
 have HKO := Go.Lib.hid hko
 clear hko
 obtain ⟨x, hx⟩ : ∃ x, hs.getD k 0 = x := ⟨_, rfl⟩
 have hre := HRE.out
 rw [hx] at g3 hre
 have HX := Go.Lib.hid hx
 clear hx
 by_cases hx0 : 0 ≤ x
 ·
  rw [if_pos (.inr (.inr hx0))] at hre
  have HRE2 := Go.Lib.hid hre
  clear hre
  go_wp2_with fail
  go_roundw
  case rel => exact ⟨k + 1, by omega, by simp, hs, HRE2.out, HHL.out, HRO.out, HAG.out⟩
  case measure => simp [intOf]; omega
 rw [if_neg (by intro h; rcases h with h | h | h; exact HR0.out h; exact HKO.out h; exact hx0 h)] at hre
 have GC := give_calls t fits room HF.out k (by omega) hs HHL.out wr HSR.out HRO.out
 obtain ⟨gr, hgr⟩ : ∃ gr, giveR fits room t.n1 (k : Int) hs = gr := ⟨_, rfl⟩
 obtain ⟨gh, hgh⟩ : ∃ gh, giveH fits room t.n1 (k : Int) hs = gh := ⟨_, rfl⟩
 have hgl := giveR_len fits room t.n1 (k : Int) hs
 rw [hgr, hgh] at GC hre
 rw [hgr] at hgl
 have HRE2 := Go.Lib.hid hre
 have HGL := Go.Lib.hid hgl
 clear hre hgr hgh hgl
 go_wp2_with fail
 refine GC.mono ?_
 clear GC
 rintro e w1 ⟨v, rfl, hag1, hrow1, hown1⟩
 have HAG1 := Go.Lib.hid (HAG.out.trans hag1)
 have HRO1 := Go.Lib.hid hrow1
 have HO1 := Go.Lib.hid hown1
 clear hag1 hrow1 hown1
 by_cases hok : gr.ok = true
 ·
  have hre := HRE2.out
  rw [if_pos hok] at hre
  have HRE3 := Go.Lib.hid hre
  rw [hok]
  clear hre hok
  go_wp2_with fail
  go_roundw
  case rel => exact ⟨k + 1, by omega, by simp, gr.has, HRE3.out, HGL.out.trans HHL.out, HRO1.out, HAG1.out⟩
  case measure => simp [intOf]; omega
 have hok' : gr.ok = false := by simpa using hok
 have hre := HRE2.out
 rw [if_neg hok] at hre
 have HRE3 := Go.Lib.hid hre
 rw [hok']
 clear hre hok hok'
 go_wp2_with fail
 go_ret2
 have hfin := HRE3.out
 subst hfin
 exact ⟨v, rfl, HAG1.out, HRO1.out, own_weaken HO1.out HAG.out.size⟩
end Go.Proofs.Ytkmmihadcbfkoaa
end

section
namespace Go.Proofs.Ytkmmihadcbfkoaa
open Go.RowKit Go.Proofs.YtkmmihadcbfkoaaW.PrintWords PM
set_option linter.unusedVariables false
set_option linter.unusedSimpArgs false
structure BOK (F : List Int) (S : List S50) (T : List (List Int)) : Prop where
 nf : F.length ≤ 60
 ns : S.length ≤ 200
 nt : T.length = F.length
 row : ∀ i : Nat, i < T.length → (T.getD i []).length ≤ 1000
 slot : ∀ i : Nat, i < T.length → ∀ j : Nat, j < (T.getD i []).length → 0 ≤ (T.getD i []).getD j 0 ∧ (T.getD i []).getD j 0 < S.length
theorem mk_stands {w0 w : World} {g bh nh ch n1 c1 c2 : Nat} {s0 vr : Value} {A1 A2 : Option Addr} {fits : List (List Int)} {room has : List Int} {ra : Nat → Option Addr} {rc : Nat → Nat}
  (hB : Below w0.heap.size w0 w) (hg : w.heap[g]? = some (.cells #[s0, .slice A1 n1 c1, .slice A2 fits.length c2, vr, .slice (some ⟨bh, 0, none⟩) nh ch] 80 (0, 0))) (hbl : w0.heap.size ≤ bh)
  (hrow : RowAt w bh 3 (Value.int .i64) has) (hroom : w.ownsRow w0.heap.size 3 1 vr room.length (room.map (Value.int .i64))) (hne : vr.ownBlock ≠ some bh) (hra : RowsAt w0 A2 ra rc fits) :
  ∃ Ar cr, vr = .slice Ar room.length cr ∧ TStands { g := g, bh := bh, s0 := s0, A1 := A1, n1 := n1, c1 := c1, A2 := A2, c2 := c2, ra := ra, rc := rc, Ar := Ar, cr := cr, nh := nh, ch := ch } fits room w := by
 obtain ⟨Ar, cr, rfl, _, _⟩ := Kd.R_reads (Kd.R_of_own (enc := Value.int .i64) (h1 := fun _ => rfl) (ok := fun _ => True) hroom (fun _ _ => trivial))
 refine ⟨Ar, cr, rfl, fun w' a => ?_⟩
 have hgl := (Array.getElem?_eq_some_iff.1 hg).1
 have hgb : g ≠ bh := by
  rintro rfl
  obtain ⟨cs, hc, _⟩ := hrow
  rw [hg] at hc
  injection hc with hc
  injection hc with _ hc
  exact absurd hc (by decide)
 have hg' := (a.block g hgl hgb hgb).trans hg
 have hB' : Below w0.heap.size w0 w' := a.below hB hB.size hbl hbl
 have hroom' := own_move (w1 := w') hroom (fun k hk => a.block k (own_lt hroom k hk) (fun e => hne (by rw [hk, e])) (fun e => hne (by rw [hk, e])))
 obtain ⟨Ar', cr', e, _, hC⟩ := Kd.R_reads (Kd.R_of_own (enc := Value.int .i64) (h1 := fun _ => rfl) (ok := fun _ => True) hroom' (fun _ _ => trivial))
 injection e with e1 e2 e3
 subst e1
 exact ⟨cell_of_heap hg' rfl, cell_of_heap hg' rfl, cell_of_heap hg' rfl, cell_of_heap hg' rfl, cell_of_heap hg' rfl, hra.below hB', hC⟩
structure TIn (b0 : Nat) (t : TL) (fits : List (List Int)) (room has : List Int) (w : World) : Prop where
 fit : TFit t fits room
 st : TStands t fits room w
 row : RowAt w t.bh 3 (Value.int .i64) has
 len : has.length = t.nh
 bl : b0 ≤ t.bh
 capr : room.length ≤ t.cr
 caph : t.nh ≤ t.ch
 caps : ∀ i : Nat, i < fits.length → (fits.getD i []).length ≤ t.rc i
theorem RowsAt.of_C2 {w : World} {A2 : Option Addr} {fits : List (List Int)} (h : Kd.C (Kd.slice 3 (Kd.int .i64)) w A2 fits.length fits) : ∃ ra rc, RowsAt w A2 ra rc fits ∧ ∀ i : Nat, i < fits.length → (fits.getD i []).length ≤ rc i := by
 have hx : ∀ i : Nat, ∃ p : Option Addr × Nat, i < fits.length → ∃ a, A2 = some a ∧ w.cell? (a.add i) = some (.slice p.1 (fits.getD i []).length p.2) ∧ (fits.getD i []).length ≤ p.2 ∧ Kd.C (Kd.int .i64) w p.1 (fits.getD i []).length (fits.getD i []) := fun i => by
  by_cases hi : i < fits.length
  ·
   obtain ⟨a, A0, c0, e, hc, hl, hk⟩ := rows_at h (i : Int) (by omega) (by omega)
   exact ⟨(A0, c0), fun _ => ⟨a, e, by simpa using hc, by simpa using hl, by simpa using hk⟩⟩
  ·
   exact ⟨(none, 0), fun h => absurd h hi⟩
 refine ⟨fun i => (Classical.choose (hx i)).1, fun i => (Classical.choose (hx i)).2, fun i hi => ?_, fun i hi => ?_⟩
 ·
  obtain ⟨a, e, hc, _, hk⟩ := Classical.choose_spec (hx i) hi
  exact ⟨a, e, hc, hk⟩
 obtain ⟨a, e, hc, hl, hk⟩ := Classical.choose_spec (hx i) hi
 exact hl
def SomePost (F : List Int) (S : List S50) (T : List (List Int)) (s0 : Value) (w : World) (e : Ending) (w' : World) : Prop :=
 ∃ t : TL, e = .returned (.tuple #[.pointer (some ⟨t.g, 0, none⟩), .bool (fillF T (rooms S) S.length (-1) (List.replicate F.length (-1))).ok]) ∧ t.n1 = S.length ∧ t.nh = F.length ∧ t.s0 = s0 ∧
  TIn w.heap.size t T (rooms S) (fillF T (rooms S) S.length (-1) (List.replicate F.length (-1))).has w' ∧ Below w.heap.size w w'
def TriedPost (F : List Int) (S : List S50) (T : List (List Int)) (s0 : Value) (w : World) (e : Ending) (w' : World) : Prop :=
 ∃ t : TL, e = .returned (.pointer (some ⟨t.g, 0, none⟩)) ∧ t.n1 = S.length ∧ t.nh = F.length ∧ t.s0 = s0 ∧ TIn w.heap.size t T (rooms S) (List.replicate F.length (-1)) w' ∧ Below w.heap.size w w' ∧
  (∃ cells, w'.heap[t.g]? = some (.cells cells 80 (0, 0))) ∧ w.heap.size ≤ t.g ∧ w'.ownsRow w.heap.size 3 1 (.slice t.Ar S.length t.cr) S.length ((rooms S).map (Value.int .i64)) ∧ (Value.slice t.Ar S.length t.cr).ownBlock ≠ some t.bh
theorem tried_calls2 (A0 : Option Addr) (c0 : Nat) (F : List Int) (A1 : Option Addr) (c1 : Nat) (S : List S50) (A2 : Option Addr) (c2 : Nat) (T : List (List Int)) (w : World)
  (hk : BOK F S T) (hr1 : Kd.C k50 w A1 S.length S) (hr2 : Kd.C (Kd.slice 3 (Kd.int .i64)) w A2 T.length T) :
  Calls Try.prog 60 #[.agg #[.slice A0 F.length c0, .slice A1 S.length c1, .slice A2 T.length c2]] w (TriedPost F S T (.slice A0 F.length c0) w) := by
 have h1 := hk.nf
 have h2 := hk.ns
 obtain ⟨ra, rc, hra, hcaps⟩ := RowsAt.of_C2 hr2
 refine (tried_calls A0 F.length c0 A1 c1 S A2 T.length c2 w (by omega) (by omega) hr1).mono ?_
 rintro e w' ⟨g, bh, vr, rfl, hT, hrow, hB⟩
 have hlr : (rooms S).length = S.length := by simp [rooms]
 obtain ⟨Ar, cr, rfl, hst⟩ := mk_stands hB hT.gb hT.hl hrow hT.room hT.ne hra
 refine ⟨_, rfl, rfl, rfl, rfl, ⟨⟨hk.slot, hlr, fun i hi => Nat.le_trans (hk.row i hi) (by omega), hk.nt, by show S.length ≤ _; omega, by show F.length ≤ _; omega⟩, hst, hrow, by simp, hT.hl, (Kd.R_reads' (Kd.R_of_own (enc := Value.int .i64) (h1 := fun _ => rfl) (ok := fun _ => True) hT.room (fun _ _ => trivial))).2.1, Nat.le_refl _, hcaps⟩, hB, ⟨_, hT.gb⟩, hT.gl, ?_, ?_⟩
 ·
  have := hT.room
  rw [hlr] at this
  exact this
 have := hT.ne
 rw [hlr] at this
 exact this
set_option maxRecDepth 100000 in
set_option maxHeartbeats 2000000 in
theorem some_calls (A0 : Option Addr) (c0 : Nat) (F : List Int) (A1 : Option Addr) (c1 : Nat) (S : List S50) (A2 : Option Addr) (c2 : Nat) (T : List (List Int)) (w : World)
  (hk : BOK F S T) (hr1 : Kd.C k50 w A1 S.length S) (hr2 : Kd.C (Kd.slice 3 (Kd.int .i64)) w A2 T.length T) :
  Calls Try.prog 52 #[.agg #[.slice A0 F.length c0, .slice A1 S.length c1, .slice A2 T.length c2]] w (SomePost F S T (.slice A0 F.length c0) w) := by
 have hB0 := (Below.refl w.heap.size w).alloc (Nat.le_refl _) (.cells #[.slice A0 F.length c0, .slice A1 S.length c1, .slice A2 T.length c2] 26)
 have TC := tried_calls2 A0 c0 F A1 c1 S A2 c2 T _ hk (Kd.C_below hr1 hB0) (Kd.C_below hr2 hB0)
 have HB0 := Go.Lib.hid hB0
 clear hr1 hr2 hB0
 go_enter Try.func52, Try.ntmps52
 go_wp2_with fail
 refine TC.mono ?_
 clear TC
 rintro e w1 ⟨t, rfl, e1, e2, e3, hT, hB, _⟩
 have FC := fill_calls t T (rooms S) hT.fit (-1) _ hT.len w1 hT.st hT.row
 rw [e1] at FC
 have HE1 := Go.Lib.hid e1
 have HE2 := Go.Lib.hid e2
 have HE3 := Go.Lib.hid e3
 have HT := Go.Lib.hid hT
 have HB := Go.Lib.hid hB
 clear hT hB e1 e2 e3
 go_wp2_with fail
 refine FC.mono ?_
 clear FC
 rintro e w2 ⟨v, rfl, hag, hrow, _⟩
 have HAG := Go.Lib.hid hag
 have HRO := Go.Lib.hid hrow
 clear hag hrow
 go_wp2_with fail
 go_ret2
 have hb1 : Below w.heap.size w w1 := HB0.out.trans (HB.out.mono HB0.out.size)
 have hbl : w.heap.size ≤ t.bh := Nat.le_trans HB0.out.size HT.out.bl
 exact ⟨t, rfl, HE1.out, HE2.out, HE3.out, ⟨HT.out.fit, HT.out.st.later HAG.out, HRO.out, by rw [fillF, fillL_len]; exact HT.out.len, hbl, HT.out.capr, HT.out.caph, HT.out.caps⟩, HAG.out.below hb1 hb1.size hbl hbl⟩
def isF (F : List Int) (S : List S50) (T : List (List Int)) : Bool := (fillF T (rooms S) S.length (-1) (List.replicate F.length (-1))).ok
def hasF (F : List Int) (S : List S50) (T : List (List Int)) : List Int := (fillF T (rooms S) S.length (-1) (List.replicate F.length (-1))).has
def MatchedPost (F : List Int) (S : List S50) (T : List (List Int)) (s0 : Value) (w : World) (e : Ending) (w' : World) : Prop :=
  ∃ t : TL, e = .returned (.tuple #[.pointer (some ⟨t.g, 0, none⟩), .int .i64 0]) ∧ t.n1 = S.length ∧ t.nh = F.length ∧ t.s0 = s0 ∧
   TIn w.heap.size t T (rooms S) (hasF F S T) w' ∧ Below w.heap.size w w'
set_option maxRecDepth 100000 in
set_option maxHeartbeats 2000000 in
theorem matched_yes (A0 : Option Addr) (c0 : Nat) (F : List Int) (A1 : Option Addr) (c1 : Nat) (S : List S50) (A2 : Option Addr) (c2 : Nat) (T : List (List Int)) (w : World)
  (hk : BOK F S T) (hr1 : Kd.C k50 w A1 S.length S) (hr2 : Kd.C (Kd.slice 3 (Kd.int .i64)) w A2 T.length T) (hok : isF F S T = true) :
  Calls Try.prog 56 #[.agg #[.slice A0 F.length c0, .slice A1 S.length c1, .slice A2 T.length c2]] w (MatchedPost F S T (.slice A0 F.length c0) w) := by
 have hB0 := (Below.refl w.heap.size w).alloc (Nat.le_refl _) (.cells #[.slice A0 F.length c0, .slice A1 S.length c1, .slice A2 T.length c2] 26)
 have TC := some_calls A0 c0 F A1 c1 S A2 c2 T _ hk (Kd.C_below hr1 hB0) (Kd.C_below hr2 hB0)
 unfold SomePost at TC
 unfold MatchedPost hasF
 unfold isF at hok
 generalize fillF T (rooms S) S.length (-1) (List.replicate F.length (-1)) = q at *
 have HB0 := Go.Lib.hid hB0
 rw [hok] at TC
 clear hr1 hr2 hB0 hok
 go_enter Try.func56, Try.ntmps56
 go_wp2_with fail
 refine TC.mono ?_
 clear TC
 rintro e w1 ⟨t, rfl, e1, e2, e3, hT, hB⟩
 have HE := Go.Lib.hid (And.intro e1 (And.intro e2 e3))
 have HT := Go.Lib.hid hT
 have HB := Go.Lib.hid hB
 clear hT hB e1 e2 e3
 go_wp2_with fail
 go_ret2
 have hb1 : Below w.heap.size w w1 := HB0.out.trans (HB.out.mono HB0.out.size)
 exact ⟨t, rfl, HE.out.1, HE.out.2.1, HE.out.2.2, ⟨HT.out.fit, HT.out.st, HT.out.row, HT.out.len, Nat.le_trans HB0.out.size HT.out.bl, HT.out.capr, HT.out.caph, HT.out.caps⟩, hb1⟩
set_option maxRecDepth 100000 in
set_option maxHeartbeats 2000000 in
theorem matched_no (A0 : Option Addr) (c0 : Nat) (F : List Int) (A1 : Option Addr) (c1 : Nat) (S : List S50) (A2 : Option Addr) (c2 : Nat) (T : List (List Int)) (w : World)
  (hk : BOK F S T) (hr1 : Kd.C k50 w A1 S.length S) (hr2 : Kd.C (Kd.slice 3 (Kd.int .i64)) w A2 T.length T) (hok : isF F S T = false) :
  Calls Try.prog 56 #[.agg #[.slice A0 F.length c0, .slice A1 S.length c1, .slice A2 T.length c2]] w fun e w' => e = .returned (.tuple #[.pointer none, .int .i64 40]) ∧ Below w.heap.size w w' := by
 have hB0 := (Below.refl w.heap.size w).alloc (Nat.le_refl _) (.cells #[.slice A0 F.length c0, .slice A1 S.length c1, .slice A2 T.length c2] 26)
 have TC := some_calls A0 c0 F A1 c1 S A2 c2 T _ hk (Kd.C_below hr1 hB0) (Kd.C_below hr2 hB0)
 unfold SomePost at TC
 unfold isF at hok
 generalize fillF T (rooms S) S.length (-1) (List.replicate F.length (-1)) = q at *
 have HB0 := Go.Lib.hid hB0
 rw [hok] at TC
 clear hr1 hr2 hB0 hok
 go_enter Try.func56, Try.ntmps56
 go_wp2_with fail
 refine TC.mono ?_
 clear TC
 rintro e w1 ⟨t, rfl, e1, e2, e3, hT, hB⟩
 have HB := Go.Lib.hid hB
 clear hT hB e1 e2 e3
 go_wp2_with fail
 go_ret2
 exact ⟨rfl, HB0.out.trans (HB.out.mono HB0.out.size)⟩
end Go.Proofs.Ytkmmihadcbfkoaa
end

section
namespace Go.Proofs.Ytkmmihadcbfkoaa
open Go.RowKit Go.Proofs.YtkmmihadcbfkoaaW.PrintWords PM
set_option linter.unusedVariables false
set_option linter.unusedSimpArgs false
structure TNew (w0 : World) (t : TL) (T : List (List Int)) (room has : List Int) (w : World) : Prop where
 gb : w.heap[t.g]? = some (.cells #[t.s0, .slice t.A1 t.n1 t.c1, .slice t.A2 T.length t.c2, .slice t.Ar room.length t.cr, .slice (some ⟨t.bh, 0, none⟩) t.nh t.ch] 80 (0, 0))
 row : RowAt w t.bh 3 (Value.int .i64) has
 own : w.ownsRow w0.heap.size 3 1 (.slice t.Ar room.length t.cr) room.length (room.map (Value.int .i64))
 ne : (Value.slice t.Ar room.length t.cr).ownBlock ≠ some t.bh
 B : Below w0.heap.size w0 w
 rows : RowsAt w0 t.A2 t.ra t.rc T
 gl : w0.heap.size ≤ t.g
 hl : w0.heap.size ≤ t.bh
 fit : TFit t T room
 len : has.length = t.nh
theorem TNew.stands {w0 w : World} {t : TL} {T : List (List Int)} {room has : List Int} (h : TNew w0 t T room has w) : TStands t T room w := by
 obtain ⟨Ar, cr, e, hs⟩ := mk_stands h.B h.gb h.hl h.row h.own h.ne h.rows
 injection e with e1 e2 e3
 subst e1; subst e3
 exact hs
theorem tried_calls3 (A0 : Option Addr) (c0 : Nat) (F : List Int) (A1 : Option Addr) (c1 : Nat) (S : List S50) (A2 : Option Addr) (c2 : Nat) (T : List (List Int)) (w : World)
  (hk : BOK F S T) (hr1 : Kd.C k50 w A1 S.length S) (hr2 : Kd.C (Kd.slice 3 (Kd.int .i64)) w A2 T.length T) :
  Calls Try.prog 60 #[.agg #[.slice A0 F.length c0, .slice A1 S.length c1, .slice A2 T.length c2]] w fun e w' => ∃ t : TL, e = .returned (.pointer (some ⟨t.g, 0, none⟩)) ∧ TNew w t T (rooms S) (List.replicate F.length (-1)) w' ∧ t.n1 = S.length ∧ t.nh = F.length := by
 have h1 := hk.nf
 have h2 := hk.ns
 obtain ⟨ra, rc, hra⟩ := RowsAt.of_C hr2
 refine (tried_calls A0 F.length c0 A1 c1 S A2 T.length c2 w (by omega) (by omega) hr1).mono ?_
 rintro e w' ⟨g, bh, vr, rfl, hT, hrow, hB⟩
 have hlr : (rooms S).length = S.length := by simp [rooms]
 obtain ⟨Ar, cr, rfl, hst⟩ := mk_stands hB hT.gb hT.hl hrow hT.room hT.ne hra
 exact ⟨{ g := g, bh := bh, s0 := .slice A0 F.length c0, A1 := A1, n1 := S.length, c1 := c1, A2 := A2, c2 := c2, ra := ra, rc := rc, Ar := Ar, cr := cr, nh := F.length, ch := F.length }, rfl,
  ⟨hT.gb, hrow, hT.room, hT.ne, hB, hra, hT.gl, hT.hl, ⟨hk.slot, hlr, fun i hi => Nat.le_trans (hk.row i hi) (by omega), hk.nt, by show S.length ≤ _; omega, by show F.length ≤ _; omega⟩, by simp⟩, rfl, rfl⟩
theorem setCell_below {B : Nat} {a w : World} (h : Below B a w) {p : Addr} (hp : B ≤ p.block) (u : Value) : Below B a (w.setCell p u) :=
 h.trans ⟨rfl, rfl, rfl, by simp [World.setCell], fun k hk => Below.heap_setCell w p u k (by omega)⟩
theorem TNew.set {w0 w : World} {t : TL} {T : List (List Int)} {room has : List Int} (h : TNew w0 t T room has w) (i : Int) (h0 : 0 ≤ i) (h1 : i < room.length) (x : Int) :
  ∃ Ab, t.Ar = some ⟨Ab, 0, none⟩ ∧ w.cell? ⟨Ab, i.toNat, none⟩ = some (.int .i64 (room.getD i.toNat 0)) ∧ w.frozen? ⟨Ab, i.toNat, none⟩ = false ∧ TNew w0 t T (room.set i.toNat x) has (w.setCell ⟨Ab, i.toNat, none⟩ (.int .i64 x)) := by
 have hown := h.own
 rcases hown.2 with ⟨e, hz⟩ | ⟨Ab, cap, cur, e, hb, hh, hle, hmx, hsz, htk⟩
 ·
  omega
 injection e with e1 e2 e3
 have hneb : Ab ≠ t.bh := fun e => h.ne (by rw [e1, e]; rfl)
 have hneg : Ab ≠ t.g := by
  rintro rfl
  rw [h.gb] at hh
  injection hh with hh
  injection hh with _ hh
  exact absurd hh (by decide)
 have hlt : i.toNat < room.length := by omega
 have hc : cur[i.toNat]? = some (.int .i64 (room.getD i.toNat 0)) := by
  have h2 : (cur.toList.take (room.length * 1))[i.toNat]? = (room.map (Value.int .i64))[i.toNat]? := by rw [htk]
  rw [List.getElem?_take_of_lt (by omega), List.getElem?_map, List.getElem?_eq_getElem hlt] at h2
  rw [← Array.getElem?_toList, h2]
  simp [List.getD_eq_getElem?_getD, List.getElem?_eq_getElem hlt]
 refine ⟨Ab, e1, ?_, ?_, ?_⟩
 ·
  simp [World.cell?, hh, hc]
 ·
  simp [World.frozen?, hh]
 have hown2 := Go.Proofs.YtkmmihadcbfkoaaW.PrintWords.own_put (k := .i64) (by rw [e1] at hown; exact hown) i x
 have hlen : (room.set i.toNat x).length = room.length := by simp
 have hfit := h.fit
 refine ⟨?_, h.row.same (Below.heap_setCell _ _ _ _ (Ne.symm hneb)), ?_, ?_, setCell_below h.B hb _, h.rows, h.gl, h.hl, ⟨hfit.slot, by rw [hlen]; exact hfit.room, hfit.row, hfit.finds, hfit.ns, hfit.nh⟩, h.len⟩
 ·
  rw [hlen, Below.heap_setCell _ _ _ _ (Ne.symm hneg)]
  exact h.gb
 ·
  rw [hlen, e1]
  rw [hlen] at hown2
  exact hown2
 rw [hlen]
 exact h.ne
end Go.Proofs.Ytkmmihadcbfkoaa
end

section
namespace Go.Proofs.Ytkmmihadcbfkoaa
open PM
def inB (n a b : Int) : Bool := decide (a ≤ n) && decide (n ≤ b)
def risAt (l : List Int) (a b : Int) (i : Nat) : Bool := inB (l.getD i 0) a b && (decide (i = 0) || decide (l.getD (i - 1) 0 < l.getD i 0))
def risB (l : List Int) (a b : Int) : Bool := (List.range l.length).all (risAt l a b)
def slotKey (s : S50) : Int × Int × Int := (s.f0, s.f1, 0)
def slotIn (s : S50) : Bool := inB s.f0 1 20 && inB s.f1 1 200 && inB s.f2 1 20
def slotBack (S : List S50) (k : Nat) : Bool := decide (0 < k) && (decide ((S.getD k z50).f0 < (S.getD (k - 1) z50).f0) || decide ((S.getD k z50).f0 = (S.getD (k - 1) z50).f0) && decide ((S.getD k z50).f1 < (S.getD (k - 1) z50).f1))
def slotAt (S : List S50) (k : Nat) : Bool := slotIn (S.getD k z50) && !(decide (slotKey (S.getD k z50) ∈ (S.take k).map slotKey)) && !slotBack S k
def slotsB (S : List S50) : Bool := (List.range S.length).all (slotAt S)
def fitsB (S : List S50) (T : List (List Int)) : Bool := T.all fun l => risB l 0 ((S.length : Int) - 1)
def checkB (F : List Int) (S : List S50) (T : List (List Int)) : Int :=
 if 60 < F.length ∨ 200 < S.length then 2
 else if risB F 10 10000007 = false ∨ T.length ≠ F.length then 1
 else if slotsB S = false then 1
 else if fitsB S T = false then 1 else 0
theorem all_range_step {p : Nat → Bool} {n k : Nat} (hk : k < n) : ((List.range n).drop k).all p = (p k && ((List.range n).drop (k + 1)).all p) := by
 rw [List.drop_eq_getElem_cons (by simpa using hk)]
 simp
end Go.Proofs.Ytkmmihadcbfkoaa
end

section
namespace Go.Proofs.Ytkmmihadcbfkoaa.PM
open Go.RowKit Go.Proofs.YtkmmihadcbfkoaaW.PrintWords Go.Proofs.YtkmmihadcbfkoaaW.PrintLast Go.Proofs.YtkmmihadcbfkoaaW.PrintMore
set_option linter.unusedVariables false
set_option linter.unusedSimpArgs false
def match_copied_int_53.f (l0 : List (List Int)) : Option ((List (List Int))) := (some (([] : List (List Int)) : List (List Int))).bind fun y496 => (if y496.length + l0.length < 5864062014805 then (some (y496 ++ l0)) else (none))
set_option maxHeartbeats 8000000 in
set_option maxRecDepth 100000 in
theorem match_copied_int_53.calls (P0_ : Nat → Prop) (A0 : Option Addr) (c0 : Nat) (l0 : List (List Int)) (r : List (List Int)) (w : World) (hs0 : Kd.V (Kd.slice 3 (Kd.int .i64)) 22 w w.heap.size (fun k_ => P0_ k_) (.slice A0 l0.length c0) l0) (h : match_copied_int_53.f l0 = some r) :
  Calls Try.prog 53 #[.slice A0 l0.length c0] w fun e w' => ∃ v0_ : Value, e = .returned (v0_) ∧ Kd.N (Kd.slice 3 (Kd.int .i64)) 22 w' w.heap.size (fun k_ => (P0_ k_ ∨ w.heap.size ≤ k_)) v0_ r ∧ Below w.heap.size w w' := by
 have HO0 := Aside0.mk (show Kd.V (Kd.slice 3 (Kd.int .i64)) 22 w w.heap.size (fun k_ => (P0_ k_ ∨ w.heap.size ≤ k_)) (.slice A0 l0.length c0) l0 from Kd.V_mono hs0 (fun k_ hk => .inl hk))
 have HB := Aside0.mk (Below.refl w.heap.size w)
 have H : ((some (([] : List (List Int)) : List (List Int))).bind fun y496 => (if y496.length + l0.length < 5864062014805 then (some (y496 ++ l0)) else (none))) = some r := h
 clear h
 obtain ⟨y496, hy496⟩ : ∃ y_ : List (List Int), y_ = (([] : List (List Int))) := ⟨_, rfl⟩
 replace H : (if y496.length + l0.length < 5864062014805 then (some (y496 ++ l0)) else (none)) = some r := by first | (rw [hy496]; with_reducible exact H) | (have H2_ := (Option.bind_some _ _).symm.trans H; rw [hy496]; with_reducible exact H2_) | (have H2_ := (Option.bind_some _ _).symm.trans H; with_reducible exact H2_) | with_reducible exact H | (rw [hy496]; exact H) | exact H
 have Ny496 := Aside0.mk hy496
 clear hy496
 by_cases c2 : y496.length + l0.length < 5864062014805
 rotate_left
 ·
  rw [if_neg c2] at H
  exact absurd H (by simp)
 rw [if_pos c2] at H
 have LMc2 := Aside0.mk c2
 clear c2
 obtain ⟨y499, hy499⟩ : ∃ y_ : List (List Int), y_ = (y496 ++ l0) := ⟨_, rfl⟩
 replace H : (some y499) = some r := by first | (rw [hy499]; with_reducible exact H) | (have H2_ := (Option.bind_some _ _).symm.trans H; rw [hy499]; with_reducible exact H2_) | (have H2_ := (Option.bind_some _ _).symm.trans H; with_reducible exact H2_) | with_reducible exact H | (rw [hy499]; exact H) | exact H
 have Ny499 := Aside0.mk hy499
 clear hy499
 obtain rfl := Option.some.inj H
 go_enter Try.func53, Try.ntmps53
 go_wp2_with (first | ((with_reducible refine gate_dst (N := 3) rfl ?_); refine Kd.N_lit (Kd.slice 3 (Kd.int .i64)) _ 22 ?hg (N' := 3) ?hd (xs := ([] : List (List Int))) (inner := []) (ok := (fun k_ => (P0_ k_ ∨ w.heap.size ≤ k_))) (okp := (fun k_ => (P0_ k_ ∨ w.heap.size ≤ k_))) ?hr ?hp (fun _ hk => hk) ((show ∀ k_, w.heap.size ≤ k_ → (fun k_ => (P0_ k_ ∨ w.heap.size ≤ k_)) k_ from fun k_ hk => (.inr (Nat.le_trans (below_size (by repeat (first | (with_reducible first | exact HB.out | apply below_alloc | apply pw_below_drewN | apply below_drew1) | exact HB.out))) hk))) _ (Nat.le_refl _)) (Below.refl _ _) (Nat.le_refl _) (by simp) ?_; (case hd => rfl); (case hg => rfl); (case hr => first | (go_simp; done) | (go_simp; rfl)); (case hp => exact (Reps.none _ _)); intro v497 w3 ho4 hb hg_ hnew_; clear hg_ hnew_; (first | rw [← Ny496.out] at ho4 | (simp only [Int.reduceToNat] at ho4; rw [← Ny496.out] at ho4)); have n0_ := Aside0.mk (Kd.V_elder' (by (with_reducible repeat (first | apply Kd.V_alloc | apply Kd.V_drewN | apply Kd.V_drew)); exact HO0.out) (Kd.N_base ho4) hb); have n1_ := Aside0.mk (Kd.N_lower ho4 (below_size (by repeat (first | (with_reducible first | exact HB.out | apply below_alloc | apply pw_below_drewN | apply below_drew1) | exact HB.out)))); have n2_ := Aside0.mk (below_step (by repeat (first | (with_reducible first | exact HB.out | apply below_alloc | apply pw_below_drewN | apply below_drew1) | exact HB.out)) hb); clear HO0; clear HB; have HO0 := n0_; have HO498 := n1_; have HB := n2_; clear n0_ n1_ n2_; clear hb ho4) | ((with_reducible refine gate_builtin (b := .append) (xs := #[.tmp 3, .tmp 4]) rfl ?_); at_builtin; refine Kd.N_append_rows (Kd.slice 3 (Kd.int .i64)) (w0 := w) w.heap.size rfl (.tmp 3) (.tmp 4) 24 22 (.slice none 0 0) 24 rfl Try.underlying24 info22 rfl (by decide) (by omega) v497 y496 l0 _ _ _ (fun k_ => (P0_ k_ ∨ w.heap.size ≤ k_)) (fun k_ => ((fun k_ => (P0_ k_ ∨ w.heap.size ≤ k_))) k_ ∧ some k_ ≠ (v497 : Value).ownBlock) rfl rfl ?aO ?aR (fun _ hk => hk) ?aF ?aB ?aS ?aL ?_; (case aR => exact (by skip; exact Kd.V_F (Kd.V_mono (ok' := (fun k_ => ((fun k_ => (P0_ k_ ∨ w.heap.size ≤ k_))) k_ ∧ some k_ ≠ (v497 : Value).ownBlock)) (HO0.out) (fun k_ hk => ⟨hk.1, hk.2⟩)))); (case aB => exact (by repeat (first | (with_reducible first | exact HB.out | apply below_alloc | apply pw_below_drewN | apply below_drew1) | exact HB.out))); (case aF => exact (fun k_ hk => (.inr (Nat.le_trans (below_size (by repeat (first | (with_reducible first | exact HB.out | apply below_alloc | apply pw_below_drewN | apply below_drew1) | exact HB.out))) hk)))); (case aO => exact (by (with_reducible repeat (first | apply Kd.N_alloc | apply Kd.N_drewN | apply Kd.N_drew)); exact HO498.out)); (case aS => exact (below_size (by repeat (first | (with_reducible first | exact HB.out | apply below_alloc | apply pw_below_drewN | apply below_drew1) | exact HB.out)))); (case aL => have := LMc2.out; omega); intro v500 w5 ho hb hg hat; rw [← Ny499.out] at ho; have n0_ := Aside0.mk (Kd.V_afterv (ok := (fun k_ => (P0_ k_ ∨ w.heap.size ≤ k_))) (by (with_reducible repeat (first | apply Kd.V_alloc | apply Kd.V_drewN | apply Kd.V_drew)); exact HO0.out) hg hat); have n1_ := Aside0.mk (hb); have n2_ := Aside0.mk (ho); clear HO0; clear HB; clear HO498; have HO0 := n0_; have HB := n1_; have HO501 := n2_; clear n0_ n1_ n2_; clear ho hb hg hat))
 go_ret
 exact ⟨_, by first | rfl | (simp [errW_none, errW_some] <;> rfl) | (simp [*, errW_none, errW_some] <;> rfl), by (with_reducible repeat (first | apply Kd.N_alloc | apply Kd.N_drewN | apply Kd.N_drew)); exact HO501.out, by repeat (first | (with_reducible first | exact HB.out | apply below_alloc | apply pw_below_drewN | apply below_drew1) | exact HB.out)⟩
def slices_Index_int_int.l0 : Nat → List Int → Int → Int → Int → Option (Int)
 | 0, _, _, _, _ => none
 | k + 1, x0, x1, x7, x8 => if x8 < x7 then (if 0 ≤ x8 then (if x8 < (x0.length : Int) then (if x1 = (rd x0 x8) then (some x8) else (slices_Index_int_int.l0 k x0 x1 x7 (wrap64 (x8 + 1)))) else (none)) else (none)) else (some (-1))
def slices_Index_int_int.f (k : Nat) (l0 : List Int) (a1 : Int) : Option (Int) := slices_Index_int_int.l0 k l0 a1 (l0.length : Int) 0
set_option maxHeartbeats 8000000 in
set_option maxRecDepth 100000 in
theorem slices_Index_int_int.calls (k : Nat) (A0 : Option Addr) (c0 : Nat) (l0 : List Int) (a1 : Int) (r : Int) (w : World) (hr0 : Kd.C (Kd.int .i64) w A0 l0.length l0) (hc0 : l0.length ≤ c0) (h : slices_Index_int_int.f k l0 a1 = some r) :
  Calls Try.prog 86 #[.slice A0 l0.length c0, .int .i64 a1] w fun e w' => e = .returned (.int .i64 r) ∧ Drawn0 w w' := by
 have HR0 := Aside0.mk hr0
 have HC0 := Aside0.mk hc0
 clear hr0 hc0
 have H : (slices_Index_int_int.l0 k l0 a1 (l0.length : Int) 0) = some r := h
 clear h
 have H' := Aside0.mk H
 clear H
 go_enter Try.func86, Try.ntmps86
 go_wp2
 go_loopg [8] k (fun kq v8 w' => ∃ (aQ : Int), v8 = .int .i64 aQ ∧ Aside0 (slices_Index_int_int.l0 kq l0 a1 (l0.length : Int) aQ = some r) ∧ Aside0 (kq ≤ k) ∧ Drawn0 w w')
 case atStart => exact ⟨(0), (by first | rfl | (simp; done) | (simp [*]; done)), H', ⟨Nat.le_refl _⟩, by repeat (first | exact Drawn0.refl _ | apply Drawn0.step)⟩
 clear H'
 obtain ⟨aQ, rfl, HA, HK1, ⟨m1, rfl⟩⟩ := hrel
 cases gk with
 | zero => exact absurd HA.out (by simp [slices_Index_int_int.l0])
 | succ k1 =>
  have H := HA.out
  clear HA
  simp only [slices_Index_int_int.l0] at H
  by_cases c3 : aQ < (l0.length : Int)
  rotate_left
  ·
   rw [if_neg c3] at H
   have c3b0 : decide (aQ < (l0.length : Int)) = false := decide_eq_false c3
   clear c3
   obtain rfl := Option.some.inj H
   go_wp2
   go_ret
   exact ⟨by first | rfl | (simp; done) | (simp [*]; done), by repeat (first | exact Drawn0.refl _ | apply Drawn0.step)⟩
  rw [if_pos c3] at H
  have c3b0 : decide (aQ < (l0.length : Int)) = true := decide_eq_true c3
  clear c3
  by_cases c4 : 0 ≤ aQ
  rotate_left
  ·
   rw [if_neg c4] at H
   exact absurd H (by simp)
  rw [if_pos c4] at H
  have c4b0 : decide (0 ≤ aQ) = true := decide_eq_true c4
  clear c4
  by_cases c5 : aQ < (l0.length : Int)
  rotate_left
  ·
   rw [if_neg c5] at H
   exact absurd H (by simp)
  rw [if_pos c5] at H
  have c5b0 : decide (aQ < (l0.length : Int)) = true := decide_eq_true c5
  clear c5
  by_cases c6 : a1 = (rd l0 aQ)
  ·
   rw [if_pos c6] at H
   have c6b0 : (a1 == (rd l0 aQ)) = true := beq_iff_eq.mpr c6
   have c6b1 : (a1 != (rd l0 aQ)) = false := bne_eq_false_iff_eq.mpr c6
   clear c6
   obtain rfl := Option.some.inj H
   have p502 : 0 ≤ (aQ : Int) := of_decide_eq_true (by assumption)
   have q502 : aQ < (l0.length : Int) := of_decide_eq_true (by assumption)
   obtain ⟨ad502, e502, oE⟩ := Kd.at_int HR0.out aQ p502 q502
   cases e502
   replace p502 := eq_true p502
   replace q502 := eq_true q502
   go_wp2
   go_ret
   exact ⟨by first | rfl | (simp; done) | (simp [*]; done), by repeat (first | exact Drawn0.refl _ | apply Drawn0.step)⟩
  rw [if_neg c6] at H
  have c6b0 : (a1 == (rd l0 aQ)) = false := beq_eq_false_iff_ne.mpr c6
  have c6b1 : (a1 != (rd l0 aQ)) = true := bne_iff_ne.mpr c6
  have H' := Aside0.mk H
  clear H
  have p502 : 0 ≤ (aQ : Int) := of_decide_eq_true (by assumption)
  have q502 : aQ < (l0.length : Int) := of_decide_eq_true (by assumption)
  obtain ⟨ad502, e502, oE⟩ := Kd.at_int HR0.out aQ p502 q502
  cases e502
  replace p502 := eq_true p502
  replace q502 := eq_true q502
  go_wp2
  go_roundg k1
  case measure => have := HK1.out; omega
  case rel => exact ⟨(wrap64 (aQ + 1)), (by first | rfl | (simp; done) | (simp [*]; done)), H', ⟨by have := HK1.out; omega⟩, by repeat (first | exact Drawn0.refl _ | apply Drawn0.step)⟩
def slices_Contains_int_int.f (k : Nat) (l0 : List Int) (a1 : Int) : Option (Bool) := (slices_Index_int_int.f k l0 a1).bind fun t503 => (some (decide (t503 ≥ 0)))
set_option maxHeartbeats 8000000 in
set_option maxRecDepth 100000 in
theorem slices_Contains_int_int.calls (k : Nat) (A0 : Option Addr) (c0 : Nat) (l0 : List Int) (a1 : Int) (r : Bool) (w : World) (hr0 : Kd.C (Kd.int .i64) w A0 l0.length l0) (hc0 : l0.length ≤ c0) (h : slices_Contains_int_int.f k l0 a1 = some r) :
  Calls Try.prog 59 #[.slice A0 l0.length c0, .int .i64 a1] w fun e w' => e = .returned (.bool r) ∧ Drawn0 w w' := by
 have HR0 := Aside0.mk hr0
 have HC0 := Aside0.mk hc0
 clear hr0 hc0
 have H : ((slices_Index_int_int.f k l0 a1).bind fun t503 => (some (decide (t503 ≥ 0)))) = some r := h
 clear h
 replace H := Option.bind_eq_some_iff.mp H
 obtain ⟨t503, A30, H⟩ := H
 replace H : (some (decide (t503 ≥ 0))) = some r := H
 have A3 := Aside0.mk A30
 clear A30
 obtain rfl := Option.some.inj H
 go_enter Try.func59, Try.ntmps59
 go_wp2_with (first | ((with_reducible refine gate_callee (f := 86) rfl ?_); refine goesL_ (some 7) rfl rfl Try.func86 (by kernel_rfl) rfl #[.slice A0 l0.length c0, .int .i64 a1] rfl (by (try simp only [List.map_toArray, List.map_cons, List.map_nil]); first | done | rfl | (simp only [List.length_drop, List.length_take]; rfl)) ?_; (with_reducible refine (slices_Index_int_int.calls k _ _ l0 a1 t503 _ ?side1 ?side2 A3.out).mono ?_); (case side1 => repeat (first | exact HR0.out | (with_reducible refine Kd.C_alloc ?_ _) | (with_reducible refine Kd.C_drewN ?_ _) | (with_reducible refine Kd.C_drew ?_))); (case side2 => exact HC0.out); rintro e w' ⟨rfl, ⟨nd, rfl⟩⟩; refine ⟨_, rfl, ?_⟩))
 go_ret
 exact ⟨by first | rfl | (simp; done) | (simp [*]; done), by repeat (first | exact Drawn0.refl _ | apply Drawn0.step)⟩
def match_in.f (a0 : Int) (a1 : Int) (a2 : Int) : Option (Bool) := if a0 ≥ a1 then (some (decide (a0 ≤ a2))) else (some false)
set_option maxHeartbeats 8000000 in
set_option maxRecDepth 100000 in
theorem match_in.calls (a0 : Int) (a1 : Int) (a2 : Int) (r : Bool) (w : World) (h : match_in.f a0 a1 a2 = some r) :
  Calls Try.prog 82 #[.int .i64 a0, .int .i64 a1, .int .i64 a2] w fun e w' => e = .returned (.bool r) ∧ Drawn0 w w' := by
 have H : (if a0 ≥ a1 then (some (decide (a0 ≤ a2))) else (some false)) = some r := h
 clear h
 by_cases c4 : a0 ≥ a1
 ·
  rw [if_pos c4] at H
  have c4b0 : decide (a1 ≤ a0) = true := decide_eq_true c4
  clear c4
  obtain rfl := Option.some.inj H
  go_enter Try.func82, Try.ntmps82
  go_wp2
  go_ret
  exact ⟨by first | rfl | (simp; done) | (simp [*]; done), by repeat (first | exact Drawn0.refl _ | apply Drawn0.step)⟩
 rw [if_neg c4] at H
 have c4b0 : decide (a1 ≤ a0) = false := decide_eq_false c4
 clear c4
 obtain rfl := Option.some.inj H
 go_enter Try.func82, Try.ntmps82
 go_wp2
 go_ret
 exact ⟨by first | rfl | (simp; done) | (simp [*]; done), by repeat (first | exact Drawn0.refl _ | apply Drawn0.step)⟩
def match_rising.l0 : Nat → List Int → Int → Int → List Int → Int → Int → Option (Bool)
 | 0, _, _, _, _, _, _ => none
 | k + 1, x0, x1, x2, x9, x10, x11 => if x11 < x10 then (if 0 ≤ x11 then (if x11 < (x9.length : Int) then ((match_in.f (rd x9 x11) x1 x2).bind fun t505 => (if t505 = true then (if x11 > 0 then (if 0 ≤ (wrap64 (x11 - 1)) then (if (wrap64 (x11 - 1)) < (x0.length : Int) then (if (rd x0 (wrap64 (x11 - 1))) ≥ (rd x9 x11) then (some false) else (match_rising.l0 k x0 x1 x2 x9 x10 (wrap64 (x11 + 1)))) else (none)) else (none)) else (match_rising.l0 k x0 x1 x2 x9 x10 (wrap64 (x11 + 1)))) else (some false))) else (none)) else (none)) else (some true)
def match_rising.f (k : Nat) (l0 : List Int) (a1 : Int) (a2 : Int) : Option (Bool) := match_rising.l0 k l0 a1 a2 l0 (l0.length : Int) 0
set_option maxHeartbeats 8000000 in
set_option maxRecDepth 100000 in
theorem match_rising.calls (k : Nat) (A0 : Option Addr) (c0 : Nat) (l0 : List Int) (a1 : Int) (a2 : Int) (r : Bool) (w : World) (hr0 : Kd.C (Kd.int .i64) w A0 l0.length l0) (hc0 : l0.length ≤ c0) (h : match_rising.f k l0 a1 a2 = some r) :
  Calls Try.prog 68 #[.slice A0 l0.length c0, .int .i64 a1, .int .i64 a2] w fun e w' => e = .returned (.bool r) ∧ Drawn0 w w' := by
 have HR0 := Aside0.mk hr0
 have HC0 := Aside0.mk hc0
 clear hr0 hc0
 have H : (match_rising.l0 k l0 a1 a2 l0 (l0.length : Int) 0) = some r := h
 clear h
 have H' := Aside0.mk H
 clear H
 go_enter Try.func68, Try.ntmps68
 go_wp2
 go_loopg [11] k (fun kq v11 w' => ∃ (aY : Int), v11 = .int .i64 aY ∧ Aside0 (match_rising.l0 kq l0 a1 a2 l0 (l0.length : Int) aY = some r) ∧ Aside0 (kq ≤ k) ∧ Drawn0 w w')
 case atStart => exact ⟨(0), (by first | rfl | (simp; done) | (simp [*]; done)), H', ⟨Nat.le_refl _⟩, by repeat (first | exact Drawn0.refl _ | apply Drawn0.step)⟩
 clear H'
 obtain ⟨aY, rfl, HA, HK1, ⟨m1, rfl⟩⟩ := hrel
 cases gk with
 | zero => exact absurd HA.out (by simp [match_rising.l0])
 | succ k1 =>
  have H := HA.out
  clear HA
  simp only [match_rising.l0] at H
  by_cases c4 : aY < (l0.length : Int)
  rotate_left
  ·
   rw [if_neg c4] at H
   have c4b0 : decide (aY < (l0.length : Int)) = false := decide_eq_false c4
   clear c4
   obtain rfl := Option.some.inj H
   go_wp2
   go_ret
   exact ⟨by first | rfl | (simp; done) | (simp [*]; done), by repeat (first | exact Drawn0.refl _ | apply Drawn0.step)⟩
  rw [if_pos c4] at H
  have c4b0 : decide (aY < (l0.length : Int)) = true := decide_eq_true c4
  clear c4
  by_cases c5 : 0 ≤ aY
  rotate_left
  ·
   rw [if_neg c5] at H
   exact absurd H (by simp)
  rw [if_pos c5] at H
  have c5b0 : decide (0 ≤ aY) = true := decide_eq_true c5
  clear c5
  by_cases c6 : aY < (l0.length : Int)
  rotate_left
  ·
   rw [if_neg c6] at H
   exact absurd H (by simp)
  rw [if_pos c6] at H
  have c6b0 : decide (aY < (l0.length : Int)) = true := decide_eq_true c6
  clear c6
  replace H := Option.bind_eq_some_iff.mp H
  obtain ⟨t505, A70, H⟩ := H
  replace H : (if t505 = true then (if aY > 0 then (if 0 ≤ (wrap64 (aY - 1)) then (if (wrap64 (aY - 1)) < (l0.length : Int) then (if (rd l0 (wrap64 (aY - 1))) ≥ (rd l0 aY) then (some false) else (match_rising.l0 k1 l0 a1 a2 l0 (l0.length : Int) (wrap64 (aY + 1)))) else (none)) else (none)) else (match_rising.l0 k1 l0 a1 a2 l0 (l0.length : Int) (wrap64 (aY + 1)))) else (some false)) = some r := H
  have A7 := Aside0.mk A70
  clear A70
  by_cases c8 : t505 = true
  rotate_left
  ·
   replace c8 := Bool.eq_false_iff.mpr c8
   subst c8
   have H1 : (some false) = some r := by rw [if_neg (show ¬ (false = true) by decide)] at H; exact H
   clear H
   have H := H1
   clear H1
   obtain rfl := Option.some.inj H
   have p504 : 0 ≤ (aY : Int) := of_decide_eq_true (by assumption)
   have q504 : aY < (l0.length : Int) := of_decide_eq_true (by assumption)
   obtain ⟨ad504, e504, jY⟩ := Kd.at_int HR0.out aY p504 q504
   cases e504
   replace p504 := eq_true p504
   replace q504 := eq_true q504
   go_wp2_with (first | ((with_reducible refine gate_callee (f := 82) rfl ?_); refine goesL_ (some 19) rfl rfl Try.func82 (by kernel_rfl) rfl #[.int .i64 (rd l0 aY), .int .i64 a1, .int .i64 a2] rfl (by (try simp only [List.map_toArray, List.map_cons, List.map_nil]); first | done | rfl | (simp only [List.length_drop, List.length_take]; rfl)) ?_; (with_reducible refine (match_in.calls (rd l0 aY) a1 a2 false _ A7.out).mono ?_); rintro e w' ⟨rfl, ⟨nd, rfl⟩⟩; refine ⟨_, rfl, ?_⟩))
   go_ret
   exact ⟨by first | rfl | (simp; done) | (simp [*]; done), by repeat (first | exact Drawn0.refl _ | apply Drawn0.step)⟩
  subst c8
  have H1 : (if aY > 0 then (if 0 ≤ (wrap64 (aY - 1)) then (if (wrap64 (aY - 1)) < (l0.length : Int) then (if (rd l0 (wrap64 (aY - 1))) ≥ (rd l0 aY) then (some false) else (match_rising.l0 k1 l0 a1 a2 l0 (l0.length : Int) (wrap64 (aY + 1)))) else (none)) else (none)) else (match_rising.l0 k1 l0 a1 a2 l0 (l0.length : Int) (wrap64 (aY + 1)))) = some r := by rw [if_pos rfl] at H; exact H
  clear H
  have H := H1
  clear H1
  by_cases c9 : aY > 0
  rotate_left
  ·
   rw [if_neg c9] at H
   have c9b0 : decide (0 < aY) = false := decide_eq_false c9
   clear c9
   have H' := Aside0.mk H
   clear H
   have p504 : 0 ≤ (aY : Int) := of_decide_eq_true (by assumption)
   have q504 : aY < (l0.length : Int) := of_decide_eq_true (by assumption)
   obtain ⟨ad504, e504, jY⟩ := Kd.at_int HR0.out aY p504 q504
   cases e504
   replace p504 := eq_true p504
   replace q504 := eq_true q504
   go_wp2_with (first | ((with_reducible refine gate_callee (f := 82) rfl ?_); refine goesL_ (some 19) rfl rfl Try.func82 (by kernel_rfl) rfl #[.int .i64 (rd l0 aY), .int .i64 a1, .int .i64 a2] rfl (by (try simp only [List.map_toArray, List.map_cons, List.map_nil]); first | done | rfl | (simp only [List.length_drop, List.length_take]; rfl)) ?_; (with_reducible refine (match_in.calls (rd l0 aY) a1 a2 true _ A7.out).mono ?_); rintro e w' ⟨rfl, ⟨nd, rfl⟩⟩; refine ⟨_, rfl, ?_⟩))
   go_roundg k1
   case measure => have := HK1.out; omega
   case rel => exact ⟨(wrap64 (aY + 1)), (by first | rfl | (simp; done) | (simp [*]; done)), H', ⟨by have := HK1.out; omega⟩, by repeat (first | exact Drawn0.refl _ | apply Drawn0.step)⟩
  rw [if_pos c9] at H
  have c9b0 : decide (0 < aY) = true := decide_eq_true c9
  clear c9
  obtain ⟨ji10, hji10⟩ : ∃ j_ : Int, (wrap64 (aY - 1)) = j_ := ⟨_, rfl⟩
  replace H : (if 0 ≤ (ji10) then (if (ji10) < (l0.length : Int) then (if (rd l0 (ji10)) ≥ (rd l0 aY) then (some false) else (match_rising.l0 k1 l0 a1 a2 l0 (l0.length : Int) (wrap64 (aY + 1)))) else (none)) else (none)) = some r := by first | (rw [hji10] at H; exact H) | (simp only [hji10] at H ⊢; exact H)
  (try rw [hji10] at A7)
  have hji10w : (IntKind.i64.wrap (aY - 1)) = ji10 := (i64_w _).trans hji10
  by_cases c11 : 0 ≤ (ji10)
  rotate_left
  ·
   rw [if_neg c11] at H
   exact absurd H (by simp)
  rw [if_pos c11] at H
  have c11b0 : decide (0 ≤ (ji10)) = true := decide_eq_true c11
  clear c11
  by_cases c12 : (ji10) < (l0.length : Int)
  rotate_left
  ·
   rw [if_neg c12] at H
   exact absurd H (by simp)
  rw [if_pos c12] at H
  have c12b0 : decide ((ji10) < (l0.length : Int)) = true := decide_eq_true c12
  clear c12
  by_cases c13 : (rd l0 (ji10)) ≥ (rd l0 aY)
  ·
   rw [if_pos c13] at H
   have c13b0 : decide ((rd l0 aY) ≤ (rd l0 (ji10))) = true := decide_eq_true c13
   clear c13
   obtain rfl := Option.some.inj H
   have p504 : 0 ≤ (aY : Int) := of_decide_eq_true (by assumption)
   have q504 : aY < (l0.length : Int) := of_decide_eq_true (by assumption)
   obtain ⟨ad504, e504, jY⟩ := Kd.at_int HR0.out aY p504 q504
   cases e504
   replace p504 := eq_true p504
   replace q504 := eq_true q504
   go_wp2_with (first | ((with_reducible refine gate_callee (f := 82) rfl ?_); refine goesL_ (some 19) rfl rfl Try.func82 (by kernel_rfl) rfl #[.int .i64 (rd l0 aY), .int .i64 a1, .int .i64 a2] rfl (by (try simp only [List.map_toArray, List.map_cons, List.map_nil]); first | done | rfl | (simp only [List.length_drop, List.length_take]; rfl)) ?_; (with_reducible refine (match_in.calls (rd l0 aY) a1 a2 true _ A7.out).mono ?_); rintro e w' ⟨rfl, ⟨nd, rfl⟩⟩; refine ⟨_, rfl, ?_⟩; have p506 : 0 ≤ ((ji10) : Int) := of_decide_eq_true (by assumption); have q506 : (ji10) < (l0.length : Int) := of_decide_eq_true (by assumption); obtain ⟨ad506, e506, oF⟩ := Kd.at_int HR0.out (ji10) p506 q506; obtain rfl : ad504 = ad506 := (by injection e506); replace p506 := eq_true p506; replace q506 := eq_true q506))
   go_ret
   exact ⟨by first | rfl | (simp; done) | (simp only [← hji10] <;> (first | rfl | simp)) | (simp [*]; done), by repeat (first | exact Drawn0.refl _ | apply Drawn0.step)⟩
  rw [if_neg c13] at H
  have c13b0 : decide ((rd l0 aY) ≤ (rd l0 (ji10))) = false := decide_eq_false c13
  clear c13
  have H' := Aside0.mk H
  clear H
  have p504 : 0 ≤ (aY : Int) := of_decide_eq_true (by assumption)
  have q504 : aY < (l0.length : Int) := of_decide_eq_true (by assumption)
  obtain ⟨ad504, e504, jY⟩ := Kd.at_int HR0.out aY p504 q504
  cases e504
  replace p504 := eq_true p504
  replace q504 := eq_true q504
  go_wp2_with (first | ((with_reducible refine gate_callee (f := 82) rfl ?_); refine goesL_ (some 19) rfl rfl Try.func82 (by kernel_rfl) rfl #[.int .i64 (rd l0 aY), .int .i64 a1, .int .i64 a2] rfl (by (try simp only [List.map_toArray, List.map_cons, List.map_nil]); first | done | rfl | (simp only [List.length_drop, List.length_take]; rfl)) ?_; (with_reducible refine (match_in.calls (rd l0 aY) a1 a2 true _ A7.out).mono ?_); rintro e w' ⟨rfl, ⟨nd, rfl⟩⟩; refine ⟨_, rfl, ?_⟩; have p506 : 0 ≤ ((ji10) : Int) := of_decide_eq_true (by assumption); have q506 : (ji10) < (l0.length : Int) := of_decide_eq_true (by assumption); obtain ⟨ad506, e506, oF⟩ := Kd.at_int HR0.out (ji10) p506 q506; obtain rfl : ad504 = ad506 := (by injection e506); replace p506 := eq_true p506; replace q506 := eq_true q506))
  go_roundg k1
  case measure => have := HK1.out; omega
  case rel => exact ⟨(wrap64 (aY + 1)), (by first | rfl | (simp; done) | (simp [*]; done)), H', ⟨by have := HK1.out; omega⟩, by repeat (first | exact Drawn0.refl _ | apply Drawn0.step)⟩
def match_copied_int_88.f (l0 : List Int) : Option (List Int) := (some (([] : List Int) : List Int)).bind fun y507 => (if y507.length + l0.length < 17592186044416 then (some (y507 ++ l0)) else (none))
set_option maxHeartbeats 8000000 in
set_option maxRecDepth 100000 in
theorem match_copied_int_88.calls (A0 : Option Addr) (c0 : Nat) (l0 : List Int) (r : List Int) (w : World) (hr0 : Kd.C (Kd.int .i64) w A0 l0.length l0) (hc0 : l0.length ≤ c0) (h : match_copied_int_88.f l0 = some r) :
  Calls Try.prog 88 #[.slice A0 l0.length c0] w fun e w' => ∃ v0_ : Value, e = .returned (v0_) ∧ Kd.R (Kd.int .i64) 3 w' w.heap.size (fun _ => True) v0_ r ∧ Below w.heap.size w w' := by
 have HR0 := Aside0.mk hr0
 have HC0 := Aside0.mk hc0
 clear hr0 hc0
 have HB := Aside0.mk (Below.refl w.heap.size w)
 have H : ((some (([] : List Int) : List Int)).bind fun y507 => (if y507.length + l0.length < 17592186044416 then (some (y507 ++ l0)) else (none))) = some r := h
 clear h
 obtain ⟨y507, hy507⟩ : ∃ y_ : List Int, y_ = (([] : List Int)) := ⟨_, rfl⟩
 replace H : (if y507.length + l0.length < 17592186044416 then (some (y507 ++ l0)) else (none)) = some r := by first | (rw [hy507]; with_reducible exact H) | (have H2_ := (Option.bind_some _ _).symm.trans H; rw [hy507]; with_reducible exact H2_) | (have H2_ := (Option.bind_some _ _).symm.trans H; with_reducible exact H2_) | with_reducible exact H | (rw [hy507]; exact H) | exact H
 have Ny507 := Aside0.mk hy507
 clear hy507
 by_cases c2 : y507.length + l0.length < 17592186044416
 rotate_left
 ·
  rw [if_neg c2] at H
  exact absurd H (by simp)
 rw [if_pos c2] at H
 have LMc2 := Aside0.mk c2
 clear c2
 obtain ⟨y510, hy510⟩ : ∃ y_ : List Int, y_ = (y507 ++ l0) := ⟨_, rfl⟩
 replace H : (some y510) = some r := by first | (rw [hy510]; with_reducible exact H) | (have H2_ := (Option.bind_some _ _).symm.trans H; rw [hy510]; with_reducible exact H2_) | (have H2_ := (Option.bind_some _ _).symm.trans H; with_reducible exact H2_) | with_reducible exact H | (rw [hy510]; exact H) | exact H
 have Ny510 := Aside0.mk hy510
 clear hy510
 obtain rfl := Option.some.inj H
 go_enter Try.func88, Try.ntmps88
 go_wp2_with (first | ((with_reducible refine gate_dst (N := 3) rfl ?_); refine Kd.R_lit (Kd.int .i64) _ 3 ?hg (N := 3) ?hd (xs := ([] : List Int)) (inner := []) (ok := fun _ => True) (okp := fun _ => True) ?hr ?hp (fun _ hk => hk) trivial (Below.refl _ _) (Nat.le_refl _) (by simp) ?_; (case hd => rfl); (case hg => rfl); (case hr => first | (go_simp; done) | (go_simp; rfl)); (case hp => exact (Reps.none _ _)); intro v508 w3 ho4 hb hg_ hnew_; clear hg_ hnew_; (first | rw [← Ny507.out] at ho4 | (simp only [Int.reduceToNat] at ho4; rw [← Ny507.out] at ho4)); have n0_ := Aside0.mk (Kd.R_lower ho4 (below_size (by repeat (first | (with_reducible first | exact HB.out | apply below_alloc | apply pw_below_drewN | apply below_drew1) | exact HB.out)))); have n1_ := Aside0.mk (below_step (by repeat (first | (with_reducible first | exact HB.out | apply below_alloc | apply pw_below_drewN | apply below_drew1) | exact HB.out)) hb); clear HB; have HO509 := n0_; have HB := n1_; clear n0_ n1_; clear hb ho4) | ((with_reducible refine gate_builtin (b := .append) (xs := #[.tmp 3, .tmp 4]) rfl ?_); at_builtin; refine Kd.R_append_rows (Kd.int .i64) (w0 := w) w.heap.size rfl (.tmp 3) (.tmp 4) 22 3 (.int .i64 0) 8 rfl Try.underlying22 info3 rfl (by decide) (by omega) v508 y507 l0 _ _ _ (fun _ => True) (fun _ => False) rfl rfl ?aO ?aR (fun _ _ h => h) (fun _ h => h.elim) ?aF ?aB ?aS ?aL ?_; (case aR => repeat (first | exact (Kd.C_below HR0.out HB.out) | (with_reducible refine Kd.C_alloc ?_ _) | (with_reducible refine Kd.C_drewN ?_ _) | (with_reducible refine Kd.C_drew ?_))); (case aB => exact (by repeat (first | (with_reducible first | exact HB.out | apply below_alloc | apply pw_below_drewN | apply below_drew1) | exact HB.out))); (case aF => exact (fun _ _ => trivial)); (case aO => exact (by (with_reducible repeat (first | apply Kd.R_alloc | apply Kd.R_drewN | apply Kd.R_drew)); exact HO509.out)); (case aS => exact (below_size (by repeat (first | (with_reducible first | exact HB.out | apply below_alloc | apply pw_below_drewN | apply below_drew1) | exact HB.out)))); (case aL => have := LMc2.out; omega); intro v511 w5 ho hb hg hat; rw [← Ny510.out] at ho; have n0_ := Aside0.mk (hb); have n1_ := Aside0.mk (ho); clear HB; clear HO509; have HB := n0_; have HO512 := n1_; clear n0_ n1_; clear ho hb hg hat))
 go_ret
 exact ⟨_, by first | rfl | (simp [errW_none, errW_some] <;> rfl) | (simp [*, errW_none, errW_some] <;> rfl), by (with_reducible repeat (first | apply Kd.R_alloc | apply Kd.R_drewN | apply Kd.R_drew)); exact HO512.out, by repeat (first | (with_reducible first | exact HB.out | apply below_alloc | apply pw_below_drewN | apply below_drew1) | exact HB.out)⟩
end Go.Proofs.Ytkmmihadcbfkoaa.PM
end

section
namespace Go.Proofs.Ytkmmihadcbfkoaa
open Go.RowKit Go.Proofs.YtkmmihadcbfkoaaW.PrintWords PM
set_option linter.unusedVariables false
set_option linter.unusedSimpArgs false
theorem in_calls (n a b : Int) (w : World) : Calls Try.prog 82 #[.int .i64 n, .int .i64 a, .int .i64 b] w fun e w' => e = .returned (.bool (inB n a b)) ∧ Drawn0 w w' :=
 match_in.calls n a b (inB n a b) w (by
  unfold match_in.f inB
  by_cases h : n ≥ a
  ·
   rw [if_pos h]; simp [show a ≤ n from h]
  ·
   rw [if_neg h]; simp [show ¬ a ≤ n from h])
theorem wrap_pm {i : Int} (h0 : 0 ≤ i) (h1 : i ≤ 9223372036854775806) : wrap64 (i + 1) = i + 1 ∧ wrap64 (i - 1) = i - 1 := by
 unfold wrap64
 omega
theorem rising_loop (l : List Int) (a b : Int) (hl : l.length ≤ 9223372036854775807) (d : Nat) : ∀ (k i : Nat), l.length - i = d → i ≤ l.length → d < k →
  match_rising.l0 k l a b l (l.length : Int) (i : Int) = some (((List.range l.length).drop i).all (risAt l a b)) := by
 induction d with
 | zero =>
  intro k i hd hi hk
  obtain ⟨k, rfl⟩ : ∃ m, k = m + 1 := ⟨k - 1, by omega⟩
  simp only [match_rising.l0]
  rw [if_neg (by omega), List.drop_of_length_le (by simp; omega)]
  rfl
 | succ d ih =>
  intro k i hd hi hk
  obtain ⟨k, rfl⟩ : ∃ m, k = m + 1 := ⟨k - 1, by omega⟩
  have hlt : i < l.length := by omega
  have hw := wrap_pm (i := (i : Int)) (by omega) (by omega)
  simp only [match_rising.l0]
  rw [if_pos (by omega), if_pos (by omega), if_pos (by omega), all_range_step hlt]
  have e1 : rd l (i : Int) = l.getD i 0 := by simp [rd]
  rw [e1]
  have e2 : match_in.f (l.getD i 0) a b = some (inB (l.getD i 0) a b) := by
   unfold match_in.f inB
   by_cases h : l.getD i 0 ≥ a
   ·
    rw [if_pos h]; simp only [decide_eq_true (show a ≤ l.getD i 0 from h), Bool.true_and]
   ·
    rw [if_neg h]; simp only [decide_eq_false (show ¬ a ≤ l.getD i 0 from h), Bool.false_and]
  rw [e2, Option.bind_some]
  have ih' := ih k (i + 1) (by omega) (by omega) (by omega)
  rw [show (((i + 1 : Nat)) : Int) = (i : Int) + 1 from by omega] at ih'
  unfold risAt at ih' ⊢
  cases inB (l.getD i 0) a b with
  | false => simp
  | true =>
   rw [if_pos rfl]
   by_cases hz : i = 0
   ·
    subst hz
    rw [if_neg (by omega), hw.1]
    simpa using ih'
   rw [if_pos (by omega), hw.2, if_pos (by omega), if_pos (by omega), hw.1]
   have e3 : rd l ((i : Int) - 1) = l.getD (i - 1) 0 := by
    unfold rd
    congr 1
    omega
   rw [e3]
   by_cases hge : l.getD (i - 1) 0 ≥ l.getD i 0
   rotate_left
   ·
    rw [if_neg hge, ih']
    have : l.getD (i - 1) 0 < l.getD i 0 := by omega
    simp only [decide_eq_true this, Bool.or_true, Bool.true_and]
   rw [if_pos hge]
   simp only [decide_eq_false hz, decide_eq_false (show ¬ l.getD (i - 1) 0 < l.getD i 0 from by omega), Bool.or_false, Bool.and_false, Bool.false_and]
theorem rising_f (l : List Int) (a b : Int) (hl : l.length ≤ 9223372036854775807) : match_rising.f (l.length + 1) l a b = some (risB l a b) := by
 have h := rising_loop l a b hl l.length (l.length + 1) 0 (by omega) (by omega) (by omega)
 unfold match_rising.f risB
 simpa using h
theorem rising_calls (A : Option Addr) (c : Nat) (l : List Int) (a b : Int) (w : World) (hr : Kd.C (Kd.int .i64) w A l.length l) (hc : l.length ≤ c) (hl : l.length ≤ 9223372036854775807) :
  Calls Try.prog 68 #[.slice A l.length c, .int .i64 a, .int .i64 b] w fun e w' => e = .returned (.bool (risB l a b)) ∧ Drawn0 w w' :=
 match_rising.calls (l.length + 1) A c l a b _ w hr hc (rising_f l a b hl)
theorem notris_calls (A : Option Addr) (c : Nat) (l : List Int) (B : Nat) (A1 : Option Addr) (n1 c1 : Nat) (w : World) (hb : w.cell? ⟨B, 1, none⟩ = some (.slice A1 n1 c1)) (hn : n1 ≤ 200) (hr : Kd.C (Kd.int .i64) w A l.length l) (hc : l.length ≤ c) (hl : l.length ≤ 9223372036854775807) :
  Calls Try.prog 84 #[.slice A l.length c, .pointer (some ⟨B, 0, none⟩)] w fun e w' => e = .returned (.bool (!risB l 0 ((n1 : Int) - 1))) ∧ Drawn0 w w' := by
 have RC := rising_calls A c l 0 ((n1 : Int) - 1) w hr hc hl
 go_enter Try.func84, Try.ntmps84
 go_wp2_with fail
 refine RC.mono ?_
 clear RC
 rintro e w' ⟨rfl, hd⟩
 go_wp2_with fail
 go_ret
 exact ⟨rfl, hd⟩
def IdxPost (p : List Int → Bool) (T : List (List Int)) (w : World) (e : Ending) (w' : World) : Prop := ∃ r : Int, e = .returned (.int .i64 r) ∧ decide (0 ≤ r) = !(T.all p) ∧ Drawn0 w w'
theorem Drawn0.trans' {a b c : World} (h : Drawn0 a b) (k : Drawn0 b c) : Drawn0 a c := by
 obtain ⟨n, rfl⟩ := h
 obtain ⟨m, rfl⟩ := k
 exact ⟨⟨n + m, World.drewN_drewN ..⟩⟩
set_option maxRecDepth 100000 in
set_option maxHeartbeats 2000000 in
theorem idxfunc_calls (A2 : Option Addr) (c2 : Nat) (T : List (List Int)) (B : Nat) (A1 : Option Addr) (n1 c1 : Nat) (w : World) (hb : w.cell? ⟨B, 1, none⟩ = some (.slice A1 n1 c1)) (hn : n1 ≤ 200) (hr : Kd.C (Kd.slice 3 (Kd.int .i64)) w A2 T.length T) (hl : T.length ≤ 1000000) :
  Calls Try.prog 93 #[.slice A2 T.length c2, .func (.func 84) #[] #[.pointer (some ⟨B, 0, none⟩)]] w (IdxPost (fun l => risB l 0 ((n1 : Int) - 1)) T w) := by
 have HR := Go.Lib.hid hr
 have HB := Go.Lib.hid hb
 clear hr hb
 go_enter Try.func93, Try.ntmps93
 go_wp2_with fail
 go_loopw [8] (fun i wr => ∃ k : Nat, k ≤ T.length ∧ i = .int .i64 k ∧ Hid ((T.take k).all (fun l => risB l 0 ((n1 : Int) - 1)) = true ∧ Drawn0 w wr)) (fun i _ => T.length - (intOf i).toNat)
 case atStart => exact ⟨0, Nat.zero_le _, rfl, rfl, Drawn0.refl _⟩
 obtain ⟨k, hk, rfl, HID⟩ := hrel
 obtain ⟨hall, hd⟩ := HID.out
 by_cases hlt : k < T.length
 rotate_left
 ·
  obtain rfl : k = T.length := by omega
  rw [List.take_length] at hall
  have HAL := Go.Lib.hid hall
  have HD := Go.Lib.hid hd
  clear hall hd HID
  go_wp2_with fail
  go_ret
  exact ⟨-1, rfl, by rw [HAL.out]; rfl, HD.out⟩
 have hbl := hd.below
 obtain ⟨a, A, c, e2, hx, hlc, hC⟩ := rows_at (Kd.C_below HR.out hbl) (k : Int) (by omega) (by omega)
 rw [Int.toNat_natCast] at hx hlc hC
 have hcap : (T.getD k []).length ≤ 9223372036854775807 := hC.2.1
 obtain ⟨row, hrw⟩ : ∃ row, T.getD k [] = row := ⟨_, rfl⟩
 rw [hrw] at hx hlc hC hcap
 have NR := notris_calls A c row B A1 n1 c1 wr ((hbl.cell (World.block_lt_of_cell? w _ HB.out)).trans HB.out) hn hC hlc hcap
 have htk : T.take (k + 1) = T.take k ++ [row] := by
  rw [List.take_succ_eq_append_getElem hlt, ← hrw]
  simp [List.getD_eq_getElem?_getD, List.getElem?_eq_getElem hlt]
 have HTK := Go.Lib.hid htk
 have HRW := Go.Lib.hid hrw
 have HAL := Go.Lib.hid hall
 have HD := Go.Lib.hid hd
 have e2' := e2
 clear htk hrw hall hd hbl hC HID
 subst e2'
 go_wp2_with fail
 refine NR.mono ?_
 clear NR
 rintro e w1 ⟨rfl, hd1⟩
 have HD1 := Go.Lib.hid (Drawn0.trans' HD.out hd1)
 clear hd1
 cases hrs : risB row 0 ((n1 : Int) - 1) with
 | true =>
  have HRS := Go.Lib.hid hrs
  rw [Bool.not_true]
  clear hrs
  go_wp2_with fail
  go_roundw
  case rel => exact ⟨k + 1, by omega, by simp, by rw [HTK.out, List.all_append, HAL.out]; simp [HRS.out], HD1.out⟩
  case measure => simp [intOf]; omega
 | false =>
  have HRS := Go.Lib.hid hrs
  rw [Bool.not_false]
  clear hrs
  go_wp2_with fail
  go_ret
  refine ⟨(k : Int), rfl, ?_, HD1.out⟩
  have hf : T.all (fun l => risB l 0 ((n1 : Int) - 1)) = false := by
   rw [List.all_eq_false]
   refine ⟨row, ?_, by rw [HRS.out]; simp⟩
   rw [← HRW.out, List.getD_eq_getElem?_getD, List.getElem?_eq_getElem hlt]
   exact List.getElem_mem hlt
  rw [hf]
  simp
theorem contfunc_calls (A2 : Option Addr) (c2 : Nat) (T : List (List Int)) (B : Nat) (A1 : Option Addr) (n1 c1 : Nat) (w : World) (hb : w.cell? ⟨B, 1, none⟩ = some (.slice A1 n1 c1)) (hn : n1 ≤ 200) (hr : Kd.C (Kd.slice 3 (Kd.int .i64)) w A2 T.length T) (hl : T.length ≤ 1000000) :
  Calls Try.prog 83 #[.slice A2 T.length c2, .func (.func 84) #[] #[.pointer (some ⟨B, 0, none⟩)]] w fun e w' => e = .returned (.bool (!(T.all fun l => risB l 0 ((n1 : Int) - 1)))) ∧ Drawn0 w w' := by
 have IC := idxfunc_calls A2 c2 T B A1 n1 c1 w hb hn hr hl
 go_enter Try.func83, Try.ntmps83
 go_wp2_with fail
 refine IC.mono ?_
 clear IC
 rintro e w' ⟨r, rfl, hr1, hd⟩
 have HR1 := Go.Lib.hid hr1
 clear hr1
 go_wp2_with fail
 go_ret
 exact ⟨by rw [← HR1.out]; rfl, hd⟩
end Go.Proofs.Ytkmmihadcbfkoaa
end

section
namespace Go.Proofs.Ytkmmihadcbfkoaa
open Go.RowKit Go.Proofs.YtkmmihadcbfkoaaW.PrintWords PM
set_option linter.unusedVariables false
set_option linter.unusedSimpArgs false
theorem index_loop (l : List Int) (x : Int) (hl : l.length ≤ 9223372036854775807) (d : Nat) : ∀ (k i : Nat), l.length - i = d → i ≤ l.length → d < k →
  ∃ r, slices_Index_int_int.l0 k l x (l.length : Int) (i : Int) = some r ∧ decide (r ≥ 0) = decide (x ∈ l.drop i) := by
 induction d with
 | zero =>
  intro k i hd hi hk
  obtain ⟨k, rfl⟩ : ∃ m, k = m + 1 := ⟨k - 1, by omega⟩
  simp only [slices_Index_int_int.l0]
  rw [if_neg (by omega), List.drop_of_length_le (by omega)]
  exact ⟨-1, rfl, by simp⟩
 | succ d ih =>
  intro k i hd hi hk
  obtain ⟨k, rfl⟩ : ∃ m, k = m + 1 := ⟨k - 1, by omega⟩
  have hlt : i < l.length := by omega
  simp only [slices_Index_int_int.l0]
  rw [if_pos (by omega), if_pos (by omega), if_pos (by omega), List.drop_eq_getElem_cons hlt]
  have e1 : rd l (i : Int) = l[i] := by simp [rd, List.getD_eq_getElem?_getD, List.getElem?_eq_getElem hlt]
  rw [e1, (wrap_pm (i := (i : Int)) (by omega) (by omega)).1]
  by_cases h : x = l[i]
  ·
   rw [if_pos h]
   exact ⟨(i : Int), rfl, by rw [decide_eq_true (List.mem_cons.2 (Or.inl h)), decide_eq_true (by omega)]⟩
  rw [if_neg h]
  obtain ⟨r, h1, h2⟩ := ih k (i + 1) (by omega) (by omega) (by omega)
  exact ⟨r, by rw [← h1, show (((i + 1 : Nat)) : Int) = (i : Int) + 1 from by omega], by rw [h2]; exact decide_eq_decide.2 ⟨fun hm => List.mem_cons.2 (Or.inr hm), fun hm => (List.mem_cons.1 hm).resolve_left h⟩⟩
theorem contains_f (l : List Int) (x : Int) (hl : l.length ≤ 9223372036854775807) : slices_Contains_int_int.f (l.length + 1) l x = some (decide (x ∈ l)) := by
 obtain ⟨r, h1, h2⟩ := index_loop l x hl l.length (l.length + 1) 0 (by omega) (by omega) (by omega)
 unfold slices_Contains_int_int.f slices_Index_int_int.f
 rw [show ((0 : Nat) : Int) = 0 from rfl] at h1
 rw [h1, Option.bind_some, h2]
 rfl
theorem contains_calls (A : Option Addr) (c : Nat) (l : List Int) (x : Int) (w : World) (hr : Kd.C (Kd.int .i64) w A l.length l) (hc : l.length ≤ c) :
  Calls Try.prog 59 #[.slice A l.length c, .int .i64 x] w fun e w' => e = .returned (.bool (decide (x ∈ l))) ∧ Drawn0 w w' :=
 slices_Contains_int_int.calls (l.length + 1) A c l x _ w hr hc (contains_f l x hr.2.1)
end Go.Proofs.Ytkmmihadcbfkoaa
end

section
namespace Go.Proofs.Ytkmmihadcbfkoaa
open Go.RowKit Go.Proofs.YtkmmihadcbfkoaaW.PrintWords PM
set_option linter.unusedVariables false
set_option linter.unusedSimpArgs false
theorem row_of_own {w : World} {b n c g : Nat} {xs : List Int} (h : w.ownsRow b 3 1 (.slice (some ⟨g, 0, none⟩) n c) n (xs.map (Value.int .i64))) :
  RowAt w g 3 (Value.int .i64) xs ∧ szOf (w.heap[g]?) = c ∧ xs.length = n ∧ n ≤ c ∧ c ≤ maxLen ∧ b ≤ g := by
 have hl : xs.length = n := by have := h.1; simpa using this
 rcases h.2 with ⟨e, _⟩ | ⟨g', cap, cur, e, hb, hh, hle, hmx, hsz, htk⟩
 ·
  cases e
 injection e with e1 e2 e3
 injection e1 with e1
 injection e1 with e1
 subst e1; subst e3
 refine ⟨⟨cur, hh, fun j hj => ?_⟩, by rw [hh]; simpa [szOf] using hsz, hl, hle, hmx, hb⟩
 have h2 : (cur.toList.take (n * 1))[j]? = (xs.map (Value.int .i64))[j]? := by rw [htk]
 rw [List.getElem?_take_of_lt (by omega), List.getElem?_map, List.getElem?_eq_getElem hj] at h2
 rw [← Array.getElem?_toList, h2]
 rfl
theorem own_of_row {w : World} {b n c g : Nat} {xs : List Int} (h : RowAt w g 3 (Value.int .i64) xs) (hsz : szOf (w.heap[g]?) = c) (hl : xs.length = n) (hle : n ≤ c) (hmx : c ≤ maxLen) (hb : b ≤ g) :
  w.ownsRow b 3 1 (.slice (some ⟨g, 0, none⟩) n c) n (xs.map (Value.int .i64)) := by
 obtain ⟨cs, hh, hc⟩ := h
 rw [hh] at hsz
 have hsz : cs.size = c := hsz
 refine ⟨by simpa using hl, Or.inr ⟨g, c, cs, rfl, hb, hh, hle, hmx, by omega, ?_⟩⟩
 apply List.ext_getElem?
 intro j
 by_cases hj : j < n
 rotate_left
 ·
  rw [List.getElem?_eq_none (by simp; omega), List.getElem?_eq_none (by simp; omega)]
 rw [List.getElem?_take_of_lt (by omega), List.getElem?_map, List.getElem?_eq_getElem (show j < xs.length by omega), Array.getElem?_toList]
 exact hc j (by omega)
theorem C_of_row {w : World} {b n : Nat} {xs : List Int} (h : RowAt w b 3 (Value.int .i64) xs) (hl : xs.length = n) (hn : n ≤ 9223372036854775807) : Kd.C (Kd.int .i64) w (some ⟨b, 0, none⟩) n xs :=
 Kd.C_of_reads (enc := Value.int .i64) (d := (0 : Int)) (h1 := fun _ => rfl) ⟨hl, hn, fun _ => ⟨⟨b, 0, none⟩, rfl, fun j hj => by
  rw [add_plain, h.cell j (by omega)]
  simp [List.getD_eq_getElem?_getD, List.getElem?_eq_getElem (show j < xs.length by omega)]⟩⟩
structure WR where
 ok : Bool
 has : List Int
def withF (fits : List (List Int)) (room : List Int) (ns : Nat) (has : List Int) (find : Nat) (slot : Int) : WR :=
 if slot ∉ fits.getD find [] then ⟨false, []⟩
 else if has.getD find 0 = slot then ⟨true, has⟩
 else if (room.set slot.toNat (room.getD slot.toNat 0 - 1)).getD slot.toNat 0 < ld (has.set find (-1)) slot then
  if (giveR fits (room.set slot.toNat (room.getD slot.toNat 0 - 1)) ns ((atOf (has.set find (-1)) slot).getD 0 0) ((has.set find (-1)).set ((atOf (has.set find (-1)) slot).getD 0 0).toNat (-1))).ok then
   ⟨true, (giveR fits (room.set slot.toNat (room.getD slot.toNat 0 - 1)) ns ((atOf (has.set find (-1)) slot).getD 0 0) ((has.set find (-1)).set ((atOf (has.set find (-1)) slot).getD 0 0).toNat (-1))).has.set find slot⟩
  else ⟨false, []⟩
 else ⟨true, (has.set find (-1)).set find slot⟩
def WithPost (r : WR) (w : World) (e : Ending) (w' : World) : Prop :=
 ∃ v, e = .returned (.tuple #[v, .bool r.ok]) ∧ Kd.R (Kd.int .i64) 3 w' w.heap.size (fun _ => True) v r.has ∧ Below w.heap.size w w'
theorem copied_calls (A : Option Addr) (c : Nat) (l : List Int) (w : World) (hr : Kd.C (Kd.int .i64) w A l.length l) (hc : l.length ≤ c) (hl : l.length ≤ 1000) :
  Calls Try.prog 88 #[.slice A l.length c] w fun e w' => ∃ v, e = .returned v ∧ Kd.R (Kd.int .i64) 3 w' w.heap.size (fun _ => True) v l ∧ Below w.heap.size w w' :=
 match_copied_int_88.calls A c l l w hr hc (by
  unfold match_copied_int_88.f
  rw [Option.bind_some, if_pos (by simp; omega)]
  rfl)
structure TGood (t : TL) (fits : List (List Int)) (room has : List Int) (w : World) : Prop where
 fit : TFit t fits room
 st : TStands t fits room w
 row : RowAt w t.bh 3 (Value.int .i64) has
 len : has.length = t.nh
 capr : room.length ≤ t.cr
 caph : t.nh ≤ t.ch
 rooms : ∀ i : Nat, i < t.n1 → 1 ≤ room.getD i 0 ∧ room.getD i 0 ≤ 20
 s0 : ∃ A n c, t.s0 = .slice A n c
 caps : ∀ i : Nat, i < fits.length → (fits.getD i []).length ≤ t.rc i
theorem copied_new {t : TL} {fits : List (List Int)} {room has : List Int} {w w2 w3 : World} {a2 : Addr} {As : Option Addr} {ns cs find b2 cv ch : Nat} {Av Ah : Option Addr} (fit : TFit t fits room) (rows : RowsAt w (some a2) t.ra t.rc fits) (len : has.length = t.nh) (hfd : find < t.nh)
  (hb2 : Below w.heap.size w w2) (hb2s : w.heap.size ≤ b2) (hRr : Kd.R (Kd.int .i64) 3 w2 b2 (fun _ => True) (.slice Av room.length cv) room) (hbh : Below w2.heap.size w2 w3) (hRh : Kd.R (Kd.int .i64) 3 w3 w2.heap.size (fun _ => True) (.slice Ah has.length ch) has) :
  ∃ Bh, Ah = some ⟨Bh, 0, none⟩ ∧ has.length ≤ ch ∧ ch ≤ maxLen ∧ szOf ((w3.alloc (.cells #[.slice As ns cs, .slice t.A1 t.n1 t.c1, .slice (some a2) fits.length t.c2, .slice Av room.length cv, .slice (some ⟨Bh, 0, none⟩) t.nh ch] 80)).heap[Bh]?) = ch ∧
   TNew w { g := w3.heap.size, bh := Bh, s0 := .slice As ns cs, A1 := t.A1, n1 := t.n1, c1 := t.c1, A2 := some a2, c2 := t.c2, ra := t.ra, rc := t.rc, Ar := Av, cr := cv, nh := t.nh, ch := ch } fits room has
    (w3.alloc (.cells #[.slice As ns cs, .slice t.A1 t.n1 t.c1, .slice (some a2) fits.length t.c2, .slice Av room.length cv, .slice (some ⟨Bh, 0, none⟩) t.nh ch] 80)) := by
 have hoh := Kd.own_of_R hRh
 have hor := Kd.own_of_R hRr
 obtain ⟨Bh, rfl⟩ : ∃ Bh, Ah = some ⟨Bh, 0, none⟩ := by
  rcases hoh.2 with ⟨_, hz⟩ | ⟨g, _, _, e, _⟩
  ·
   omega
  ·
   injection e with e1
   exact ⟨g, e1⟩
 obtain ⟨hrow, hsz, _, hle, hmx, hbl⟩ := row_of_own hoh
 have hal := (Below.refl w3.heap.size w3).alloc (Nat.le_refl _) (.cells #[.slice As ns cs, .slice t.A1 t.n1 t.c1, .slice (some a2) fits.length t.c2, .slice Av room.length cv, .slice (some ⟨Bh, 0, none⟩) t.nh ch] 80)
 refine ⟨Bh, rfl, hle, hmx, ?_, World.alloc_heap_new _ _, hrow.below hal, ?_, ?_, ?_, rows, ?_, ?_, ⟨fit.slot, fit.room, fit.row, fit.finds, fit.ns, fit.nh⟩, len⟩
 ·
  rw [hal.block Bh hrow.lt]; exact hsz
 ·
  exact pw_own_below (pw_own_below (own_weaken hor hb2s) hbh) hal
 ·
  intro e
  have := own_lt hor Bh e
  omega
 ·
  exact (hb2.trans (hbh.mono hb2.size)).trans (hal.mono (Nat.le_trans hb2.size hbh.size))
 ·
  exact Nat.le_trans hb2.size hbh.size
 exact Nat.le_trans hb2.size hbl
theorem TNew.later {w0 w w' : World} {t : TL} {T : List (List Int)} {room has : List Int} (h : TNew w0 t T room has w) (hb : Below w.heap.size w w') : TNew w0 t T room has w' :=
 ⟨(hb.block t.g (Array.getElem?_eq_some_iff.1 h.gb).1).trans h.gb, h.row.below hb, pw_own_below h.own hb, h.ne, h.B.trans (hb.mono h.B.size), h.rows, h.gl, h.hl, h.fit, h.len⟩
theorem TNew.put {w0 w : World} {t : TL} {T : List (List Int)} {room has : List Int} (h : TNew w0 t T room has w) (i : Nat) (x : Int) :
  TNew w0 t T room (has.set i x) (w.setCell ⟨t.bh, i, none⟩ (.int .i64 x)) ∧ szOf ((w.setCell ⟨t.bh, i, none⟩ (.int .i64 x)).heap[t.bh]?) = szOf (w.heap[t.bh]?) := by
 have hgb : t.g ≠ t.bh := by
  intro e
  obtain ⟨cs, hc, _⟩ := h.row
  rw [← e, h.gb] at hc
  injection hc with hc
  injection hc with _ hc
  exact absurd hc (by decide)
 refine ⟨⟨(Below.heap_setCell _ _ _ _ hgb).trans h.gb, h.row.set i x, own_move h.own (fun k hk => Below.heap_setCell _ _ _ _ (fun e => h.ne (by rw [hk, e]))), h.ne, setCell_below h.B h.hl _, h.rows, h.gl, h.hl, h.fit, by rw [List.length_set]; exact h.len⟩, szOf_setCell _ _ _ _⟩
theorem row_result {w0 w : World} {bh nh ch : Nat} {has : List Int} (hrow : RowAt w bh 3 (Value.int .i64) has) (hsz : szOf (w.heap[bh]?) = ch) (hl : has.length = nh) (hle : nh ≤ ch) (hmx : ch ≤ maxLen) (hb : w0.heap.size ≤ bh) :
  Kd.R (Kd.int .i64) 3 w w0.heap.size (fun _ => True) (.slice (some ⟨bh, 0, none⟩) nh ch) has := by
 have := own_of_row hrow hsz hl hle hmx hb
 subst hl
 exact Kd.R_of_own (enc := Value.int .i64) (h1 := fun _ => rfl) (ok := fun _ => True) this (fun _ _ => trivial)
set_option maxRecDepth 100000 in
set_option maxHeartbeats 8000000 in
theorem with_calls (t : TL) (fits : List (List Int)) (room has : List Int) (find : Nat) (slot : Int) (w : World) (hfd : find < t.nh) (hG : TGood t fits room has w) :
  Calls Try.prog 67 #[.pointer (some ⟨t.g, 0, none⟩), .int .i64 find, .int .i64 slot] w (WithPost (withF fits room t.n1 has find slot) w) := by
 have hst := hG.st.still
 have f0 := hst.f0
 have f1 := hst.f1
 have f2 := hst.f2
 have f3 := hst.f3
 have f4 := hst.f4
 have hft : find < fits.length := by rw [hG.fit.finds]; exact hfd
 obtain ⟨a2, e2, hx, hC⟩ := hst.fits find hft
 have hcap := hG.caps find hft
 obtain ⟨rr, hrr⟩ : ∃ rr, withF fits room t.n1 has find slot = rr := ⟨_, rfl⟩
 rw [hrr]
 unfold withF at hrr
 obtain ⟨row, hrw⟩ : ∃ row, fits.getD find [] = row := ⟨_, rfl⟩
 have hslot := hG.fit.slot find hft
 rw [hrw] at hx hC hcap hrr hslot
 have CC := contains_calls (t.ra find) (t.rc find) row slot w hC hcap
 have HRR := Go.Lib.hid hrr
 have HG := Go.Lib.hid hG
 have HSL := Go.Lib.hid hslot
 rw [e2] at f2
 have HE2 := Go.Lib.hid e2
 have HF := Go.Lib.hid (And.intro f0 (And.intro f1 (And.intro f2 (And.intro f3 f4))))
 have hlf : (find : Int) < (fits.length : Int) := by omega
 have lFi : fits.length ≤ 1000 := by rw [hG.fit.finds]; exact hG.fit.nh
 clear hrr hG hC hst hrw hslot e2
 go_enter Try.func67, Try.ntmps67
 go_wp2_with fail
 refine CC.mono ?_
 clear CC
 rintro e w1 ⟨rfl, hd1⟩
 by_cases hin : slot ∈ row
 rotate_left
 ·
  rw [decide_eq_false hin]
  have hrr := HRR.out
  rw [if_pos hin] at hrr
  subst hrr
  have HB := Go.Lib.hid hd1.below
  clear hin hd1 HRR
  go_wp2_with fail
  go_ret2
  exact ⟨_, rfl, Kd.R_nil _ _ _ _ _, HB.out⟩
 rw [decide_eq_true hin]
 have hrr := HRR.out
 rw [if_neg (by simpa using hin)] at hrr
 have hb1 := hd1.below
 have g0 := pw_cell_below hb1 HF.out.1
 have g1 := pw_cell_below hb1 HF.out.2.1
 have g2 := pw_cell_below hb1 HF.out.2.2.1
 have g3 := pw_cell_below hb1 HF.out.2.2.2.1
 have g4 := pw_cell_below hb1 HF.out.2.2.2.2
 have hG := HG.out
 have hlr : room.length ≤ 1000 := by rw [hG.fit.room]; exact hG.fit.ns
 have hlh : t.nh ≤ 1000 := hG.fit.nh
 obtain ⟨As, ns, cs, es0⟩ := hG.s0
 rw [es0] at g0
 have HF0 := HF.out.1
 rw [es0] at HF0
 have HF0 := Go.Lib.hid HF0
 have HS0 := Go.Lib.hid es0
 clear es0
 have CR : ∀ W, Below w.heap.size w W → Calls Try.prog 88 #[.slice t.Ar room.length t.cr] W fun e w' => ∃ v, e = .returned v ∧ Kd.R (Kd.int .i64) 3 w' W.heap.size (fun _ => True) v room ∧ Below W.heap.size W w' := fun W hb =>
  copied_calls t.Ar t.cr room W (Kd.C_below hG.st.still.room hb) hG.capr hlr
 have CH : ∀ W, Below w.heap.size w W → Calls Try.prog 88 #[.slice (some ⟨t.bh, 0, none⟩) t.nh t.ch] W fun e w' => ∃ v, e = .returned v ∧ Kd.R (Kd.int .i64) 3 w' W.heap.size (fun _ => True) v has ∧ Below W.heap.size W w' := fun W hb => by
  have hC := C_of_row (hG.row.below hb) rfl (by rw [hG.len]; omega)
  have := copied_calls (some ⟨t.bh, 0, none⟩) t.ch has W hC (by rw [hG.len]; exact hG.caph) (by rw [hG.len]; exact hlh)
  rw [hG.len] at this
  exact this
 have hb0 : Below w.heap.size w w1.drew := hb1.drew
 have HRR := Go.Lib.hid hrr
 have HIN := Go.Lib.hid hin
 clear hrr hin hd1 hb1 hG f0 f1 f2 f3 f4 hx
 go_wp2_with fail
 go_region_held3 (fun w' => w'.cell? ⟨t.g, 0, none⟩ = some (.slice As ns cs) ∧ w'.cell? ⟨t.g, 1, none⟩ = some (.slice t.A1 t.n1 t.c1) ∧ w'.cell? ⟨t.g, 2, none⟩ = some (.slice (some a2) fits.length t.c2) ∧ w'.cell? ⟨t.g, 3, none⟩ = some (.slice t.Ar room.length t.cr) ∧ w'.cell? ⟨t.g, 4, none⟩ = some (.slice (some ⟨t.bh, 0, none⟩) t.nh t.ch) ∧ Below w.heap.size w w')
  (go_keep)
  (first
   | (go_at_call 88; refine (CR _ (by assumption)).mono ?_; rintro e w' ⟨vr, rfl, hRr, hbr⟩; obtain ⟨Av, cv, rfl, lv, _⟩ := Kd.R_reads hRr; have hb := Below.trans (‹Below w.heap.size w _›) (hbr.mono (Below.size ‹Below w.heap.size w _›)); have q0 := pw_cell_below hb HF0.out; have q1 := pw_cell_below hb HF.out.2.1; have q2 := pw_cell_below hb HF.out.2.2.1; have q3 := pw_cell_below hb HF.out.2.2.2.1; have q4 := pw_cell_below hb HF.out.2.2.2.2)
   | (go_at_call 88; refine (CH _ (by assumption)).mono ?_; rintro e w' ⟨vh, rfl, hRh, hbh⟩; obtain ⟨Ah, ch, rfl, lh, _⟩ := Kd.R_reads hRh; have hb := Below.trans (‹Below w.heap.size w _›) (hbh.mono (Below.size ‹Below w.heap.size w _›)); have hba : ∀ o, Below w.heap.size w (w'.alloc o) := fun o => hb.alloc hb.size o; have q0 := pw_cell_below hb HF0.out; have q1 := pw_cell_below hb HF.out.2.1; have q2 := pw_cell_below hb HF.out.2.2.1; have q3 := pw_cell_below hb HF.out.2.2.2.1; have q4 := pw_cell_below hb HF.out.2.2.2.2))
 obtain ⟨Bh, rfl, hle, hmx, hsz5, hN⟩ := copied_new (As := As) (ns := ns) (cs := cs) HG.out.fit (by rw [← HE2.out]; exact HG.out.st.still.fits) HG.out.len hfd (Below.trans (Below.drew (Below.refl _ _)) hbr |> fun h => hb0.trans (hbr.mono hb0.size)) hb0.size hRr hbh hRh
 have hlen := HG.out.len
 rw [hlen]
 have hlf1 : (find : Int) < (t.nh : Int) := by omega
 obtain ⟨W5, hW5⟩ : ∃ W5, w'.alloc (.cells #[.slice As ns cs, .slice t.A1 t.n1 t.c1, .slice (some a2) fits.length t.c2, .slice Av room.length cv, .slice (some ⟨Bh, 0, none⟩) t.nh ch] 80) = W5 := ⟨_, rfl⟩
 rw [hW5] at hN hsz5 ⊢
 obtain ⟨u, hug, hubh, hun1, hunh, huch, huAr, hucr, hNu⟩ : ∃ u : TL, u.g = w'.heap.size ∧ u.bh = Bh ∧ u.n1 = t.n1 ∧ u.nh = t.nh ∧ u.ch = ch ∧ u.Ar = Av ∧ u.cr = cv ∧ TNew w u fits room has W5 :=
  ⟨{ g := w'.heap.size, bh := Bh, s0 := .slice As ns cs, A1 := t.A1, n1 := t.n1, c1 := t.c1, A2 := some a2, c2 := t.c2, ra := t.ra, rc := t.rc, Ar := Av, cr := cv, nh := t.nh, ch := ch }, rfl, rfl, rfl, rfl, rfl, rfl, rfl, hN⟩
 obtain ⟨wg, hwg⟩ : ∃ wg, w'.heap.size = wg := ⟨_, rfl⟩
 rw [hwg] at hug ⊢
 clear hN
 have hN := hNu
 clear hNu
 subst hug hubh huch huAr hucr
 have c4 := cell_of_heap hN.gb (j := 4) rfl
 rw [hunh] at c4
 have cf := hN.row.cellD 0 (find : Int) (by omega) (by omega)
 rw [Int.toNat_natCast] at cf
 rw [hlen] at hle
 have hrm := HG.out.rooms slot.toNat
 have hrr := HRR.out
 obtain ⟨z, hz⟩ : ∃ z, has.getD find 0 = z := ⟨_, rfl⟩
 rw [hz] at hrr cf
 obtain ⟨jj, hjj, hje⟩ := List.getElem_of_mem HIN.out
 have hsb := HSL.out jj hjj
 rw [show row.getD jj 0 = slot from by rw [List.getD_eq_getElem?_getD, List.getElem?_eq_getElem hjj]; exact hje] at hsb
 obtain ⟨hs0, hs1⟩ := hsb
 have hrm := hrm (by omega)
 have hlr2 : (room.length : Int) = (t.n1 : Int) := by rw [HG.out.fit.room]
 have HN := Go.Lib.hid hN
 have HRR2 := Go.Lib.hid hrr
 have HSZ := Go.Lib.hid (And.intro hsz5 (And.intro hle (And.intro hmx (And.intro hun1 (And.intro hunh hlen)))))
 clear HRR hrr hN hsz5 hle hmx hun1 hunh hlen hz hwg hW5 hbr hbh hRr hRh lv lh hba hje hjj hb CR CH hb0
 clear q0 q1 q2 q3 q4 g0 g1 g2 g3 g4
 by_cases heq : z = slot
 ·
  have hrr := HRR2.out
  rw [if_pos heq] at hrr
  have HR0 := Go.Lib.hid hrr
  subst heq
  clear hrr hrm
  go_wp2_with fail
  go_ret2
  rw [← HR0.out]
  exact ⟨_, rfl, row_result HN.out.row HSZ.out.1 HSZ.out.2.2.2.2.2 HSZ.out.2.1 HSZ.out.2.2.1 HN.out.hl, HN.out.B⟩
 have g5 : (z == slot) = false := by simpa using heq
 have hrr := HRR2.out
 rw [if_neg heq] at hrr
 have fz := HN.out.row.frozen find
 obtain ⟨hN6, hsz6⟩ := HN.out.put find (-1)
 obtain ⟨Ab, eA, hc, hfz, hN7⟩ := hN6.set slot hs0 (by rw [hlr2]; exact hs1) (room.getD slot.toNat 0 - 1)
 have c3 := cell_of_heap hN6.gb (j := 3) rfl
 rw [eA] at c3
 have c46 := cell_of_heap hN6.gb (j := 4) rfl
 obtain ⟨v, hv⟩ : ∃ v, room.getD slot.toNat 0 = v := ⟨_, rfl⟩
 rw [hv] at hrm hc hN7 hrr
 obtain ⟨hv1, hv2⟩ := hrm
 have HRR3 := Go.Lib.hid hrr
 have HEA := Go.Lib.hid eA
 have hs2 : slot < (room.length : Int) := by rw [hlr2]; exact hs1
 have HN7 := Go.Lib.hid hN7
 have HSZ6 := Go.Lib.hid (hsz6.trans HSZ.out.1)
 clear heq hrr hN6 hN7 hsz6 eA hv hlr2
 go_wp2_with fail
 obtain ⟨W7, hW7⟩ : ∃ W7, (W5.setCell ⟨u.bh, find, none⟩ (.int .i64 (-1))).setCell ⟨Ab, slot.toNat, none⟩ (.int .i64 (v - 1)) = W7 := ⟨_, rfl⟩
 have hsz7 : szOf (W7.heap[u.bh]?) = u.ch := by rw [← hW7, szOf_setCell]; exact HSZ6.out
 have hN7 := HN7.out
 rw [hW7] at hN7 ⊢
 obtain ⟨h1, hh1⟩ : ∃ h1, has.set find (-1) = h1 := ⟨_, rfl⟩
 obtain ⟨room1, hro1⟩ : ∃ room1, room.set slot.toNat (v - 1) = room1 := ⟨_, rfl⟩
 have hlr1 : room1.length = room.length := by rw [← hro1]; simp
 have hrv : room1.getD slot.toNat 0 = v - 1 := by rw [← hro1]; simp [List.getD_eq_getElem?_getD, show slot.toNat < room.length by omega]
 have hrr := HRR3.out
 rw [hh1, hro1] at hN7
 rw [hh1, hro1, hrv] at hrr
 have hh1l : h1.length = t.nh := by rw [← hh1, List.length_set]; exact HSZ.out.2.2.2.2.2
 obtain ⟨Ab2, eA2, hc2, _, _⟩ := hN7.set slot hs0 (by rw [hlr1]; exact hs2) 0
 rw [HEA.out] at eA2
 injection eA2 with eA2
 injection eA2 with eA2
 subst eA2
 rw [hrv] at hc2
 have c3 := cell_of_heap hN7.gb (j := 3) rfl
 rw [HEA.out, hlr1] at c3
 have c4 := cell_of_heap hN7.gb (j := 4) rfl
 rw [HSZ.out.2.2.2.2.1] at c4
 have hz := hN7.row.ints
 have LC : ∀ W, Below W7.heap.size W7 W → Calls Try.prog 74 #[.pointer (some ⟨u.g, 0, none⟩), .int .i64 slot] W fun e w' => e = .returned (.int .i64 ((atOf h1 slot).length : Int)) ∧ Below W7.heap.size W7 w' := fun W hb => by
  refine (load_calls u.g (some ⟨u.bh, 0, none⟩) u.ch slot h1 (by rw [hh1l]; have := HG.out.fit.nh; omega) W (by rw [hh1l]; exact pw_cell_below hb c4) (hz.below hb)).mono ?_
  rintro e w' ⟨rfl, hb2⟩
  exact ⟨rfl, hb.trans (hb2.mono hb.size)⟩
 have hb0 : Below W7.heap.size W7 W7.drew := (Below.refl _ _).drew
 have HC7 := Go.Lib.hid (And.intro c3 hc2)
 have HN7' := Go.Lib.hid hN7
 have HSZ7 := Go.Lib.hid hsz7
 have HRO1 := Go.Lib.hid (And.intro hro1 (And.intro hh1l hlr1))
 have HZ := Go.Lib.hid hz
 rw [show ld h1 slot = ((atOf h1 slot).length : Int) from rfl] at hrr
 have HRR4 := Go.Lib.hid hrr
 clear hrr hh1 hro1 hlr1 hrv hh1l hN7 hsz7 hW7 c4 hz HN7 HSZ6 HRR3 HRR2 hc fz hfz c46
 by_cases hgt : v - 1 < ((atOf h1 slot).length : Int)
 rotate_left
 ·
  have g8 : decide (v - 1 < ((atOf h1 slot).length : Int)) = false := by simpa using hgt
  have hrr := HRR4.out
  rw [if_neg hgt] at hrr
  have HRR5 := Go.Lib.hid hrr
  clear hrr hgt HRR4
  go_region_held3 (fun w' => w'.cell? ⟨u.g, 3, none⟩ = some (.slice (some ⟨Ab, 0, none⟩) room.length u.cr) ∧ w'.cell? ⟨Ab, slot.toNat, none⟩ = some (.int .i64 (v - 1)) ∧ Below W7.heap.size W7 w')
   (go_keep)
   (first
    | (go_at_call 74; refine (LC _ (by assumption)).mono ?_; rintro e w8 ⟨rfl, hb8⟩; have f3 := pw_cell_below hb8 HC7.out.1; have f4 := pw_cell_below hb8 HC7.out.2))
  have hN8 := HN7'.out.later hb8
  have c4 := cell_of_heap hN8.gb (j := 4) rfl
  rw [HSZ.out.2.2.2.2.1] at c4
  have fz := hN8.row.frozen find
  have hlh1 : (find : Int) < (h1.length : Int) := by rw [HRO1.out.2.1]; exact hlf1
  obtain ⟨hN9, hsz9⟩ := hN8.put find slot
  have c49 := cell_of_heap hN9.gb (j := 4) rfl
  rw [HSZ.out.2.2.2.2.1] at c49
  have cf8 := hN8.row.cellD 0 (find : Int) (by omega) hlh1
  rw [Int.toNat_natCast] at cf8
  have hsz10 := hsz9.trans ((by rw [hb8.block u.bh HN7'.out.row.lt]; exact HSZ7.out : szOf (w8.heap[u.bh]?) = u.ch))
  have HN9 := Go.Lib.hid hN9
  have HSZ10 := Go.Lib.hid hsz10
  clear hN8 hN9 hsz9 hsz10 hb8 f3 f4
  go_wp2_with fail
  go_ret2
  rw [← HRR5.out]
  exact ⟨_, rfl, row_result HN9.out.row HSZ10.out (by rw [List.length_set]; exact HRO1.out.2.1) HSZ.out.2.1 HSZ.out.2.2.1 HN9.out.hl, HN9.out.B⟩
 have g8 : decide (v - 1 < ((atOf h1 slot).length : Int)) = true := by simpa using hgt
 have hrr := HRR4.out
 rw [if_pos hgt] at hrr
 have HRR5 := Go.Lib.hid hrr
 have HGT := Go.Lib.hid hgt
 clear hrr hgt HRR4
 go_region_held3 (fun w' => w'.cell? ⟨u.g, 3, none⟩ = some (.slice (some ⟨Ab, 0, none⟩) room.length u.cr) ∧ w'.cell? ⟨Ab, slot.toNat, none⟩ = some (.int .i64 (v - 1)) ∧ Below W7.heap.size W7 w')
  (go_keep)
  (first
   | (go_at_call 74; refine (LC _ (by assumption)).mono ?_; rintro e w8 ⟨rfl, hb8⟩; have f3 := pw_cell_below hb8 HC7.out.1; have f4 := pw_cell_below hb8 HC7.out.2))
 have hN8 := HN7'.out.later hb8
 have c4 := cell_of_heap hN8.gb (j := 4) rfl
 rw [HSZ.out.2.2.2.2.1] at c4
 have hsz8 : szOf (w8.heap[u.bh]?) = u.ch := by rw [hb8.block u.bh HN7'.out.row.lt]; exact HSZ7.out
 have AC := at_calls (some ⟨u.g, 0, none⟩) slot w8
 have hB9 : Below w8.heap.size w8 ((w8.alloc (.cells #[.pointer (some ⟨u.g, 0, none⟩)] 68)).alloc (.cells #[.int .i64 slot] 3)) := ((Below.refl _ w8).alloc (Nat.le_refl _) _).alloc (by simp) _
 have bT := ((Boxed.new w8 68 (.pointer (some ⟨u.g, 0, none⟩))).alloc (.cells #[.int .i64 slot] 3)).cell
 have bS := (Boxed.new (w8.alloc (.cells #[.pointer (some ⟨u.g, 0, none⟩)] 68)) 3 (.int .i64 slot)).cell
 simp only [World.size_alloc] at bS
 have CO := collect_in w8.heap.size (w8.heap.size + 1) u.g (some ⟨u.bh, 0, none⟩) u.ch slot h1 (by rw [HRO1.out.2.1]; have := HG.out.fit.nh; omega) _ bT bS (by rw [HRO1.out.2.1]; exact pw_cell_below hB9 c4) (hN8.row.below hB9).ints
 have HN8 := Go.Lib.hid hN8
 have HB9 := Go.Lib.hid hB9
 have HSZ8 := Go.Lib.hid hsz8
 clear hN8 c4 hsz8 hB9 bT bS hb8 f3 f4 LC hb0
 go_wp2_with fail
 refine AC.mono ?_
 clear AC
 rintro e w9 ⟨rfl, rfl⟩
 go_wp2_with fail
 refine CO.mono ?_
 clear CO
 rintro e w10 ⟨vl, rfl, ho, hb10⟩
 generalize (w8.alloc (.cells #[.pointer (some ⟨u.g, 0, none⟩)] 68)).alloc (.cells #[.int .i64 slot] 3) = w9 at *
 have hN10 := (HN8.out.later HB9.out).later hb10
 have hsz10 : szOf (w10.heap[u.bh]?) = u.ch := by
  rw [hb10.block u.bh (HN8.out.later HB9.out).row.lt, HB9.out.block u.bh HN8.out.row.lt]
  exact HSZ8.out
 obtain ⟨gs, hgs⟩ : ∃ gs, atOf h1 slot = gs := ⟨_, rfl⟩
 rw [hgs] at ho
 have hgt := HGT.out
 rw [hgs] at hgt
 have hrr := HRR5.out
 rw [hgs] at hrr
 obtain ⟨gn, rest, hgr, hgl⟩ : ∃ (gn : Nat) (rest : List Int), gs = (gn : Int) :: rest ∧ gn < h1.length := by
  cases hgc : gs with
  | nil => rw [hgc] at hgt; simp at hgt; omega
  | cons a rest =>
   have hm : a ∈ atOf h1 slot := by rw [hgs, hgc]; simp
   have := mem_atOf.1 hm
   exact ⟨a.toNat, rest, by rw [show ((a.toNat : Nat) : Int) = a by omega], by omega⟩
 rw [hgr] at ho hrr
 have hrr : (if (giveR fits room1 t.n1 (gn : Int) (h1.set gn (-1))).ok = true then (⟨true, (giveR fits room1 t.n1 (gn : Int) (h1.set gn (-1))).has.set find slot⟩ : WR) else ⟨false, []⟩) = rr := by
  simpa using hrr
 obtain ⟨Al, cl, rfl, _, hCl⟩ := Kd.R_reads (Kd.R_of_own (enc := Value.int .i64) (h1 := fun _ => rfl) (ok := fun _ => True) ho (fun _ _ => trivial))
 obtain ⟨al, eal, xl⟩ := Kd.at_int hCl (0 : Int) (by omega) (by simp)
 have xl : w10.cell? al = some (.int .i64 (gn : Int)) := by
  have : w10.cell? (al.add (0 : Int).toNat) = some (.int .i64 (gn : Int)) := xl
  simpa [Addr.add] using this
 have hlen0 : (0 : Int) < (((gn : Int) :: rest).length : Int) := by simp
 have c4 := cell_of_heap hN10.gb (j := 4) rfl
 rw [HSZ.out.2.2.2.2.1] at c4
 have fzg := hN10.row.frozen gn
 have cfg := hN10.row.cellD 0 (gn : Int) (by omega) (by omega)
 rw [Int.toNat_natCast] at cfg
 have hgl2 : (gn : Int) < (t.nh : Int) := by rw [HRO1.out.2.1] at hgl; omega
 obtain ⟨hN11, hsz11⟩ := hN10.put gn (-1)
 have GC := give_calls u fits room1 hN11.fit gn (by rw [HSZ.out.2.2.2.2.1]; omega) (h1.set gn (-1)) hN11.len _ hN11.stands hN11.row
 rw [HSZ.out.2.2.2.1] at GC
 obtain ⟨r, hr⟩ : ∃ r, giveR fits room1 t.n1 (gn : Int) (h1.set gn (-1)) = r := ⟨_, rfl⟩
 rw [hr] at GC hrr
 have hrl : r.has.length = t.nh := by rw [← hr, giveR_len, List.length_set]; exact HRO1.out.2.1
 have HRL := Go.Lib.hid hrl
 have HRR6 := Go.Lib.hid hrr
 have HN11 := Go.Lib.hid hN11
 have HSZ11 := Go.Lib.hid (hsz11.trans hsz10)
 subst eal
 clear hrr HRR5 hgt HGT hgs hgr ho hCl hN10 hsz10 hN11 hsz11 hr hrl hb10 HB9 HN8 HSZ8
 go_wp2_with fail
 unfold GivePost at GC
 obtain ⟨ok, hok⟩ : ∃ ok, r.ok = ok := ⟨_, rfl⟩
 rw [hok] at GC
 have hrr := HRR6.out
 rw [hok] at hrr
 clear hok
 cases ok with
 | false =>
  rw [if_neg (by simp)] at hrr
  subst hrr
  refine GC.mono ?_
  clear GC
  rintro e w12 ⟨vh, rfl, hag, _, _⟩
  have hB12 := hag.below HN11.out.B HN11.out.B.size HN11.out.hl HN11.out.hl
  have HB12 := Go.Lib.hid hB12
  clear hag hB12
  go_wp2_with fail
  go_ret2
  exact ⟨_, rfl, Kd.R_nil _ _ _ _ _, HB12.out⟩
 | true =>
  rw [if_pos rfl] at hrr
  have HRR7 := Go.Lib.hid hrr
  clear hrr
  refine GC.mono ?_
  clear GC
  rintro e w12 ⟨vh, rfl, hag, hrow12, _⟩
  have hB12 := hag.below HN11.out.B HN11.out.B.size HN11.out.hl HN11.out.hl
  have hst12 := (HN11.out.stands.later hag).still
  have c4 := hst12.f4
  rw [HSZ.out.2.2.2.2.1] at c4
  have fz := hrow12.frozen find
  have cf12 := hrow12.cellD 0 (find : Int) (by omega) (by rw [HRL.out]; exact hlf1)
  rw [Int.toNat_natCast] at cf12
  have hag13 : Agree u.bh u.bh w12 (w12.setCell ⟨u.bh, find, none⟩ (.int .i64 slot)) := Agree.set1 _ _ _
  have c413 := ((HN11.out.stands.later hag).later hag13).still.f4
  rw [HSZ.out.2.2.2.2.1] at c413
  have hrow13 := hrow12.set find slot
  have hsz13 : szOf ((w12.setCell ⟨u.bh, find, none⟩ (.int .i64 slot)).heap[u.bh]?) = u.ch := by
   rw [szOf_setCell, hag.cells u.bh HN11.out.row.lt]
   exact HSZ11.out
  have hB13 := setCell_below hB12 HN11.out.hl (p := ⟨u.bh, find, none⟩) (.int .i64 slot)
  have HROW13 := Go.Lib.hid hrow13
  have HSZ13 := Go.Lib.hid hsz13
  have HB13 := Go.Lib.hid hB13
  clear hag hB12 hst12 hag13 hrow13 hsz13 hB13 hrow12
  go_wp2_with fail
  go_ret2
  rw [← HRR7.out]
  exact ⟨_, rfl, row_result HROW13.out HSZ13.out (by rw [List.length_set]; exact HRL.out) HSZ.out.2.1 HSZ.out.2.2.1 HN11.out.hl, HB13.out⟩
end Go.Proofs.Ytkmmihadcbfkoaa
end

section
namespace Go.Proofs.Ytkmmihadcbfkoaa
set_option linter.unusedVariables false
set_option linter.unusedSimpArgs false
def lessR (room : List Int) (slot : Int) : List Int := room.set slot.toNat (room.getD slot.toNat 0 - 1)
theorem lessR_at {room : List Int} {slot : Int} (h : slot.toNat < room.length) (t : Nat) : (lessR room slot).getD t 0 = if t = slot.toNat then room.getD slot.toNat 0 - 1 else room.getD t 0 := getD_set room slot.toNat _ 0 t h
theorem asg_put {fits : List (List Int)} {room : List Int} {ns : Nat} (hf : FitsOk fits ns) (hrl : room.length = ns) {find : Nat} {slot : Int} (hfd : find < fits.length) (hin : slot ∈ fits.getD find []) {l : List Int} (ha : Asg fits (lessR room slot) ns find l) :
  Asg fits room ns (-1) (l.set find slot) ∧ (l.set find slot).getD find 0 = slot := by
 obtain ⟨hs0, hs1⟩ := hf find hfd slot hin
 have hfl : find < l.length := by rw [ha.len]; exact hfd
 have hm1 := ha.none find hfd (Or.inr rfl)
 refine ⟨⟨by rw [List.length_set]; exact ha.len, fun f h k => ?_, fun f h k1 k2 => ?_, fun s hs => ?_⟩, by rw [getD_set l find slot 0 find hfl, if_pos rfl]⟩
 ·
  rw [getD_set l find slot 0 f hfl]
  rcases k with k | k
  ·
   rw [if_neg (fun e => by rw [e] at k; rw [k] at hin; simp at hin)]
   exact ha.none f h (Or.inl k)
  omega
 ·
  rw [getD_set l find slot 0 f hfl]
  by_cases e : f = find
  ·
   rw [if_pos e, e]; exact hin
  rw [if_neg e]
  exact ha.some f h k1 (by omega)
 rw [ld_set l find slot s hfl, hm1, if_neg (by omega)]
 have h := ha.load s hs
 rw [lessR_at (by omega)] at h
 by_cases e : slot = (s : Int)
 rotate_left
 ·
  rw [if_neg e]
  rw [if_neg (by omega)] at h
  omega
 rw [if_pos e]
 rw [if_pos (by omega)] at h
 have : slot.toNat = s := by omega
 rw [this] at h
 omega
theorem asg_take {fits : List (List Int)} {room : List Int} {ns : Nat} (hrl : room.length = ns) {find : Nat} {slot : Int} (hfd : find < fits.length) (hs0 : 0 ≤ slot) (hs1 : slot < ns) {l : List Int} (ha : Asg fits room ns (-1) l) (hl : l.getD find 0 = slot) :
  Asg fits (lessR room slot) ns find (l.set find (-1)) := by
 have hfl : find < l.length := by rw [ha.len]; exact hfd
 refine ⟨by rw [List.length_set]; exact ha.len, fun f h k => ?_, fun f h k1 k2 => ?_, fun s hs => ?_⟩
 ·
  rw [getD_set l find (-1) 0 f hfl]
  by_cases e : f = find
  ·
   rw [if_pos e]
  rw [if_neg e]
  rcases k with k | k
  ·
   exact ha.none f h (Or.inl k)
  omega
 ·
  rw [getD_set l find (-1) 0 f hfl, if_neg (fun e => k2 (by omega))]
  exact ha.some f h k1 (by omega)
 rw [ld_set l find (-1) s hfl, hl, if_neg (show ¬ (-1 : Int) = (s : Int) by omega), lessR_at (by omega)]
 have h := ha.load s hs
 by_cases e : slot = (s : Int)
 rotate_left
 ·
  rw [if_neg e, if_neg (by omega)]
  omega
 have : slot.toNat = s := by omega
 rw [if_pos e, if_pos (by omega), this]
 omega
def Can (fits : List (List Int)) (room : List Int) (ns : Nat) (find : Nat) (slot : Int) : Prop := ∃ l, Asg fits room ns (-1) l ∧ l.getD find 0 = slot
theorem can_in {fits : List (List Int)} {room : List Int} {ns : Nat} {find : Nat} {slot : Int} (hfd : find < fits.length) (hs0 : 0 ≤ slot) (h : Can fits room ns find slot) : slot ∈ fits.getD find [] := by
 obtain ⟨l, ha, hl⟩ := h
 by_cases e : fits.getD find [] = []
 ·
  have := ha.none find hfd (Or.inl e)
  omega
 rw [← hl]
 exact ha.some find hfd e (by omega)
theorem can_iff {fits : List (List Int)} {room : List Int} {ns : Nat} (hf : FitsOk fits ns) (hrl : room.length = ns) {find : Nat} {slot : Int} (hfd : find < fits.length) (hin : slot ∈ fits.getD find []) : Can fits room ns find slot ↔ ∃ l, Asg fits (lessR room slot) ns find l := by
 obtain ⟨hs0, hs1⟩ := hf find hfd slot hin
 constructor
 ·
  rintro ⟨l, ha, hl⟩
  exact ⟨_, asg_take hrl hfd hs0 hs1 ha hl⟩
 rintro ⟨l, ha⟩
 exact ⟨_, asg_put hf hrl hfd hin ha⟩
theorem with_spec {fits : List (List Int)} {room : List Int} {ns : Nat} (hf : FitsOk fits ns) (hrl : room.length = ns) (hr1 : ∀ s : Nat, s < ns → 1 ≤ room.getD s 0) {has : List Int} (ha : Asg fits room ns (-1) has) {find : Nat} (hfd : find < fits.length) {slot : Int} (hs0 : 0 ≤ slot) :
  ((withF fits room ns has find slot).ok = true → Asg fits room ns (-1) (withF fits room ns has find slot).has ∧ (withF fits room ns has find slot).has.getD find 0 = slot) ∧
  ((withF fits room ns has find slot).ok = false → (withF fits room ns has find slot).has = [] ∧ ¬ Can fits room ns find slot) := by
 unfold withF
 by_cases h1 : slot ∉ fits.getD find []
 ·
  rw [if_pos h1]
  exact ⟨fun h => (by cases h), fun _ => ⟨rfl, fun h => h1 (can_in hfd hs0 h)⟩⟩
 rw [if_neg h1]
 have hin : slot ∈ fits.getD find [] := Classical.not_not.1 h1
 obtain ⟨_, hs1⟩ := hf find hfd slot hin
 have hfl : find < has.length := by rw [ha.len]; exact hfd
 by_cases h2 : has.getD find 0 = slot
 ·
  rw [if_pos h2]
  exact ⟨fun _ => ⟨ha, h2⟩, fun h => (by cases h)⟩
 rw [if_neg h2]
 have hfold : room.set slot.toNat (room.getD slot.toNat 0 - 1) = lessR room slot := rfl
 rw [hfold]
 have hl0 : ∀ t : Nat, ld (has.set find (-1)) t = ld has t - (if has.getD find 0 = (t : Int) then 1 else 0) := fun t => by
  rw [ld_set has find (-1) t hfl, if_neg (show ¬ (-1 : Int) = (t : Int) by omega), Int.add_zero]
 have hle0 : ∀ t : Nat, t < ns → ld (has.set find (-1)) t ≤ room.getD t 0 := fun t ht => by
  have := ha.load t ht
  rw [hl0]
  split <;> omega
 have hg0 : ∀ x : Nat, (has.set find (-1)).getD x 0 = if x = find then -1 else has.getD x 0 := fun x => getD_set has find (-1) 0 x hfl
 obtain ⟨has0, hh0⟩ : ∃ h0, has.set find (-1) = h0 := ⟨_, rfl⟩
 have hlen0 : has0.length = fits.length := by rw [← hh0, List.length_set]; exact ha.len
 rw [hh0] at hle0 hg0 hl0 ⊢
 have hroom1 : (lessR room slot).getD slot.toNat 0 = room.getD slot.toNat 0 - 1 := by rw [lessR_at (by omega), if_pos rfl]
 have hr1s := hr1 slot.toNat (by omega)
 by_cases h3 : (lessR room slot).getD slot.toNat 0 < ld has0 slot
 rotate_left
 ·
  rw [if_neg h3]
  refine ⟨fun _ => ?_, fun h => (by cases h)⟩
  refine asg_put hf hrl hfd hin ⟨hlen0, fun f h k => ?_, fun f h k1 k2 => ?_, fun s hs => ?_⟩
  ·
   rw [hg0]
   rcases k with k | k
   ·
    by_cases e : f = find
    ·
     rw [if_pos e]
    rw [if_neg e]; exact ha.none f h (Or.inl k)
   rw [if_pos (by omega)]
  ·
   rw [hg0, if_neg (by omega)]
   exact ha.some f h k1 (by omega)
  rw [lessR_at (by omega)]
  by_cases e : s = slot.toNat
  rotate_left
  ·
   rw [if_neg e]; exact hle0 s hs
  rw [if_pos e]
  rw [hroom1] at h3
  have : (s : Int) = slot := by omega
  rw [this]
  omega
 rw [if_pos h3]
 rw [hroom1] at h3
 have hne : atOf has0 slot ≠ [] := fun e => by
  have : ld has0 slot = 0 := by unfold ld; rw [e]; rfl
  omega
 have hgm : (atOf has0 slot).getD 0 0 ∈ atOf has0 slot := by
  obtain ⟨a, l, e⟩ := List.exists_cons_of_ne_nil hne
  rw [e]
  simp
 obtain ⟨gi, hgi⟩ : ∃ gi, (atOf has0 slot).getD 0 0 = gi := ⟨_, rfl⟩
 rw [hgi] at hgm ⊢
 obtain ⟨g0, g1, g2⟩ := mem_atOf.1 hgm
 rw [← List.getD_eq_getElem?_getD] at g2
 obtain ⟨g, rfl⟩ : ∃ g : Nat, gi = (g : Int) := ⟨gi.toNat, by omega⟩
 rw [Int.toNat_natCast] at g2 ⊢
 have hgl : g < has0.length := by omega
 have hgf : g ≠ find := fun e => by rw [hg0, if_pos e] at g2; omega
 have hag : has.getD g 0 = slot := by rw [hg0, if_neg hgf] at g2; exact g2
 have hg1 : ∀ x : Nat, (has0.set g (-1)).getD x 0 = if x = g then -1 else has0.getD x 0 := fun x => getD_set has0 g (-1) 0 x hgl
 have hl1 : ∀ t : Nat, ld (has0.set g (-1)) t = ld has0 t - (if slot = (t : Int) then 1 else 0) := fun t => by
  rw [ld_set has0 g (-1) t hgl, if_neg (show ¬ (-1 : Int) = (t : Int) by omega), Int.add_zero, g2]
 have hlen1 : (has0.set g (-1)).length = fits.length := by rw [List.length_set]; exact hlen0
 obtain ⟨has1, hh1⟩ : ∃ h1, has0.set g (-1) = h1 := ⟨_, rfl⟩
 rw [hh1] at hg1 hl1 hlen1 ⊢
 have pv : PV fits (lessR room slot) ns has1 := by
  refine ⟨hlen1, fun f h => ?_, fun s hs => ?_⟩
  ·
   rw [hg1, hg0]
   by_cases e1 : f = g
   ·
    rw [if_pos e1]; exact Or.inl rfl
   ·
    rw [if_neg e1]
    by_cases e2 : f = find
    ·
     rw [if_pos e2]; exact Or.inl rfl
    ·
     rw [if_neg e2]; exact (pv_of_asg ha).fit f h
  ·
   have := hle0 s hs
   rw [hl1, lessR_at (by omega)]
   by_cases e : s = slot.toNat
   ·
    rw [if_pos (by omega), if_pos e, ← e]; omega
   ·
    rw [if_neg (by omega), if_neg e]; omega
 have hm1 : has1.getD g 0 = -1 := by rw [hg1, if_pos rfl]
 have hmf : has1.getD find 0 = -1 := by rw [hg1, if_neg (fun e => hgf e.symm), hg0, if_pos rfl]
 have hgn : fits.getD g [] ≠ [] := fun e => by
  have := ha.none g (by omega) (Or.inl e)
  omega
 have hG := give_good (room := lessR room slot) hf (f := g) (by omega) hlen1
 have hH := give_hall hf (f := g) (by omega) pv hm1 hgn (out := (find : Int)) (by omega) (fun o ho _ => by
  have : o = find := by omega
  rw [this]; exact hmf)
 obtain ⟨r, hr⟩ : ∃ r, giveR fits (lessR room slot) ns (g : Int) has1 = r := ⟨_, rfl⟩
 rw [hr] at hG hH ⊢
 by_cases hok : r.ok = true
 rotate_left
 ·
  rw [if_neg hok]
  refine ⟨fun h => (by cases h), fun _ => ⟨rfl, fun h => ?_⟩⟩
  obtain ⟨l, hl⟩ := (can_iff hf hrl hfd hin).1 h
  exact asg_no_hall hf hl (hH (by simpa using hok))
 rw [if_pos hok]
 refine ⟨fun _ => ?_, fun h => (by cases h)⟩
 obtain ⟨w1, w2⟩ := hG.win hok pv
 rw [Int.toNat_natCast] at w2
 refine asg_put hf hrl hfd hin (asg_of_pv w1 (fun o ho hl => ?_) fun f h k1 k2 => ?_)
 ·
  have e : o = find := by omega
  subst e
  rcases w2.oth o hl (fun e => hgf e.symm) with k | ⟨k, _⟩
  ·
   rw [k]; exact hmf
  omega
 by_cases e : f = g
 ·
  subst e; exact w2.self.1
 rcases w2.oth f h e with k | ⟨_, k, _⟩
 ·
  rw [k, hg1, if_neg e, hg0, if_neg (by omega)]
  exact (hf f h _ (ha.some f h k1 (by omega))).1
 exact k
theorem with_iff {fits : List (List Int)} {room : List Int} {ns : Nat} (hf : FitsOk fits ns) (hrl : room.length = ns) (hr1 : ∀ s : Nat, s < ns → 1 ≤ room.getD s 0) {has : List Int} (ha : Asg fits room ns (-1) has) {find : Nat} (hfd : find < fits.length) {slot : Int} (hs0 : 0 ≤ slot) :
  (withF fits room ns has find slot).ok = true ↔ Can fits room ns find slot := by
 obtain ⟨h1, h2⟩ := with_spec hf hrl hr1 ha hfd hs0
 constructor
 ·
  intro h
  exact ⟨_, h1 h⟩
 intro h
 cases e : (withF fits room ns has find slot).ok with
 | true => rfl
 | false => exact absurd h (h2 e).2
end Go.Proofs.Ytkmmihadcbfkoaa
end

section
namespace Go.Proofs.Ytkmmihadcbfkoaa.PM
open Go.RowKit Go.Proofs.YtkmmihadcbfkoaaW.PrintWords Go.Proofs.YtkmmihadcbfkoaaW.PrintLast Go.Proofs.YtkmmihadcbfkoaaW.PrintMore
set_option linter.unusedVariables false
set_option linter.unusedSimpArgs false
def laganref04_ascending.l0 : Nat → List Int → Int → Int → Option (Bool)
 | 0, _, _, _ => none
 | k + 1, x0, x1, x5 => if x5 < (x0.length : Int) then (if 0 ≤ x5 then (if (rd x0 x5) < 0 then (some false) else (if (rd x0 x5) ≥ x1 then (some false) else (if x5 > 0 then (if 0 ≤ (wrap64 (x5 - 1)) then (if (wrap64 (x5 - 1)) < (x0.length : Int) then (if (rd x0 x5) ≤ (rd x0 (wrap64 (x5 - 1))) then (some false) else (laganref04_ascending.l0 k x0 x1 (wrap64 (x5 + 1)))) else (none)) else (none)) else (laganref04_ascending.l0 k x0 x1 (wrap64 (x5 + 1)))))) else (none)) else (some true)
def laganref04_ascending.f (k : Nat) (l0 : List Int) (a1 : Int) : Option (Bool) := laganref04_ascending.l0 k l0 a1 0
set_option maxHeartbeats 8000000 in
set_option maxRecDepth 100000 in
theorem laganref04_ascending.calls (k : Nat) (A0 : Option Addr) (c0 : Nat) (l0 : List Int) (a1 : Int) (r : Bool) (w : World) (hr0 : Kd.C (Kd.int .i64) w A0 l0.length l0) (hc0 : l0.length ≤ c0) (h : laganref04_ascending.f k l0 a1 = some r) :
  Calls Try.prog 62 #[.slice A0 l0.length c0, .int .i64 a1] w fun e w' => e = .returned (.bool r) ∧ Drawn0 w w' := by
 have HR0 := Aside0.mk hr0
 have HC0 := Aside0.mk hc0
 clear hr0 hc0
 have H : (laganref04_ascending.l0 k l0 a1 0) = some r := h
 clear h
 have H' := Aside0.mk H
 clear H
 go_enter Try.func62, Try.ntmps62
 go_wp2
 repeat (go_quiet (fail); try go_wp2)
 go_loopg [5] k (fun kq v5 w' => ∃ (aN : Int), v5 = .int .i64 aN ∧ Aside0 (laganref04_ascending.l0 kq l0 a1 aN = some r) ∧ Aside0 (kq ≤ k) ∧ Drawn0 w w')
 case atStart => exact ⟨(0), (by first | rfl | (simp; done) | (simp [*]; done)), H', ⟨Nat.le_refl _⟩, by repeat (first | exact Drawn0.refl _ | apply Drawn0.step)⟩
 clear H'
 obtain ⟨aN, rfl, HA, HK1, ⟨m1, rfl⟩⟩ := hrel
 cases gk with
 | zero => exact absurd HA.out (by simp [laganref04_ascending.l0])
 | succ k1 =>
  have H := HA.out
  clear HA
  simp only [laganref04_ascending.l0] at H
  by_cases c3 : aN < (l0.length : Int)
  rotate_left
  ·
   rw [if_neg c3] at H
   have c3b0 : decide (aN < (l0.length : Int)) = false := decide_eq_false c3
   clear c3
   obtain rfl := Option.some.inj H
   go_wp2
   repeat (go_quiet (fail); try go_wp2)
   go_ret
   exact ⟨by first | rfl | (simp; done) | (simp [*]; done), by repeat (first | exact Drawn0.refl _ | apply Drawn0.step)⟩
  rw [if_pos c3] at H
  have c3b0 : decide (aN < (l0.length : Int)) = true := decide_eq_true c3
  clear c3
  by_cases c4 : 0 ≤ aN
  rotate_left
  ·
   rw [if_neg c4] at H
   exact absurd H (by simp)
  rw [if_pos c4] at H
  have c4b0 : decide (0 ≤ aN) = true := decide_eq_true c4
  clear c4
  by_cases c5 : (rd l0 aN) < 0
  ·
   rw [if_pos c5] at H
   have c5b0 : decide ((rd l0 aN) < 0) = true := decide_eq_true c5
   clear c5
   obtain rfl := Option.some.inj H
   have p128 : 0 ≤ (aN : Int) := of_decide_eq_true (by assumption)
   have q128 : aN < (l0.length : Int) := of_decide_eq_true (by assumption)
   obtain ⟨ad128, e128, iM⟩ := Kd.at_int HR0.out aN p128 q128
   cases e128
   replace p128 := eq_true p128
   replace q128 := eq_true q128
   go_wp2
   repeat (go_quiet (fail); try go_wp2)
   go_ret
   exact ⟨by first | rfl | (simp; done) | (simp [*]; done), by repeat (first | exact Drawn0.refl _ | apply Drawn0.step)⟩
  rw [if_neg c5] at H
  have c5b0 : decide ((rd l0 aN) < 0) = false := decide_eq_false c5
  clear c5
  by_cases c6 : (rd l0 aN) ≥ a1
  ·
   rw [if_pos c6] at H
   have c6b0 : decide (a1 ≤ (rd l0 aN)) = true := decide_eq_true c6
   clear c6
   obtain rfl := Option.some.inj H
   have p128 : 0 ≤ (aN : Int) := of_decide_eq_true (by assumption)
   have q128 : aN < (l0.length : Int) := of_decide_eq_true (by assumption)
   obtain ⟨ad128, e128, iM⟩ := Kd.at_int HR0.out aN p128 q128
   cases e128
   replace p128 := eq_true p128
   replace q128 := eq_true q128
   have p129 : 0 ≤ (aN : Int) := of_decide_eq_true (by assumption)
   have q129 : aN < (l0.length : Int) := of_decide_eq_true (by assumption)
   obtain ⟨ad129, e129, jZ⟩ := Kd.at_int HR0.out aN p129 q129
   obtain rfl : ad128 = ad129 := (by injection e129)
   replace p129 := eq_true p129
   replace q129 := eq_true q129
   go_wp2
   repeat (go_quiet (fail); try go_wp2)
   go_ret
   exact ⟨by first | rfl | (simp; done) | (simp [*]; done), by repeat (first | exact Drawn0.refl _ | apply Drawn0.step)⟩
  rw [if_neg c6] at H
  have c6b0 : decide (a1 ≤ (rd l0 aN)) = false := decide_eq_false c6
  clear c6
  by_cases c7 : aN > 0
  rotate_left
  ·
   rw [if_neg c7] at H
   have c7b0 : decide (0 < aN) = false := decide_eq_false c7
   clear c7
   have H' := Aside0.mk H
   clear H
   have p128 : 0 ≤ (aN : Int) := of_decide_eq_true (by assumption)
   have q128 : aN < (l0.length : Int) := of_decide_eq_true (by assumption)
   obtain ⟨ad128, e128, iM⟩ := Kd.at_int HR0.out aN p128 q128
   cases e128
   replace p128 := eq_true p128
   replace q128 := eq_true q128
   have p129 : 0 ≤ (aN : Int) := of_decide_eq_true (by assumption)
   have q129 : aN < (l0.length : Int) := of_decide_eq_true (by assumption)
   obtain ⟨ad129, e129, jZ⟩ := Kd.at_int HR0.out aN p129 q129
   obtain rfl : ad128 = ad129 := (by injection e129)
   replace p129 := eq_true p129
   replace q129 := eq_true q129
   go_wp2
   repeat (go_quiet (fail); try go_wp2)
   go_roundg k1
   case measure => have := HK1.out; omega
   case rel => exact ⟨(wrap64 (aN + 1)), (by first | rfl | (simp; done) | (simp [*]; done)), H', ⟨by have := HK1.out; omega⟩, by repeat (first | exact Drawn0.refl _ | apply Drawn0.step)⟩
  rw [if_pos c7] at H
  have c7b0 : decide (0 < aN) = true := decide_eq_true c7
  clear c7
  obtain ⟨ji8, hji8⟩ : ∃ j_ : Int, (wrap64 (aN - 1)) = j_ := ⟨_, rfl⟩
  replace H : (if 0 ≤ (ji8) then (if (ji8) < (l0.length : Int) then (if (rd l0 aN) ≤ (rd l0 (ji8)) then (some false) else (laganref04_ascending.l0 k1 l0 a1 (wrap64 (aN + 1)))) else (none)) else (none)) = some r := by first | (rw [hji8] at H; exact H) | (simp only [hji8] at H ⊢; exact H)
  have hji8w : (IntKind.i64.wrap (aN - 1)) = ji8 := (i64_w _).trans hji8
  by_cases c9 : 0 ≤ (ji8)
  rotate_left
  ·
   rw [if_neg c9] at H
   exact absurd H (by simp)
  rw [if_pos c9] at H
  have c9b0 : decide (0 ≤ (ji8)) = true := decide_eq_true c9
  clear c9
  by_cases c10 : (ji8) < (l0.length : Int)
  rotate_left
  ·
   rw [if_neg c10] at H
   exact absurd H (by simp)
  rw [if_pos c10] at H
  have c10b0 : decide ((ji8) < (l0.length : Int)) = true := decide_eq_true c10
  clear c10
  by_cases c11 : (rd l0 aN) ≤ (rd l0 (ji8))
  ·
   rw [if_pos c11] at H
   have c11b0 : decide ((rd l0 aN) ≤ (rd l0 (ji8))) = true := decide_eq_true c11
   clear c11
   obtain rfl := Option.some.inj H
   have p128 : 0 ≤ (aN : Int) := of_decide_eq_true (by assumption)
   have q128 : aN < (l0.length : Int) := of_decide_eq_true (by assumption)
   obtain ⟨ad128, e128, iM⟩ := Kd.at_int HR0.out aN p128 q128
   cases e128
   replace p128 := eq_true p128
   replace q128 := eq_true q128
   have p129 : 0 ≤ (aN : Int) := of_decide_eq_true (by assumption)
   have q129 : aN < (l0.length : Int) := of_decide_eq_true (by assumption)
   obtain ⟨ad129, e129, jZ⟩ := Kd.at_int HR0.out aN p129 q129
   obtain rfl : ad128 = ad129 := (by injection e129)
   replace p129 := eq_true p129
   replace q129 := eq_true q129
   have p130 : 0 ≤ (aN : Int) := of_decide_eq_true (by assumption)
   have q130 : aN < (l0.length : Int) := of_decide_eq_true (by assumption)
   obtain ⟨ad130, e130, oG⟩ := Kd.at_int HR0.out aN p130 q130
   obtain rfl : ad128 = ad130 := (by injection e130)
   replace p130 := eq_true p130
   replace q130 := eq_true q130
   have p131 : 0 ≤ ((ji8) : Int) := of_decide_eq_true (by assumption)
   have q131 : (ji8) < (l0.length : Int) := of_decide_eq_true (by assumption)
   obtain ⟨ad131, e131, oH⟩ := Kd.at_int HR0.out (ji8) p131 q131
   obtain rfl : ad128 = ad131 := (by injection e131)
   replace p131 := eq_true p131
   replace q131 := eq_true q131
   go_wp2
   repeat (go_quiet (fail); try go_wp2)
   go_ret
   exact ⟨by first | rfl | (simp; done) | (simp only [← hji8] <;> (first | rfl | simp)) | (simp [*]; done), by repeat (first | exact Drawn0.refl _ | apply Drawn0.step)⟩
  rw [if_neg c11] at H
  have c11b0 : decide ((rd l0 aN) ≤ (rd l0 (ji8))) = false := decide_eq_false c11
  clear c11
  have H' := Aside0.mk H
  clear H
  have p128 : 0 ≤ (aN : Int) := of_decide_eq_true (by assumption)
  have q128 : aN < (l0.length : Int) := of_decide_eq_true (by assumption)
  obtain ⟨ad128, e128, iM⟩ := Kd.at_int HR0.out aN p128 q128
  cases e128
  replace p128 := eq_true p128
  replace q128 := eq_true q128
  have p129 : 0 ≤ (aN : Int) := of_decide_eq_true (by assumption)
  have q129 : aN < (l0.length : Int) := of_decide_eq_true (by assumption)
  obtain ⟨ad129, e129, jZ⟩ := Kd.at_int HR0.out aN p129 q129
  obtain rfl : ad128 = ad129 := (by injection e129)
  replace p129 := eq_true p129
  replace q129 := eq_true q129
  have p130 : 0 ≤ (aN : Int) := of_decide_eq_true (by assumption)
  have q130 : aN < (l0.length : Int) := of_decide_eq_true (by assumption)
  obtain ⟨ad130, e130, oG⟩ := Kd.at_int HR0.out aN p130 q130
  obtain rfl : ad128 = ad130 := (by injection e130)
  replace p130 := eq_true p130
  replace q130 := eq_true q130
  have p131 : 0 ≤ ((ji8) : Int) := of_decide_eq_true (by assumption)
  have q131 : (ji8) < (l0.length : Int) := of_decide_eq_true (by assumption)
  obtain ⟨ad131, e131, oH⟩ := Kd.at_int HR0.out (ji8) p131 q131
  obtain rfl : ad128 = ad131 := (by injection e131)
  replace p131 := eq_true p131
  replace q131 := eq_true q131
  go_wp2
  repeat (go_quiet (fail); try go_wp2)
  go_roundg k1
  case measure => have := HK1.out; omega
  case rel => exact ⟨(wrap64 (aN + 1)), (by first | rfl | (simp; done) | (simp [*]; done)), H', ⟨by have := HK1.out; omega⟩, by repeat (first | exact Drawn0.refl _ | apply Drawn0.step)⟩
def laganref04_SameInts.l0 : Nat → List Int → List Int → Int → Option (Bool)
 | 0, _, _, _ => none
 | k + 1, x0, x1, x5 => if x5 < (x0.length : Int) then (if 0 ≤ x5 then (if x5 < (x1.length : Int) then (if (rd x0 x5) = (rd x1 x5) then (laganref04_SameInts.l0 k x0 x1 (wrap64 (x5 + 1))) else (some false)) else (none)) else (none)) else (some true)
def laganref04_SameInts.f (k : Nat) (l0 : List Int) (l1 : List Int) : Option (Bool) := if (l0.length : Int) = (l1.length : Int) then (laganref04_SameInts.l0 k l0 l1 0) else (some false)
set_option maxHeartbeats 8000000 in
set_option maxRecDepth 100000 in
theorem laganref04_SameInts.calls (k : Nat) (A0 : Option Addr) (c0 : Nat) (l0 : List Int) (A1 : Option Addr) (c1 : Nat) (l1 : List Int) (r : Bool) (w : World) (hr0 : Kd.C (Kd.int .i64) w A0 l0.length l0) (hc0 : l0.length ≤ c0) (hr1 : Kd.C (Kd.int .i64) w A1 l1.length l1) (hc1 : l1.length ≤ c1) (h : laganref04_SameInts.f k l0 l1 = some r) :
  Calls Try.prog 22 #[.slice A0 l0.length c0, .slice A1 l1.length c1] w fun e w' => e = .returned (.bool r) ∧ Drawn0 w w' := by
 have HR0 := Aside0.mk hr0
 have HC0 := Aside0.mk hc0
 clear hr0 hc0
 have HR1 := Aside0.mk hr1
 have HC1 := Aside0.mk hc1
 clear hr1 hc1
 have H : (if (l0.length : Int) = (l1.length : Int) then (laganref04_SameInts.l0 k l0 l1 0) else (some false)) = some r := h
 clear h
 by_cases c3 : (l0.length : Int) = (l1.length : Int)
 rotate_left
 ·
  rw [if_neg c3] at H
  have c3b0 : ((l0.length : Int) == (l1.length : Int)) = false := beq_eq_false_iff_ne.mpr c3
  have c3b1 : ((l0.length : Int) != (l1.length : Int)) = true := bne_iff_ne.mpr c3
  have c3b2 : (l0.length == l1.length) = false := by first | simpa using c3 | (simp at c3 ⊢; omega)
  obtain rfl := Option.some.inj H
  go_enter Try.func22, Try.ntmps22
  go_wp2
  repeat (go_quiet (fail); try go_wp2)
  go_ret
  exact ⟨by first | rfl | (simp; done) | (simp [*]; done), by repeat (first | exact Drawn0.refl _ | apply Drawn0.step)⟩
 rw [if_pos c3] at H
 have c3b0 : ((l0.length : Int) == (l1.length : Int)) = true := beq_iff_eq.mpr c3
 have c3b1 : ((l0.length : Int) != (l1.length : Int)) = false := bne_eq_false_iff_eq.mpr c3
 have c3b2 : (l0.length == l1.length) = true := by first | simpa using c3 | (simp at c3 ⊢; omega)
 clear c3
 have H' := Aside0.mk H
 clear H
 go_enter Try.func22, Try.ntmps22
 go_wp2
 repeat (go_quiet (fail); try go_wp2)
 go_loopg [5] k (fun kq v5 w' => ∃ (aN : Int), v5 = .int .i64 aN ∧ Aside0 (laganref04_SameInts.l0 kq l0 l1 aN = some r) ∧ Aside0 (kq ≤ k) ∧ Drawn0 w w')
 case atStart => exact ⟨(0), (by first | rfl | (simp; done) | (simp [*]; done)), H', ⟨Nat.le_refl _⟩, by repeat (first | exact Drawn0.refl _ | apply Drawn0.step)⟩
 clear H'
 obtain ⟨aN, rfl, HA, HK1, ⟨m1, rfl⟩⟩ := hrel
 cases gk with
 | zero => exact absurd HA.out (by simp [laganref04_SameInts.l0])
 | succ k1 =>
  have H := HA.out
  clear HA
  simp only [laganref04_SameInts.l0] at H
  by_cases c4 : aN < (l0.length : Int)
  rotate_left
  ·
   rw [if_neg c4] at H
   have c4b0 : decide (aN < (l0.length : Int)) = false := decide_eq_false c4
   clear c4
   obtain rfl := Option.some.inj H
   go_wp2
   repeat (go_quiet (fail); try go_wp2)
   go_ret
   exact ⟨by first | rfl | (simp; done) | (simp [*]; done), by repeat (first | exact Drawn0.refl _ | apply Drawn0.step)⟩
  rw [if_pos c4] at H
  have c4b0 : decide (aN < (l0.length : Int)) = true := decide_eq_true c4
  clear c4
  by_cases c5 : 0 ≤ aN
  rotate_left
  ·
   rw [if_neg c5] at H
   exact absurd H (by simp)
  rw [if_pos c5] at H
  have c5b0 : decide (0 ≤ aN) = true := decide_eq_true c5
  clear c5
  by_cases c6 : aN < (l1.length : Int)
  rotate_left
  ·
   rw [if_neg c6] at H
   exact absurd H (by simp)
  rw [if_pos c6] at H
  have c6b0 : decide (aN < (l1.length : Int)) = true := decide_eq_true c6
  clear c6
  by_cases c7 : (rd l0 aN) = (rd l1 aN)
  rotate_left
  ·
   rw [if_neg c7] at H
   have c7b0 : ((rd l0 aN) == (rd l1 aN)) = false := beq_eq_false_iff_ne.mpr c7
   have c7b1 : ((rd l0 aN) != (rd l1 aN)) = true := bne_iff_ne.mpr c7
   obtain rfl := Option.some.inj H
   have p219 : 0 ≤ (aN : Int) := of_decide_eq_true (by assumption)
   have q219 : aN < (l0.length : Int) := of_decide_eq_true (by assumption)
   obtain ⟨ad219, e219, oI⟩ := Kd.at_int HR0.out aN p219 q219
   cases e219
   replace p219 := eq_true p219
   replace q219 := eq_true q219
   have p220 : 0 ≤ (aN : Int) := of_decide_eq_true (by assumption)
   have q220 : aN < (l1.length : Int) := of_decide_eq_true (by assumption)
   obtain ⟨ad220, e220, oJ⟩ := Kd.at_int HR1.out aN p220 q220
   cases e220
   replace p220 := eq_true p220
   replace q220 := eq_true q220
   go_wp2
   repeat (go_quiet (fail); try go_wp2)
   go_ret
   exact ⟨by first | rfl | (simp; done) | (simp [*]; done), by repeat (first | exact Drawn0.refl _ | apply Drawn0.step)⟩
  rw [if_pos c7] at H
  have c7b0 : ((rd l0 aN) == (rd l1 aN)) = true := beq_iff_eq.mpr c7
  have c7b1 : ((rd l0 aN) != (rd l1 aN)) = false := bne_eq_false_iff_eq.mpr c7
  clear c7
  have H' := Aside0.mk H
  clear H
  have p219 : 0 ≤ (aN : Int) := of_decide_eq_true (by assumption)
  have q219 : aN < (l0.length : Int) := of_decide_eq_true (by assumption)
  obtain ⟨ad219, e219, oI⟩ := Kd.at_int HR0.out aN p219 q219
  cases e219
  replace p219 := eq_true p219
  replace q219 := eq_true q219
  have p220 : 0 ≤ (aN : Int) := of_decide_eq_true (by assumption)
  have q220 : aN < (l1.length : Int) := of_decide_eq_true (by assumption)
  obtain ⟨ad220, e220, oJ⟩ := Kd.at_int HR1.out aN p220 q220
  cases e220
  replace p220 := eq_true p220
  replace q220 := eq_true q220
  go_wp2
  repeat (go_quiet (fail); try go_wp2)
  go_roundg k1
  case measure => have := HK1.out; omega
  case rel => exact ⟨(wrap64 (aN + 1)), (by first | rfl | (simp; done) | (simp [*]; done)), H', ⟨by have := HK1.out; omega⟩, by repeat (first | exact Drawn0.refl _ | apply Drawn0.step)⟩
def laganref04_Has.l0 : Nat → List Int → Int → Int → Option (Bool)
 | 0, _, _, _ => none
 | k + 1, x0, x1, x5 => if x5 < (x0.length : Int) then (if 0 ≤ x5 then (if (rd x0 x5) = x1 then (some true) else (laganref04_Has.l0 k x0 x1 (wrap64 (x5 + 1)))) else (none)) else (some false)
def laganref04_Has.f (k : Nat) (l0 : List Int) (a1 : Int) : Option (Bool) := laganref04_Has.l0 k l0 a1 0
set_option maxHeartbeats 8000000 in
set_option maxRecDepth 100000 in
theorem laganref04_Has.calls (k : Nat) (A0 : Option Addr) (c0 : Nat) (l0 : List Int) (a1 : Int) (r : Bool) (w : World) (hr0 : Kd.C (Kd.int .i64) w A0 l0.length l0) (hc0 : l0.length ≤ c0) (h : laganref04_Has.f k l0 a1 = some r) :
  Calls Try.prog 33 #[.slice A0 l0.length c0, .int .i64 a1] w fun e w' => e = .returned (.bool r) ∧ Drawn0 w w' := by
 have HR0 := Aside0.mk hr0
 have HC0 := Aside0.mk hc0
 clear hr0 hc0
 have H : (laganref04_Has.l0 k l0 a1 0) = some r := h
 clear h
 have H' := Aside0.mk H
 clear H
 go_enter Try.func33, Try.ntmps33
 go_wp2
 go_loopg [5] k (fun kq v5 w' => ∃ (aN : Int), v5 = .int .i64 aN ∧ Aside0 (laganref04_Has.l0 kq l0 a1 aN = some r) ∧ Aside0 (kq ≤ k) ∧ Drawn0 w w')
 case atStart => exact ⟨(0), (by first | rfl | (simp; done) | (simp [*]; done)), H', ⟨Nat.le_refl _⟩, by repeat (first | exact Drawn0.refl _ | apply Drawn0.step)⟩
 clear H'
 obtain ⟨aN, rfl, HA, HK1, ⟨m1, rfl⟩⟩ := hrel
 cases gk with
 | zero => exact absurd HA.out (by simp [laganref04_Has.l0])
 | succ k1 =>
  have H := HA.out
  clear HA
  simp only [laganref04_Has.l0] at H
  by_cases c3 : aN < (l0.length : Int)
  rotate_left
  ·
   rw [if_neg c3] at H
   have c3b0 : decide (aN < (l0.length : Int)) = false := decide_eq_false c3
   clear c3
   obtain rfl := Option.some.inj H
   go_wp2
   go_ret
   exact ⟨by first | rfl | (simp; done) | (simp [*]; done), by repeat (first | exact Drawn0.refl _ | apply Drawn0.step)⟩
  rw [if_pos c3] at H
  have c3b0 : decide (aN < (l0.length : Int)) = true := decide_eq_true c3
  clear c3
  by_cases c4 : 0 ≤ aN
  rotate_left
  ·
   rw [if_neg c4] at H
   exact absurd H (by simp)
  rw [if_pos c4] at H
  have c4b0 : decide (0 ≤ aN) = true := decide_eq_true c4
  clear c4
  by_cases c5 : (rd l0 aN) = a1
  ·
   rw [if_pos c5] at H
   have c5b0 : ((rd l0 aN) == a1) = true := beq_iff_eq.mpr c5
   have c5b1 : ((rd l0 aN) != a1) = false := bne_eq_false_iff_eq.mpr c5
   clear c5
   obtain rfl := Option.some.inj H
   have p294 : 0 ≤ (aN : Int) := of_decide_eq_true (by assumption)
   have q294 : aN < (l0.length : Int) := of_decide_eq_true (by assumption)
   obtain ⟨ad294, e294, oK⟩ := Kd.at_int HR0.out aN p294 q294
   cases e294
   replace p294 := eq_true p294
   replace q294 := eq_true q294
   go_wp2
   go_ret
   exact ⟨by first | rfl | (simp; done) | (simp [*]; done), by repeat (first | exact Drawn0.refl _ | apply Drawn0.step)⟩
  rw [if_neg c5] at H
  have c5b0 : ((rd l0 aN) == a1) = false := beq_eq_false_iff_ne.mpr c5
  have c5b1 : ((rd l0 aN) != a1) = true := bne_iff_ne.mpr c5
  have H' := Aside0.mk H
  clear H
  have p294 : 0 ≤ (aN : Int) := of_decide_eq_true (by assumption)
  have q294 : aN < (l0.length : Int) := of_decide_eq_true (by assumption)
  obtain ⟨ad294, e294, oK⟩ := Kd.at_int HR0.out aN p294 q294
  cases e294
  replace p294 := eq_true p294
  replace q294 := eq_true q294
  go_wp2
  go_roundg k1
  case measure => have := HK1.out; omega
  case rel => exact ⟨(wrap64 (aN + 1)), (by first | rfl | (simp; done) | (simp [*]; done)), H', ⟨by have := HK1.out; omega⟩, by repeat (first | exact Drawn0.refl _ | apply Drawn0.step)⟩
end Go.Proofs.Ytkmmihadcbfkoaa.PM
end
