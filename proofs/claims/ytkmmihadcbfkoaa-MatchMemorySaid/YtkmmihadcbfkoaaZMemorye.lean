/-
  MatchMemory holds: for every board, find and slot, the law returns true and what it is given reads as it did. (part 5 of 5 of the texts that it stands on)
-/
import Derived.Lib.SmallJoins
import Derived.Deep.Matrix
import Derived.Deep.Slices
import Derived.Deep.Strs
import Derived.ChangeSlices
import Derived.ProofKit
import Derived.OpenShut
import Derived.ChangeOld
import Derived.Below
import Derived.WalkKit
import Derived.Test.YtkmmihadcbfkoaaRows
import Derived.Test.YtkmmihadcbfkoaaZMemoryd
section
namespace Go.Proofs.Ytkmmihadcbfkoaa
open Go.RowKit Go.Proofs.YtkmmihadcbfkoaaW.PrintWords Go.Proofs.YtkmmihadcbfkoaaW.PrintLast Go.Proofs.YtkmmihadcbfkoaaW.PrintMore PM
set_option linter.unusedVariables false
set_option linter.unusedSimpArgs false
def fitted_T7 : Bool × List (List Nat × List Nat) := (true, [([], []), ([0], [0]), ([], []), ([], []), ([], []), ([4], [4]), ([], []), ([5, 6], [5, 6]), ([7], [7]), ([3, 8], [3, 8]), ([1, 2, 0, 1, 2, 3, 4, 5, 6, 7, 8, 9], [1, 2]), ([10, 9, 9, 0, 1, 2, 3, 4, 5, 6, 7, 8, 9], [9, 10])])
def fitted_B7 : List Nat := [0, 1, 0, 0, 0, 16, 0, 112, 240, 504, 1023, 2047]
theorem fitted_tab7 : rtab .any (opsOf Try.f64 7) = fitted_T7 := by kernel_rfl
theorem fitted_bits7 : waitsOk fitted_T7.2 fitted_B7 = true := by kernel_rfl
/-- A call of a function value, by its contract. -/
theorem goesv_ {P : Program} {ops : Array Oper} {Q : Exit → Act → World → Prop} {oi : Oper} {N : Option Tmp} {a : Act} {w : World} {K : Act → World → Prop} {f : FuncId} {lb : Array Value} {t : Tmp} {as_ : Array Operand} {ts : Array TypeId} (he : ∀ args w, (callFunc f args).run P w = .ok (.enter f args) w) (args : Array Value)
  (hw : Region.wanted oi (yielded ops a.tmps) = true) (hN : oi.dst = N) (hop : oi.op = .call { callee := .value (.tmp t), args := as_, argTypes := ts }) (hv : a.eval (.tmp t) = .func (.func f) #[] lb) (hargs : as_.map a.eval = args)
  (h : Calls P f (args ++ lb) w fun e w' => ∃ v, e = .returned v ∧ K (a.put N v) w') : if Region.wanted oi (yielded ops a.tmps) = true then Oper.wp P oi a w K Q else K (a.put N undef) w := by
 refine call_ f (args ++ lb) hw hN ?_ h
 unfold execOp
 simp [hop, resolve, Deferred.ofValue, invoke, hv, hargs, he]
set_option maxRecDepth 100000 in
set_option maxHeartbeats 8000000 in
theorem fitted_calls (A0 : Option Addr) (c0 : Nat) (F : List Int) (A1 : Option Addr) (c1 : Nat) (S : List S50) (A2 : Option Addr) (c2 : Nat) (T : List (List Int)) (find slot : Int) (gf : Nat) (lb : Array Value) (fl : List Int → List Int) (w : World)
  (hr0 : Kd.C (Kd.int .i64) w A0 F.length F) (hc0 : F.length ≤ c0) (hr1 : Kd.C k50 w A1 S.length S) (hc1 : S.length ≤ c1) (hr2 : Kd.C (Kd.slice 3 (Kd.int .i64)) w A2 T.length T) (hc2 : T.length ≤ c2)
  (hfa : FitsAt gf lb fl w) (hent : ∀ args w, (callFunc gf args).run Try.prog w = .ok (.enter gf args) w) :
  Calls Try.prog 64 #[.agg #[.slice A0 F.length c0, .slice A1 S.length c1, .slice A2 T.length c2], .int .i64 find, .int .i64 slot, .func (.func gf) #[] lb] w fun e w' => OwnPost (fittedP F S T find slot fl) w e w' := by
 have hB0 := ((Below.refl w.heap.size w).alloc (Nat.le_refl _) (.cells #[.slice A0 F.length c0, .slice A1 S.length c1, .slice A2 T.length c2] 26)).alloc (by simp) (.cells #[.slice none 0 0, .slice none 0 0, .slice none 0 0] 26)
 have CB := both_calls A0 c0 F A1 c1 S A2 c2 T find slot _ (Kd.C_below hr0 hB0) hc0 (Kd.C_below hr1 hB0) (Kd.C_below hr2 hB0)
 obtain ⟨q, hq⟩ : ∃ q, askB F S T find slot false false = q := ⟨_, rfl⟩
 have hres : fittedP F S T find slot fl = if q = 0 then (if slot ∈ T.getD find.toNat [] then (F, S, T.set find.toNat (fl (T.getD find.toNat [])), 0) else ([], [], [], 5)) else ([], [], [], q) := by rw [← hq]; rfl
 obtain ⟨res, he⟩ : ∃ res, fittedP F S T find slot fl = res := ⟨_, rfl⟩
 rw [he]
 rw [he] at hres
 have HRES := Go.Lib.hid hres
 rw [hq] at CB
 have HB0 := Go.Lib.hid hB0
 have HR := Go.Lib.hid (And.intro hr0 (And.intro hc0 (And.intro hr1 (And.intro hc1 (And.intro hr2 hc2)))))
 have HQ := Go.Lib.hid hq
 have HFA := Go.Lib.hid (And.intro hfa hent)
 clear hr0 hr1 hr2 hc0 hc1 hc2 hB0 hq hres he hfa hent
 go_enter Try.func64, Try.ntmps64
 go_wp2_with fail
 refine CB.mono ?_
 clear CB
 rintro e w1 ⟨rfl, hB1⟩
 have hW1 : Below w.heap.size w w1 := HB0.out.trans (hB1.mono HB0.out.size)
 have b1 : w1.heap[w.heap.size]? = some (.cells #[.slice A0 F.length c0, .slice A1 S.length c1, .slice A2 T.length c2] 26 (0, 0)) := by
  rw [hB1.block w.heap.size (by simp; omega)]
  exact (((Below.refl _ (w.alloc (.cells #[.slice A0 F.length c0, .slice A1 S.length c1, .slice A2 T.length c2] 26))).alloc (Nat.le_refl _) _).block w.heap.size (by simp)).trans (World.alloc_heap_new w _)
 have bS : w1.heap[w.heap.size + 1]? = some (.cells #[.slice none 0 0, .slice none 0 0, .slice none 0 0] 26 (0, 0)) := by
  rw [hB1.block (w.heap.size + 1) (by simp)]
  have := World.alloc_heap_new (w.alloc (.cells #[.slice A0 F.length c0, .slice A1 S.length c1, .slice A2 T.length c2] 26)) (.cells #[.slice none 0 0, .slice none 0 0, .slice none 0 0] 26)
  rwa [show (w.alloc (.cells #[.slice A0 F.length c0, .slice A1 S.length c1, .slice A2 T.length c2] 26)).heap.size = w.heap.size + 1 from by simp] at this
 have k0 := cell_of_heap b1 (j := 0) rfl
 have k1 := cell_of_heap b1 (j := 1) rfl
 have k2 := cell_of_heap b1 (j := 2) rfl
 have HW1 := Go.Lib.hid hW1
 have BX1 := Go.Lib.hid (And.intro b1 bS)
 clear hB1 b1 bS hW1
 by_cases hq0 : q = 0
 case neg =>
  have z0 := cell_of_heap BX1.out.2 (j := 0) rfl
  have z1 := cell_of_heap BX1.out.2 (j := 1) rfl
  have z2 := cell_of_heap BX1.out.2 (j := 2) rfl
  have y0 := blk_frozen BX1.out.2 0
  have y1 := blk_frozen BX1.out.2 1
  have y2 := blk_frozen BX1.out.2 2
  go_wp2_with fail
  refine bodyPost_ret (results_ct rfl _ _ (w.heap.size + 1) 26 #[.slice none 0 0, .slice none 0 0, .slice none 0 0] (0, 0) _ rfl (own_put3 BX1.out.2 _ _ _) Try.underlying26 rfl (by kernel_rfl)) rfl ?_
  have hz := HRES.out
  rw [if_neg hq0] at hz
  subst hz
  exact ⟨_, _, _, rfl, Kd.R_nil _ _ _ _ _, Kd.R_nil _ _ _ _ _, Kd.S_nil _ _ _ _ _, own_box3B HW1.out (Nat.le_succ _) _ _ _⟩
 case pos =>
  subst hq0
  obtain ⟨hcb, hfd, _⟩ := ask_parts HQ.out
  obtain ⟨hfd0, hfd1⟩ := hfd rfl
  have hk := bok_of_check hcb
  have hfd2 : find < (T.length : Int) := by rw [hk.nt]; exact hfd1
  have hnt := hk.nt
  have hnf := hk.nf
  have hns := hk.ns
  have hz := HRES.out
  rw [if_pos rfl] at hz
  have HRES1 := Go.Lib.hid hz
  clear HRES hz
  obtain ⟨KO, hKO⟩ := other_is (F := F) (S := S) (T := T) (by omega) (by omega) (by omega) (fun l hl => Nat.le_trans (rows_le hk l hl) (by decide))
  have HKO := Go.Lib.hid (hKO KO (Nat.le_refl _))
  have HK := Go.Lib.hid (And.intro hfd1 (And.intro hnt (And.intro hnf (hk.row find.toNat (by omega)))))
  clear hKO hk hnt hnf hns hcb hfd
  obtain ⟨a, Ar, cr, e2, hx, hlc, hC⟩ := rows_at (Kd.C_below HR.out.2.2.2.2.1 HW1.out) find hfd0 hfd2
  obtain ⟨row, hrw⟩ : ∃ row, T.getD find.toNat [] = row := ⟨_, rfl⟩
  rw [hrw] at hx hlc hC
  have hres2 := HRES1.out
  rw [hrw] at hres2
  have HRES2 := Go.Lib.hid hres2
  clear HRES1
  have HRW := Go.Lib.hid hrw
  have CC := contains_calls Ar cr row slot w1 hC hlc
  have e2' := e2
  clear hres2 hrw hC e2
  subst e2'
  go_wp2_with fail
  refine CC.mono ?_
  clear CC
  rintro e w2 ⟨rfl, hd⟩
  have hW2 := HW1.out.trans (hd.below.mono HW1.out.size)
  have b2 := (hd.below.block w.heap.size (Array.getElem?_eq_some_iff.1 BX1.out.1).1).trans BX1.out.1
  have bS2 := (hd.below.block (w.heap.size + 1) (Array.getElem?_eq_some_iff.1 BX1.out.2).1).trans BX1.out.2
  have k0 := cell_of_heap b2 (j := 0) rfl
  have k1 := cell_of_heap b2 (j := 1) rfl
  have k2 := cell_of_heap b2 (j := 2) rfl
  have HW2 := Go.Lib.hid hW2
  have BX2 := Go.Lib.hid bS2
  clear hW2 b2 bS2 hd hx hlc HW1 BX1
  by_cases hin : slot ∈ row
  case neg =>
   rw [decide_eq_false hin]
   have z0 := cell_of_heap BX2.out (j := 0) rfl
   have z1 := cell_of_heap BX2.out (j := 1) rfl
   have z2 := cell_of_heap BX2.out (j := 2) rfl
   have y0 := blk_frozen BX2.out 0
   have y1 := blk_frozen BX2.out 1
   have y2 := blk_frozen BX2.out 2
   go_wp2_with fail
   refine bodyPost_ret (results_ct rfl _ _ (w.heap.size + 1) 26 #[.slice none 0 0, .slice none 0 0, .slice none 0 0] (0, 0) _ rfl (own_put3 BX2.out _ _ _) Try.underlying26 rfl (by kernel_rfl)) rfl ?_
   have hz := HRES2.out
   rw [if_neg hin] at hz
   subst hz
   exact ⟨_, _, _, rfl, Kd.R_nil _ _ _ _ _, Kd.R_nil _ _ _ _ _, Kd.S_nil _ _ _ _ _, own_box3B HW2.out (Nat.le_succ _) _ _ _⟩
  case pos =>
  rw [decide_eq_true hin]
  have hz := HRES2.out
  rw [if_pos hin] at hz
  have HRES3 := Go.Lib.hid hz
  have hrp : 0 < row.length := List.length_pos_of_mem hin
  clear hz hin HRES2
  have CC := match_other.calls KO A0 c0 F A1 c1 S (some a) c2 T _ _ _ w2 (Kd.C_below HR.out.1 HW2.out) HR.out.2.1 (Kd.C_below HR.out.2.2.1 HW2.out) HR.out.2.2.2.1 (Kd.C_below HR.out.2.2.2.2.1 HW2.out) HR.out.2.2.2.2.2 HKO.out
  go_wp2_with fail
  refine CC.mono ?_
  clear CC
  rintro e w3 ⟨v0, v1, v2, rfl, r0, r1, r2, hb3⟩
  obtain ⟨B0, d0, rfl⟩ := Kd.R_slice r0
  obtain ⟨B1, d1, rfl⟩ := Kd.R_slice r1
  obtain ⟨g2, d2, e2, gb2, gl2, cl2, HG2⟩ := Kd.S_form r2 (by omega)
  obtain ⟨B2, rfl⟩ : ∃ B2, v2 = .slice B2 T.length d2 := ⟨_, e2⟩
  obtain rfl : B2 = some ⟨g2, 0, none⟩ := by injection e2
  clear e2 gb2 gl2 cl2 HG2 k0 k1 k2
  have hW3 := HW2.out.trans (hb3.mono HW2.out.size)
  have bS3 := (hb3.block (w.heap.size + 1) (Array.getElem?_eq_some_iff.1 BX2.out).1).trans BX2.out
  have HR3 := Go.Lib.hid (And.intro (Kd.R_lower r0 HW2.out.size) (And.intro (Kd.R_lower r1 HW2.out.size) (Kd.S_lower r2 HW2.out.size)))
  have HW3 := Go.Lib.hid hW3
  have BX3 := Go.Lib.hid bS3
  clear r0 r1 r2 hb3 hW3 bS3 HW2 BX2 HKO
  go_wp2_with fail
  obtain ⟨g3, hg3⟩ : ∃ g3, w3.heap.size = g3 := ⟨_, rfl⟩
  rw [hg3]
  obtain ⟨W3, hW3⟩ : ∃ W3, w3.alloc (.cells #[.slice B0 F.length d0, .slice B1 S.length d1, .slice (some ⟨g2, 0, none⟩) T.length d2] 26) = W3 := ⟨_, rfl⟩
  rw [hW3]
  have b3 : W3.heap[g3]? = some (.cells #[.slice B0 F.length d0, .slice B1 S.length d1, .slice (some ⟨g2, 0, none⟩) T.length d2] 26 (0, 0)) := by
   rw [← hW3, ← hg3]; exact World.alloc_heap_new w3 _
  have hs3 : w.heap.size ≤ W3.heap.size := by rw [← hW3]; exact Nat.le_trans HW3.out.size (by simp)
  have h0 : Kd.R (Kd.int .i64) 3 W3 w.heap.size (fun _ => True) (.slice B0 F.length d0) F := by
   rw [← hW3]; apply Kd.R_alloc; exact HR3.out.1
  have h1 : Kd.R k50 50 W3 w.heap.size (fun _ => True) (.slice B1 S.length d1) S := by
   rw [← hW3]; apply Kd.R_alloc; exact HR3.out.2.1
  have h2 : Kd.S (Kd.slice 3 (Kd.int .i64)) 22 W3 w.heap.size (fun k_ => some k_ ≠ (Value.slice B0 F.length d0).ownBlock) (.slice (some ⟨g2, 0, none⟩) T.length d2) T := by
   rw [← hW3]; apply Kd.S_alloc; exact HR3.out.2.2
  have hn2 : g2 ≠ g3 := by
   have hb := Kd.S_lt HR3.out.2.2 g2 rfl
   omega
  have hbw3 : Below w.heap.size w W3 := by rw [← hW3]; exact HW3.out.alloc HW3.out.size _
  have hg3s : w.heap.size ≤ g3 := by rw [← hg3]; exact HW3.out.size
  have hbs3 : W3.heap[w.heap.size + 1]? = some (.cells #[.slice none 0 0, .slice none 0 0, .slice none 0 0] 26 (0, 0)) := by
   rw [← hW3]; exact (((Below.refl w3.heap.size w3).alloc (Nat.le_refl _) _).block _ (Array.getElem?_eq_some_iff.1 BX3.out).1).trans BX3.out
  have hgs : g3 ≠ w.heap.size + 1 := by
   have := (Array.getElem?_eq_some_iff.1 BX3.out).1
   omega
  have hty2 := ks_block h2 (by have := HK.out.2.1; omega)
  have hr2 : g2 ≠ w.heap.size + 1 := fun e => by
   obtain ⟨cc, hh⟩ := hty2
   rw [e, hbs3] at hh
   injection hh with hh
   injection hh with _ h26
   exact absurd h26 (by decide)
  obtain ⟨oki, ce, hcl, hM, hcc, hfr, hoki, hH⟩ := Kd.S_elem (Kd.S_bound (Kd.S_drew h2)) [] find hfd0 hfd2
  obtain ⟨ur, rfl, hU⟩ : ∃ ur, ce = [ur] ∧ Kd.R (Kd.int .i64) 3 W3.drew w.heap.size oki ur (T.getD find.toNat []) := hM
  rw [HRW.out] at hU
  obtain ⟨Bu, du, rfl⟩ := Kd.R_slice hU
  obtain ⟨gu, du', eu, _, hgul, _⟩ := Kd.R_form hU hrp
  obtain rfl : Bu = some ⟨gu, 0, none⟩ := by injection eu
  obtain rfl : du = du' := by injection eu
  clear eu
  have hcu : W3.drew.cell? ⟨g2, find.toNat, none⟩ = some (.slice (some ⟨gu, 0, none⟩) row.length du) := by
   have := hcc 0 _ rfl
   simpa [Kd.slice] using this
  have hgu2 : gu ≠ g2 := (hoki gu (hU.1 gu rfl)).2
  have hgu0 : some gu ≠ (Value.slice B0 F.length d0).ownBlock := (hoki gu (hU.1 gu rfl)).1.1
  have hM1 : ∀ k, k < W3.heap.size → some k ≠ (Value.slice B0 F.length d0).ownBlock → True := fun _ _ _ => trivial
  have H3 := Go.Lib.hid (And.intro h0 (And.intro h1 (And.intro hs3 (And.intro hbw3 (And.intro hbs3 (And.intro b3 (And.intro (Kd.S_lt h2 g2 rfl) hty2)))))))
  have HN := Go.Lib.hid (And.intro hn2 (And.intro hg3s (And.intro hgs (And.intro hr2 (And.intro hgu2 hgu0)))))
  have HH := Go.Lib.hid (And.intro hU (And.intro hH (And.intro hoki hfr)))
  have HC := Go.Lib.hid hcu
  clear hW3 hg3 b3 hs3 h0 h1 h2 hn2 hbw3 hg3s hbs3 hgs hr2 hty2 BX3 HW3 HR3 hcl hcc hfr hoki hH hU hgul hgu2 hgu0 hM1 hcu
  have t1 : 0 + find.toNat = find.toNat := Nat.zero_add _
  refine start_ (n := 12) (S := fun w' => w'.heap[g3]? = some (.cells #[.slice B0 F.length d0, .slice B1 S.length d1, .slice (some ⟨g2, 0, none⟩) T.length d2] 26 (0, 0)) ∧ w'.cell? ⟨g2, find.toNat, none⟩ = some (.slice (some ⟨gu, 0, none⟩) row.length du)) (ds := [11]) #[false, false, false, false, false, false, false, false, false, false, false, false] (by kernel_rfl) rfl rfl ⟨H3.out.2.2.2.2.2.1, HC.out⟩ (fun hHeld => ?_); refine with_tabW fitted_tab7 fitted_bits7 (fun HT_ HW_ => ?_)
  have H4 := Go.Lib.hid (And.intro (Kd.R_drew H3.out.1) (And.intro (Kd.R_drew H3.out.2.1) (And.intro (show w.heap.size ≤ W3.drew.heap.size from H3.out.2.2.1) (And.intro (below_drew1 H3.out.2.2.2.1) (And.intro (show W3.drew.heap[w.heap.size + 1]? = _ from H3.out.2.2.2.2.1) (And.intro (show g2 < W3.drew.heap.size from H3.out.2.2.2.2.2.2.1) (show ∃ cells, W3.drew.heap[g2]? = some (.cells cells 22 (0, 0)) from H3.out.2.2.2.2.2.2.2)))))))
  clear H3 HC
  generalize W3.drew = W4 at H4 HH hHeld ⊢
  refine pure_ (i := 0) (N := some 31) (v := ?_) (a' := ?_) #[true, false, false, false, false, false, false, false, false, false, false, false] rfl rfl (any_of HT_.out (by kernel_rfl)) (fun _ _ _ h => h) (Or.inl ⟨by rfl, ?_⟩) ?_ ?_
  rotate_left
  ·
   intro w'
   go_simp
   with_reducible rfl
  rotate_left
  ·
   simp only [Act.put, List.setIfInBounds_toArray, List.set_cons_zero, List.set_cons_succ]
   rfl
  refine pure_ (i := 2) (N := some 33) (v := ?_) (a' := ?_) #[true, false, true, false, false, false, false, false, false, false, false, false] rfl rfl (any_of HT_.out (by kernel_rfl)) (fun _ _ _ h => h) (Or.inl ⟨by rfl, ?_⟩) ?_ ?_
  rotate_left
  ·
   intro w'
   go_simp
   with_reducible rfl
  rotate_left
  ·
   simp only [Act.put, List.setIfInBounds_toArray, List.set_cons_zero, List.set_cons_succ]
   rfl
  refine pure_ (i := 3) (N := some 34) (v := ?_) (a' := ?_) #[true, false, true, true, false, false, false, false, false, false, false, false] rfl rfl (any_of HT_.out (by kernel_rfl)) (fun _ _ _ h => h) (Or.inl ⟨by rfl, ?_⟩) ?_ ?_
  rotate_left
  ·
   intro w'
   go_simp
   with_reducible rfl
  rotate_left
  ·
   simp only [Act.put, List.setIfInBounds_toArray, List.set_cons_zero, List.set_cons_succ]
   rfl
  refine pure_ (i := 4) (N := some 35) (v := ?_) (a' := ?_) #[true, false, true, true, true, false, false, false, false, false, false, false] rfl rfl (any_of HT_.out (by kernel_rfl)) (fun _ _ _ h => h) (Or.inl ⟨by rfl, ?_⟩) ?_ ?_
  rotate_left
  ·
   intro w'
   go_simp
   with_reducible rfl
  rotate_left
  ·
   simp only [Act.put, List.setIfInBounds_toArray, List.set_cons_zero, List.set_cons_succ]
   rfl
  refine pure_ (i := 6) (N := some 37) (v := ?_) (a' := ?_) #[true, false, true, true, true, false, true, false, false, false, false, false] rfl rfl (any_of HT_.out (by kernel_rfl)) (fun _ _ _ h => h) (Or.inl ⟨by rfl, ?_⟩) ?_ ?_
  rotate_left
  ·
   intro w'
   go_simp
   with_reducible rfl
  rotate_left
  ·
   simp only [Act.put, List.setIfInBounds_toArray, List.set_cons_zero, List.set_cons_succ]
   rfl
  refine take_ (i := 1) (N := some 32) (v := ?_) (a' := ?_) #[true, true, true, true, true, false, true, false, false, false, false, false] rfl rfl (take_ofW HT_.out HW_.out (by kernel_rfl)) (fun _ _ _ h => h) (Or.inl ⟨by rfl, ?_⟩) hHeld ?_ ?_
  rotate_left
  ·
   intro w' hs_
   have s2 := (blk_cell hs_.1 2).trans rfl
   have s3 := hs_.2
   go_simp
   with_reducible rfl
  rotate_left
  ·
   simp only [Act.put, List.setIfInBounds_toArray, List.set_cons_zero, List.set_cons_succ]
   rfl
  refine take_ (i := 5) (N := some 36) (v := ?_) (a' := ?_) #[true, true, true, true, true, true, true, false, false, false, false, false] rfl rfl (take_ofW HT_.out HW_.out (by kernel_rfl)) (fun _ _ _ h => h) (Or.inl ⟨by rfl, ?_⟩) hHeld ?_ ?_
  rotate_left
  ·
   intro w' hs_
   have s2 := (blk_cell hs_.1 2).trans rfl
   have s3 := hs_.2
   go_simp
   with_reducible rfl
  rotate_left
  ·
   simp only [Act.put, List.setIfInBounds_toArray, List.set_cons_zero, List.set_cons_succ]
   rfl
  refine pure_ (i := 7) (N := some 38) (v := ?_) (a' := ?_) #[true, true, true, true, true, true, true, true, false, false, false, false] rfl rfl (any_of HT_.out (by kernel_rfl)) (fun _ _ _ h => h) (Or.inl ⟨by rfl, ?_⟩) ?_ ?_
  rotate_left
  ·
   intro w'
   go_simp
   with_reducible rfl
  rotate_left
  ·
   simp only [Act.put, List.setIfInBounds_toArray, List.set_cons_zero, List.set_cons_succ]
   rfl
  refine take_ (i := 8) (N := some 39) (v := ?_) (a' := ?_) #[true, true, true, true, true, true, true, true, true, false, false, false] rfl rfl (take_ofW HT_.out HW_.out (by kernel_rfl)) (fun _ _ _ h => h) (Or.inl ⟨by rfl, ?_⟩) hHeld ?_ ?_
  rotate_left
  ·
   intro w' hs_
   have s2 := (blk_cell hs_.1 2).trans rfl
   have s3 := hs_.2
   go_simp
   with_reducible rfl
  rotate_left
  ·
   simp only [Act.put, List.setIfInBounds_toArray, List.set_cons_zero, List.set_cons_succ]
   rfl
  refine one_ (i := 9) (N := some 40) #[true, true, true, true, true, true, true, true, true, true, false, false] rfl rfl (one_of HT_.out (by kernel_rfl)) (by decide) (fun K hK => ?_)
  refine goesv_ HFA.out.2 #[.slice (some ⟨gu, 0, none⟩) row.length du] (by rfl) rfl rfl rfl (by (try simp only [List.map_toArray, List.map_cons, List.map_nil]); first | done | rfl) ?_
  refine (HFA.out.1 W4 oki gu du row H4.out.2.2.2.1 HH.out.1 (by rw [← HRW.out]; exact HK.out.2.2.2)).mono ?_
  rintro e w5 ⟨v5, rfl, hG5, hR5⟩
  obtain ⟨row5, hrow5⟩ : ∃ row5, fl row = row5 := ⟨_, rfl⟩
  rw [hrow5] at hR5
  obtain ⟨B5, d5, rfl⟩ := Kd.R_slice hR5
  refine ⟨_, rfl, ?_⟩
  have hGs : ∀ k, k < W4.heap.size → k ≠ gu → w5.heap[k]? = W4.heap[k]? := fun k hk hne => hG5.block k hk (fun e => hne (Option.some.inj e))
  have ht4 := kd_block HH.out.1 hrp
  have hu3 : g3 ≠ gu := fun e => by
   obtain ⟨cc, hh⟩ := ht4
   rw [← e, hHeld.1] at hh
   injection hh with hh
   injection hh with _ h26
   exact absurd h26 (by decide)
  have huR : w.heap.size + 1 ≠ gu := fun e => by
   obtain ⟨cc, hh⟩ := ht4
   rw [← e, H4.out.2.2.2.2.1] at hh
   injection hh with hh
   injection hh with _ h26
   exact absurd h26 (by decide)
  have hg2l : g2 < W4.heap.size := by
   exact H4.out.2.2.2.2.2.1
  have hH5 : w5.heap[g3]? = some (.cells #[.slice B0 F.length d0, .slice B1 S.length d1, .slice (some ⟨g2, 0, none⟩) T.length d2] 26 (0, 0)) ∧ w5.cell? ⟨g2, find.toNat, none⟩ = some (.slice (some ⟨gu, 0, none⟩) row.length du) :=
   ⟨(hGs g3 (blk_lt hHeld.1) hu3).trans hHeld.1, (hG5.cell_far ⟨g2, find.toNat, none⟩ hg2l (fun e => HN.out.2.2.2.2.1 (Option.some.inj e).symm)).trans hHeld.2⟩
  have hX5 := (hGs _ (blk_lt H4.out.2.2.2.2.1) huR).trans H4.out.2.2.2.2.1
  have hP5 := Kd.R_grown1 H4.out.1 rfl hG5 HN.out.2.2.2.2.2
  have hQ5 := Kd.R_over' H4.out.2.1 (v := .slice (some ⟨gu, 0, none⟩) row.length du) (e' := 3) (fun k hk => by obtain rfl : gu = k := Option.some.inj hk; exact ht4) (by decide) hG5
  have hB5 : Below w.heap.size w w5 := H4.out.2.2.2.1.grown hG5 H4.out.2.2.1 (fun k hk => by obtain rfl : gu = k := Option.some.inj hk; exact Kd.R_base HH.out.1 gu rfl)
  have hfz5 : w5.frozen? ⟨g2, find.toNat, none⟩ = false := (hG5.frozen_far ⟨g2, find.toNat, none⟩ hg2l (fun e => HN.out.2.2.2.2.1 (Option.some.inj e).symm)).trans (by have := HH.out.2.2.2 0; simpa [Kd.slice] using this)
  have hn0 : ∀ k, (Value.slice B0 F.length d0).ownBlock = some k → k < W4.heap.size := fun k hk => own_lt (Kd.own_of_R H4.out.1) k hk
  have hSH := Kd.H_mono (ok' := fun k => (fun k_ => some k_ ≠ (Value.slice B0 F.length d0).ownBlock) k ∧ ¬ W4.heap.size ≤ k) (Kd.H_grown HH.out.2.1 hG5 (fun k hk => by obtain rfl : gu = k := Option.some.inj hk; exact HH.out.1.1 gu rfl)) (fun k hk => ⟨hk.1, by have := hk.2.2.1; exact fun h => absurd (show k < W4.heap.size from this) (by omega)⟩)
  have hS6 := Kd.S_seg hSH hfd0 hfd2 (seg := [.slice B5 row5.length d5]) (j := 0) (show 1 ≤ 1 from by decide) (x' := row5) (Kd.M_row hR5) (fun _ hk => hk) (fun k hk => ⟨fun e => by have := hn0 k e.symm; omega, by omega⟩)
  have hS6b := hS6
  rw [show w5.setCells g2 (find.toNat * (Kd.slice 3 (Kd.int .i64)).sz + 0) [.slice B5 row5.length d5] = w5.setCell ⟨g2, find.toNat, none⟩ (.slice B5 row5.length d5) from by show w5.setCell ⟨g2, find.toNat * 1 + 0, none⟩ _ = _; rw [Nat.mul_one, Nat.add_zero]] at hS6b
  have hy2 : ∃ cells, w5.heap[g2]? = some (.cells cells 22 (0, 0)) := by
   obtain ⟨cc, hh⟩ := H4.out.2.2.2.2.2.2
   exact ⟨cc, (hGs g2 hg2l (Ne.symm HN.out.2.2.2.2.1)).trans hh⟩
  have H5 := Go.Lib.hid (And.intro hS6b (And.intro hP5 (And.intro hQ5 (And.intro hB5 hX5))))
  have HY := Go.Lib.hid (And.intro hy2 hrow5)
  clear hS6 hS6b hP5 hQ5 hB5 hX5 hSH hR5 hn0 hGs ht4 hu3 huR hG5 hg2l H4 HH HFA hy2 hrow5
  refine hK.out _ _ hH5 (fun hHeld => ?_)
  clear hK K hH5
  refine norm_ (a' := ?_) ?_ ?_
  rotate_left
  ·
   show Act.put _ (some 40) _ = _
   simp only [Act.put, List.setIfInBounds_toArray, List.set_cons_zero, List.set_cons_succ]
   rfl
  refine pure_ (i := 10) (N := some 41) (v := ?_) (a' := ?_) #[true, true, true, true, true, true, true, true, true, true, true, false] rfl rfl (any_of HT_.out (by kernel_rfl)) (fun _ _ _ h => h) (Or.inl ⟨by rfl, ?_⟩) ?_ ?_
  rotate_left
  ·
   intro w'
   go_simp
   with_reducible rfl
  rotate_left
  ·
   simp only [Act.put, List.setIfInBounds_toArray, List.set_cons_zero, List.set_cons_succ]
   rfl
  refine last_ (i := 11) (N := none) #[true, true, true, true, true, true, true, true, true, true, true, true] rfl rfl (one_of HT_.out (by kernel_rfl)) (by decide) (fun K hK => ?_)
  have hs_ := hHeld.2
  refine skip_ (w1 := ?_) (by rfl) rfl ?_ ?_
  rotate_left
  ·
   go_simp
   rfl
  refine hK.out _ _ ?_
  clear hK K hs_
  have hHeld6 := blk_far hHeld.1 (p := ⟨g2, find.toNat, none⟩) (Ne.symm HN.out.1) (.slice B5 row5.length d5)
  have hX6 := blk_far H5.out.2.2.2.2 (p := ⟨g2, find.toNat, none⟩) (Ne.symm HN.out.2.2.2.1) (.slice B5 row5.length d5)
  have hP6 := Kd.R_grown1 H5.out.2.1 rfl H5.out.1.2 (H5.out.1.1.choose_spec.1 g2 rfl)
  have hQ6 := Kd.R_over' H5.out.2.2.1 (v := .slice (some ⟨g2, 0, none⟩) T.length d2) (e' := 22) (fun k hk => by obtain rfl : g2 = k := Option.some.inj hk; exact HY.out.1) (by decide) H5.out.1.2
  have hB6 := setCell_below H5.out.2.2.2.1 (p := ⟨g2, find.toNat, none⟩) (Kd.S_base H5.out.1.1 g2 rfl) (.slice B5 row5.length d5)
  have H6 := Go.Lib.hid (And.intro H5.out.1.1 (And.intro hP6 (And.intro hQ6 (And.intro hB6 hX6))))
  have HROW := Go.Lib.hid HY.out.2
  clear H5 hP6 hQ6 hB6 hX6 hHeld HY
  generalize w5.setCell ⟨g2, find.toNat, none⟩ (.slice B5 row5.length d5) = w6 at H6 hHeld6 ⊢
  refine done_ (done_of HT_.out (by kernel_rfl)) ?_
  have q0 := (blk_cell hHeld6 0).trans rfl
  have q1 := (blk_cell hHeld6 1).trans rfl
  have q2 := (blk_cell hHeld6 2).trans rfl
  have z0 := (blk_cell H6.out.2.2.2.2 0).trans rfl
  have z1 := (blk_cell H6.out.2.2.2.2 1).trans rfl
  have z2 := (blk_cell H6.out.2.2.2.2 2).trans rfl
  have y0 := blk_frozen H6.out.2.2.2.2 0
  have y1 := blk_frozen H6.out.2.2.2.2 1
  have y2 := blk_frozen H6.out.2.2.2.2 2
  go_wp2_with fail
  refine bodyPost_ret (results_ct rfl _ _ (w.heap.size + 1) 26 #[.slice B0 F.length d0, .slice B1 S.length d1, .slice (some ⟨g2, 0, none⟩) T.length d2] (0, 0) _ rfl (own_put3 H6.out.2.2.2.2 _ _ _) Try.underlying26 rfl (by kernel_rfl)) rfl ?_
  have hz := HRES3.out
  rw [HROW.out] at hz
  subst hz
  exact ⟨_, _, _, rfl, own_box3R H6.out.2.1 H6.out.2.2.2.2 (by decide) _ _ _, own_box3R H6.out.2.2.1 H6.out.2.2.2.2 (by decide) _ _ _, own_box3S H6.out.1 H6.out.2.2.2.2 (by decide) _ _ _, own_box3B H6.out.2.2.2.1 (Nat.le_succ _) _ _ _⟩
end Go.Proofs.Ytkmmihadcbfkoaa
end

section
namespace Go.Proofs.Ytkmmihadcbfkoaa
open Go.RowKit Go.Proofs.YtkmmihadcbfkoaaW.PrintWords PM
set_option linter.unusedVariables false
set_option linter.unusedSimpArgs false
set_option maxRecDepth 100000 in
set_option maxHeartbeats 8000000 in
theorem fixed_calls (A0 : Option Addr) (c0 : Nat) (F : List Int) (A1 : Option Addr) (c1 : Nat) (S : List S50) (A2 : Option Addr) (c2 : Nat) (T : List (List Int)) (find slot : Int) (w : World)
  (hr0 : Kd.C (Kd.int .i64) w A0 F.length F) (hc0 : F.length ≤ c0) (hr1 : Kd.C k50 w A1 S.length S) (hc1 : S.length ≤ c1) (hr2 : Kd.C (Kd.slice 3 (Kd.int .i64)) w A2 T.length T) (hc2 : T.length ≤ c2) :
  Calls Try.prog 27 #[.agg #[.slice A0 F.length c0, .slice A1 S.length c1, .slice A2 T.length c2], .int .i64 find, .int .i64 slot] w fun e w' => OwnPost (fixedP F S T find slot) w e w' := by
 have hBa := (Below.refl w.heap.size w).alloc (Nat.le_refl _) (.cells #[.slice A0 F.length c0, .slice A1 S.length c1, .slice A2 T.length c2] 26)
 have hBb := hBa.alloc (by simp) (.cells #[.int .i64 slot] 3)
 have hB0 := hBb.alloc (by simp; omega) (.cells #[.slice none 0 0, .slice none 0 0, .slice none 0 0] 26)
 have hcell : (((w.alloc (.cells #[.slice A0 F.length c0, .slice A1 S.length c1, .slice A2 T.length c2] 26)).alloc (.cells #[.int .i64 slot] 3)).alloc (.cells #[.slice none 0 0, .slice none 0 0, .slice none 0 0] 26)).cell? ⟨w.heap.size + 1, 0, none⟩ = some (.int .i64 slot) := by
  refine cell_of_heap (t := 3) (cs := #[.int .i64 slot]) (fr := (0, 0)) ?_ rfl
  refine (((Below.refl _ _).alloc (Nat.le_refl _) _).block (w.heap.size + 1) (by simp)).trans ?_
  have := World.alloc_heap_new (w.alloc (.cells #[.slice A0 F.length c0, .slice A1 S.length c1, .slice A2 T.length c2] 26)) (.cells #[.int .i64 slot] 3)
  rwa [show (w.alloc (.cells #[.slice A0 F.length c0, .slice A1 S.length c1, .slice A2 T.length c2] 26)).heap.size = w.heap.size + 1 from by simp] at this
 have hbS : (((w.alloc (.cells #[.slice A0 F.length c0, .slice A1 S.length c1, .slice A2 T.length c2] 26)).alloc (.cells #[.int .i64 slot] 3)).alloc (.cells #[.slice none 0 0, .slice none 0 0, .slice none 0 0] 26)).heap[w.heap.size + 2]? = some (.cells #[.slice none 0 0, .slice none 0 0, .slice none 0 0] 26 (0, 0)) := by
  have := World.alloc_heap_new ((w.alloc (.cells #[.slice A0 F.length c0, .slice A1 S.length c1, .slice A2 T.length c2] 26)).alloc (.cells #[.int .i64 slot] 3)) (.cells #[.slice none 0 0, .slice none 0 0, .slice none 0 0] 26)
  rwa [show ((w.alloc (.cells #[.slice A0 F.length c0, .slice A1 S.length c1, .slice A2 T.length c2] 26)).alloc (.cells #[.int .i64 slot] 3)).heap.size = w.heap.size + 2 from by simp] at this
 have CF := fitted_calls A0 c0 F A1 c1 S A2 c2 T find slot 65 #[.pointer (some ⟨w.heap.size + 1, 0, none⟩)] (fun _ => [slot]) _ (Kd.C_below hr0 hB0) hc0 (Kd.C_below hr1 hB0) hc1 (Kd.C_below hr2 hB0) hc2
  (fits65 slot (w.heap.size + 1) _ (by simp) hcell) (enters_of Try.func65 (by kernel_rfl) rfl)
 have hsz : (((w.alloc (.cells #[.slice A0 F.length c0, .slice A1 S.length c1, .slice A2 T.length c2] 26)).alloc (.cells #[.int .i64 slot] 3)).alloc (.cells #[.slice none 0 0, .slice none 0 0, .slice none 0 0] 26)).heap.size = w.heap.size + 3 := by simp
 obtain ⟨res, he⟩ : ∃ res, fixedP F S T find slot = res := ⟨_, rfl⟩
 rw [he]
 rw [show fittedP F S T find slot (fun _ => [slot]) = res from he] at CF
 have HB := Go.Lib.hid (And.intro hB0 (And.intro hbS hsz))
 clear hr0 hr1 hr2 hc0 hc1 hc2 hB0 hBa hBb hcell hbS hsz he
 go_enter Try.func27, Try.ntmps27
 go_wp2_with fail
 refine CF.mono ?_
 clear CF
 rintro e w1 ⟨v0, v1, v2, rfl, r0, r1, r2, hb⟩
 obtain ⟨B0, d0, rfl⟩ := Kd.R_slice r0
 obtain ⟨B1, d1, rfl⟩ := Kd.R_slice r1
 obtain ⟨B2, d2, rfl⟩ := Kd.S_slice r2
 have hw1 := HB.out.1.trans (hb.mono HB.out.1.size)
 have hbS := (hb.block (w.heap.size + 2) (by rw [HB.out.2.2]; omega)).trans HB.out.2.1
 have hle : w.heap.size ≤ (((w.alloc (.cells #[.slice A0 F.length c0, .slice A1 S.length c1, .slice A2 T.length c2] 26)).alloc (.cells #[.int .i64 slot] 3)).alloc (.cells #[.slice none 0 0, .slice none 0 0, .slice none 0 0] 26)).heap.size := HB.out.1.size
 have H1 := Go.Lib.hid (And.intro (Kd.R_lower r0 hle) (And.intro (Kd.R_lower r1 hle) (And.intro (Kd.S_lower r2 hle) (And.intro hw1 hbS))))
 clear r0 r1 r2 hb hw1 hbS hle HB
 have z0 := cell_of_heap H1.out.2.2.2.2 (j := 0) rfl
 have z1 := cell_of_heap H1.out.2.2.2.2 (j := 1) rfl
 have z2 := cell_of_heap H1.out.2.2.2.2 (j := 2) rfl
 have y0 := blk_frozen H1.out.2.2.2.2 0
 have y1 := blk_frozen H1.out.2.2.2.2 1
 have y2 := blk_frozen H1.out.2.2.2.2 2
 go_wp2_with fail
 refine bodyPost_ret (results_ct rfl _ _ (w.heap.size + 2) 26 #[.slice B0 res.1.length d0, .slice B1 res.2.1.length d1, .slice B2 res.2.2.1.length d2] (0, 0) _ rfl (own_put3 H1.out.2.2.2.2 _ _ _) Try.underlying26 rfl (by kernel_rfl)) rfl ?_
 exact ⟨_, _, _, rfl, own_box3R H1.out.1 H1.out.2.2.2.2 (by decide) _ _ _, own_box3R H1.out.2.1 H1.out.2.2.2.2 (by decide) _ _ _, own_box3S H1.out.2.2.1 H1.out.2.2.2.2 (by decide) _ _ _, own_box3B H1.out.2.2.2.1 (by omega) _ _ _⟩
end Go.Proofs.Ytkmmihadcbfkoaa
end

section
namespace Go.Proofs.Ytkmmihadcbfkoaa
open Go.RowKit Go.Proofs.YtkmmihadcbfkoaaW.PrintWords PM
set_option linter.unusedVariables false
set_option linter.unusedSimpArgs false
/-- The law's board, behind its box. -/
structure LO (w0 : World) (A0 : Option Addr) (c0 : Nat) (F : List Int) (A1 : Option Addr) (c1 : Nat) (S : List S50) (A2 : Option Addr) (c2 : Nat) (T : List (List Int)) (w : World) : Prop where
 at0 : LAt w0 A0 c0 F A1 c1 S A2 c2 T (w0.alloc (.cells #[.slice A0 F.length c0, .slice A1 S.length c1, .slice A2 T.length c2] 26))
 B : Below (w0.heap.size + 1) (w0.alloc (.cells #[.slice A0 F.length c0, .slice A1 S.length c1, .slice A2 T.length c2] 26)) w
section
variable {w0 w w' : World} {A0 : Option Addr} {c0 : Nat} {F : List Int} {A1 : Option Addr} {c1 : Nat} {S : List S50} {A2 : Option Addr} {c2 : Nat} {T : List (List Int)}
theorem LO.at (h : LO w0 A0 c0 F A1 c1 S A2 c2 T w) : LAt w0 A0 c0 F A1 c1 S A2 c2 T w := h.at0.later (by
 have := h.B
 rwa [show (w0.alloc (.cells #[.slice A0 F.length c0, .slice A1 S.length c1, .slice A2 T.length c2] 26)).heap.size = w0.heap.size + 1 from by simp])
theorem LO.later (h : LO w0 A0 c0 F A1 c1 S A2 c2 T w) (hb : Below w.heap.size w w') : LO w0 A0 c0 F A1 c1 S A2 c2 T w' :=
 ⟨h.at0, h.B.trans (hb.mono (by have := h.B.size; simpa using this))⟩
theorem LO.size (h : LO w0 A0 c0 F A1 c1 S A2 c2 T w) : w0.heap.size + 1 ≤ w.heap.size := by have := h.B.size; simpa using this
theorem LO.start (hr0 : Kd.C (Kd.int .i64) w0 A0 F.length F) (hc0 : F.length ≤ c0) (hr1 : Kd.C k50 w0 A1 S.length S) (hc1 : S.length ≤ c1) (hr2 : Kd.C (Kd.slice 3 (Kd.int .i64)) w0 A2 T.length T) (hc2 : T.length ≤ c2) :
  LO w0 A0 c0 F A1 c1 S A2 c2 T (w0.alloc (.cells #[.slice A0 F.length c0, .slice A1 S.length c1, .slice A2 T.length c2] 26)) :=
 ⟨LAt.start hr0 hc0 hr1 hc1 hr2 hc2, Below.refl _ _⟩
end
/-- Three values that hold a board of a call's own. -/
def OwnAt (r : List Int × List S50 × List (List Int)) (v0 v1 v2 : Value) (w : World) : Prop :=
 Kd.R (Kd.int .i64) 3 w 0 (fun _ => True) v0 r.1 ∧ Kd.R k50 50 w 0 (fun _ => True) v1 r.2.1 ∧ Kd.S (Kd.slice 3 (Kd.int .i64)) 22 w 0 (fun _ => True) v2 r.2.2
theorem OwnAt.later {r : List Int × List S50 × List (List Int)} {v0 v1 v2 : Value} {w w' : World} (h : OwnAt r v0 v1 v2 w) (hb : Below w.heap.size w w') : OwnAt r v0 v1 v2 w' :=
 ⟨Kd.R_below h.1 hb, Kd.R_below h.2.1 hb, Kd.S_below h.2.2 hb⟩
/-- A board and an error are returned. -/
def BPost (r : List Int × List S50 × List (List Int)) (q : Int) (w : World) (e : Ending) (w' : World) : Prop :=
 ∃ B0 d0 B1 d1 B2 d2, e = .returned (.tuple #[.agg #[.slice B0 r.1.length d0, .slice B1 r.2.1.length d1, .slice B2 r.2.2.length d2], .int .i64 q]) ∧ OwnAt r (.slice B0 r.1.length d0) (.slice B1 r.2.1.length d1) (.slice B2 r.2.2.length d2) w' ∧ Below w.heap.size w w'
theorem bpost_of {r1 : List Int} {r2 : List S50} {r3 : List (List Int)} {q : Int} {w : World} {e : Ending} {w' : World}
  (h : ∃ v0 v1 v2 : Value, e = .returned (.tuple #[.agg #[v0, v1, v2], .int .i64 q]) ∧ Kd.R (Kd.int .i64) 3 w' w.heap.size (fun _ => True) v0 r1 ∧ Kd.R k50 50 w' w.heap.size (fun _ => True) v1 r2 ∧ Kd.S (Kd.slice 3 (Kd.int .i64)) 22 w' w.heap.size (fun k_ => some k_ ≠ (v0 : Value).ownBlock) v2 r3 ∧ Below w.heap.size w w') :
  BPost (r1, r2, r3) q w e w' := by
 obtain ⟨v0, v1, v2, rfl, h0, h1, h2, hb⟩ := h
 obtain ⟨B0, d0, rfl⟩ := Kd.R_slice h0
 obtain ⟨B1, d1, rfl⟩ := Kd.R_slice h1
 obtain ⟨B2, d2, rfl⟩ := Kd.S_slice h2
 exact ⟨B0, d0, B1, d1, B2, d2, rfl, ⟨Kd.R_lower h0 (Nat.zero_le _), Kd.R_lower h1 (Nat.zero_le _), Kd.S_mono (Kd.S_lower h2 (Nat.zero_le _)) (fun _ _ => trivial)⟩, hb⟩
theorem same_own {F : List Int} {S : List S50} {T : List (List Int)} {A0 A1 A2 B0 B1 B2 : Option Addr} {c0 c1 c2 d0 d1 d2 : Nat} {w : World}
  (h : OwnAt (F, S, T) (.slice A0 F.length c0) (.slice A1 S.length c1) (.slice A2 T.length c2) w) (k : OwnAt (F, S, T) (.slice B0 F.length d0) (.slice B1 S.length d1) (.slice B2 T.length d2) w) (hT : T.length ≤ 1000000) (hR : ∀ l, l ∈ T → l.length ≤ 9223372036854775807) :
  Calls Try.prog 28 #[.agg #[.slice A0 F.length c0, .slice A1 S.length c1, .slice A2 T.length c2], .agg #[.slice B0 F.length d0, .slice B1 S.length d1, .slice B2 T.length d2]] w fun e w' => e = .returned (.bool true) ∧ Below w.heap.size w w' := by
 have a0 := Kd.R_reads' h.1
 have a1 := Kd.R_reads' h.2.1
 have a2 := Kd.S_reads' h.2.2
 have b0 := Kd.R_reads' k.1
 have b1 := Kd.R_reads' k.2.1
 have b2 := Kd.S_reads' k.2.2
 exact sameboard_calls A0 c0 F A1 c1 S A2 c2 T B0 d0 B1 d1 B2 d2 w a0.2.2 a0.2.1 a1.2.2 a1.2.1 a2.2.2 a2.2.1 b0.2.2 b0.2.1 b1.2.2 b1.2.1 b2.2.2 b2.2.1 hT hR
theorem fixed_own {w0 w : World} {A0 : Option Addr} {c0 : Nat} {F : List Int} {A1 : Option Addr} {c1 : Nat} {S : List S50} {A2 : Option Addr} {c2 : Nat} {T : List (List Int)} {find slot : Int} {a : List Int} {b : List S50} {t : List (List Int)} {q : Int} (h : LAt w0 A0 c0 F A1 c1 S A2 c2 T w) (er : fixedP F S T find slot = (a, b, t, q)) :
  Calls Try.prog 27 #[.agg #[.slice A0 F.length c0, .slice A1 S.length c1, .slice A2 T.length c2], .int .i64 find, .int .i64 slot] w (BPost (a, b, t) q w) := by
 refine (fixed_calls A0 c0 F A1 c1 S A2 c2 T find slot w h.C0 h.l0 h.C1 h.l1 h.C2 h.l2).mono fun e w' k => ?_
 rw [er] at k
 exact bpost_of k
end Go.Proofs.Ytkmmihadcbfkoaa
end

section
namespace Go.Proofs.Ytkmmihadcbfkoaa
open Go.RowKit Go.Proofs.YtkmmihadcbfkoaaW.PrintWords PM
set_option linter.unusedVariables false
set_option linter.unusedSimpArgs false
/-- The bounds of a wide board. -/
def WideB (F : List Int) (S : List S50) (T : List (List Int)) : Prop := F.length ≤ 70 ∧ S.length ≤ 210 ∧ T.length ≤ 70 ∧ ∀ j, j < T.length → (T.getD j []).length ≤ 60
theorem wide_evb {F : List Int} {S : List S50} {T : List (List Int)} (hT : T.length ≤ 9223372036854775807) (d : Nat) : ∀ i : Nat, T.length - i = d → i ≤ T.length → ∃ b, Ev (fun k => laganlaw04_wide.l0 k (i : Int) F S T) b ∧ (b = true → ∀ j, i ≤ j → j < T.length → (T.getD j []).length ≤ 60) := by
 induction d with
 | zero =>
  intro i hd hi
  obtain ⟨b, hb⟩ := wide_ev (F := F) (S := S) hT 0 i hd hi
  exact ⟨b, hb, fun _ j h1 h2 => by omega⟩
 | succ d ih =>
  intro i hd hi
  have hw := wrap_pm (i := (i : Int)) (by omega) (by omega)
  obtain ⟨b, hb, hj⟩ := ih (i + 1) (by omega) (by omega)
  rw [show ((i + 1 : Nat) : Int) = (i : Int) + 1 by omega, ← hw.1] at hb
  by_cases h : ((rd_L1 T (i : Int)).length : Int) > 60
  ·
   exact ⟨false, Ev.into (fun k => by rw [laganlaw04_wide.l0]) (Ev.pos (by omega) (Ev.pos (by omega) (Ev.pos h (Ev.const _)))), fun h => by cases h⟩
  refine ⟨b, Ev.into (fun k => by rw [laganlaw04_wide.l0]) (Ev.pos (by omega) (Ev.pos (by omega) (Ev.neg h hb))), fun hbt j h1 h2 => ?_⟩
  by_cases e : j = i
  rotate_left
  ·
   exact hj hbt j (by omega) h2
  subst e
  have h3 : rd_L1 T (j : Int) = T.getD j [] := by unfold rd_L1; rw [Int.toNat_natCast]
  rw [h3] at h
  omega
theorem wide_b (F : List Int) (S : List S50) (T : List (List Int)) (hT : T.length ≤ 9223372036854775807) : ∃ b, Ev (fun k => laganlaw04_wide.f k F S T) b ∧ (b = true → WideB F S T) := by
 have hjt : Ev (fun k => laganlaw04_wide.j0 k true F S T) false := Ev.into (fun k => by rw [laganlaw04_wide.j0]) (Ev.pos rfl (Ev.const _))
 by_cases h1 : (F.length : Int) > 70
 ·
  exact ⟨false, Ev.pos h1 hjt, fun h => by cases h⟩
 by_cases h2 : (S.length : Int) > 210
 ·
  exact ⟨false, Ev.neg h1 (Ev.pos h2 hjt), fun h => by cases h⟩
 by_cases h3 : (T.length : Int) > 70
 ·
  refine ⟨false, Ev.neg h1 (Ev.neg h2 ?_), fun h => by cases h⟩
  rw [decide_eq_true h3]
  exact hjt
 obtain ⟨b, hb, hj⟩ := wide_evb (F := F) (S := S) hT T.length 0 (by omega) (by omega)
 rw [show ((0 : Nat) : Int) = 0 from rfl] at hb
 refine ⟨b, Ev.neg h1 (Ev.neg h2 ?_), fun h => ⟨by omega, by omega, by omega, fun j hlt => hj h j (Nat.zero_le _) hlt⟩⟩
 rw [decide_eq_false h3]
 exact Ev.into (fun k => by rw [laganlaw04_wide.j0]) (Ev.neg (by simp) hb)
theorem WideB.rows {F : List Int} {S : List S50} {T : List (List Int)} (h : WideB F S T) : ∀ l, l ∈ T → l.length ≤ 60 := by
 intro l hl
 obtain ⟨j, hj, rfl⟩ := List.getElem_of_mem hl
 have := h.2.2.2 j hj
 rwa [List.getD_eq_getElem?_getD, List.getElem?_eq_getElem hj] at this
theorem wide_cop {F : List Int} {S : List S50} {T : List (List Int)} (h : WideB F S T) : Ev (fun k => laganref04_Copied.f k F S T) (F, S, T) := by
 have h1 := h.1
 have h2 := h.2.1
 have h3 := h.2.2.1
 exact cop_is (by omega) (by omega) (by omega) (fun l hl => by have := h.rows l hl; omega)
/-- Fixed keeps the bounds. -/
theorem wide_fixed {F : List Int} {S : List S50} {T : List (List Int)} (h : WideB F S T) (find slot : Int) {a : List Int} {b : List S50} {t : List (List Int)} {q : Int} (e : fixedP F S T find slot = (a, b, t, q)) : WideB a b t := by
 unfold fixedP fittedP at e
 have h0 : WideB [] [] [] := ⟨Nat.zero_le _, Nat.zero_le _, Nat.zero_le _, fun j hj => absurd hj (Nat.not_lt_zero _)⟩
 split at e
 ·
  split at e
  ·
   injection e with e1 e
   injection e with e2 e
   injection e with e3 e4
   subst e1 e2 e3
   refine ⟨h.1, h.2.1, by rw [List.length_set]; exact h.2.2.1, fun j hj => ?_⟩
   rw [List.length_set] at hj
   rw [List.getD_eq_getElem?_getD, List.getElem?_set]
   split
   ·
    rename_i k
    split
    ·
     exact (by decide : 1 ≤ 60)
    exact Nat.zero_le _
   have := h.2.2.2 j hj
   rwa [List.getD_eq_getElem?_getD] at this
  injection e with e1 e
  injection e with e2 e
  injection e with e3 e4
  subst e1 e2 e3
  exact h0
 injection e with e1 e
 injection e with e2 e
 injection e with e3 e4
 subst e1 e2 e3
 exact h0
/-- What lies outside the blocks from M below N stays. -/
structure Mid (M N : Nat) (w w' : World) : Prop where
 os : w'.os = w.os
 tape : w'.tape = w.tape
 output : w'.output = w.output
 size : w.heap.size ≤ w'.heap.size
 far : ∀ k, k < w.heap.size → (k < M ∨ N ≤ k) → w'.heap[k]? = w.heap[k]?
theorem Mid.refl (M N : Nat) (w : World) : Mid M N w w := ⟨rfl, rfl, rfl, Nat.le_refl _, fun _ _ _ => rfl⟩
theorem Mid.set {M N : Nat} {w0 w : World} (h : Mid M N w0 w) {g : Nat} (h1 : M ≤ g) (h2 : g < N) (j : Nat) (u : Value) : Mid M N w0 (w.setCell ⟨g, j, none⟩ u) :=
 ⟨h.os, h.tape, h.output, by rw [show (w.setCell ⟨g, j, none⟩ u).heap.size = w.heap.size from by simp [World.setCell]]; exact h.size, fun k hk hm => (Below.heap_setCell w ⟨g, j, none⟩ u k (by show k ≠ g; omega)).trans (h.far k hk hm)⟩
theorem Mid.below {M N B : Nat} {w0 w w' : World} (h : Below B w0 w) (hB : B ≤ w.heap.size) (k : Mid M N w w') (hM : B ≤ M) : Below B w0 w' :=
 h.trans ⟨k.os, k.tape, k.output, k.size, fun j hj => k.far j (by omega) (Or.inl (by omega))⟩
theorem Mid.block {M N : Nat} {w w' : World} (k : Mid M N w w') {g : Nat} {o : Obj} (h : w.heap[g]? = some o) (hm : g < M ∨ N ≤ g) : w'.heap[g]? = some o := (k.far g (blk_lt h) hm).trans h
theorem LO.mid {w0 w w' : World} {A0 : Option Addr} {c0 : Nat} {F : List Int} {A1 : Option Addr} {c1 : Nat} {S : List S50} {A2 : Option Addr} {c2 : Nat} {T : List (List Int)} {M N : Nat} (h : LO w0 A0 c0 F A1 c1 S A2 c2 T w) (k : Mid M N w w') (hM : w0.heap.size + 1 ≤ M) : LO w0 A0 c0 F A1 c1 S A2 c2 T w' :=
 ⟨h.at0, Mid.below h.B h.size k hM⟩
/-- A board of a call's own, whose blocks are known. -/
def OwnO (ok : Nat → Prop) (r : List Int × List S50 × List (List Int)) (v0 v1 v2 : Value) (w : World) : Prop :=
 Kd.R (Kd.int .i64) 3 w 0 ok v0 r.1 ∧ Kd.R k50 50 w 0 ok v1 r.2.1 ∧ Kd.S (Kd.slice 3 (Kd.int .i64)) 22 w 0 ok v2 r.2.2
theorem OwnO.later {ok : Nat → Prop} {r : List Int × List S50 × List (List Int)} {v0 v1 v2 : Value} {w w' : World} (h : OwnO ok r v0 v1 v2 w) (hb : Below w.heap.size w w') : OwnO ok r v0 v1 v2 w' :=
 ⟨Kd.R_below h.1 hb, Kd.R_below h.2.1 hb, Kd.S_below h.2.2 hb⟩
theorem OwnO.mid {ok : Nat → Prop} {r : List Int × List S50 × List (List Int)} {v0 v1 v2 : Value} {w w' : World} {M N : Nat} (h : OwnO ok r v0 v1 v2 w) (k : Mid M N w w') (ho : ∀ k, ok k → k < M ∨ N ≤ k) : OwnO ok r v0 v1 v2 w' :=
 ⟨Kd.R_step h.1 (fun j hj hl => k.far j hl (ho j hj)), Kd.R_step h.2.1 (fun j hj hl => k.far j hl (ho j hj)), Kd.S_step h.2.2 (fun j hj hl => k.far j hl (ho j hj))⟩
theorem OwnO.at {ok : Nat → Prop} {r : List Int × List S50 × List (List Int)} {v0 v1 v2 : Value} {w : World} (h : OwnO ok r v0 v1 v2 w) : OwnAt r v0 v1 v2 w :=
 ⟨Kd.R_mono h.1 (fun _ _ => trivial), Kd.R_mono h.2.1 (fun _ _ => trivial), Kd.S_mono h.2.2 (fun _ _ => trivial)⟩
theorem OwnO.mono {ok ok' : Nat → Prop} {r : List Int × List S50 × List (List Int)} {v0 v1 v2 : Value} {w : World} (h : OwnO ok r v0 v1 v2 w) (ho : ∀ k, ok k → ok' k) : OwnO ok' r v0 v1 v2 w :=
 ⟨Kd.R_mono h.1 ho, Kd.R_mono h.2.1 ho, Kd.S_mono h.2.2 ho⟩
theorem OwnO.lt {ok : Nat → Prop} {r : List Int × List S50 × List (List Int)} {v0 v1 v2 : Value} {w : World} (h : OwnO ok r v0 v1 v2 w) : OwnO (fun k => k < w.heap.size) r v0 v1 v2 w :=
 ⟨Kd.R_mono (Kd.R_bound h.1) (fun k hk => hk.2.2.1), Kd.R_mono (Kd.R_bound h.2.1) (fun k hk => hk.2.2.1), Kd.S_mono (Kd.S_bound h.2.2) (fun k hk => hk.2.2.1)⟩
/-- The cells of a slice that is written into. -/
def RawS (M N t sz n : Nat) (A : Option Addr) (w : World) : Prop := 0 < n → ∃ g cs, A = some ⟨g, 0, none⟩ ∧ M ≤ g ∧ g < N ∧ w.heap[g]? = some (.cells cs t (0, 0)) ∧ n * sz ≤ cs.size
theorem blk_any {w : World} {g t : Nat} {cs : Array Value} (h : w.heap[g]? = some (.cells cs t (0, 0))) (g' j : Nat) (u : Value) : ∃ cs', (w.setCell ⟨g', j, none⟩ u).heap[g]? = some (.cells cs' t (0, 0)) ∧ cs'.size = cs.size := by
 by_cases e : g = g'
 ·
  subst e
  exact ⟨_, blk_set h j u, by simp⟩
 exact ⟨cs, blk_far (p := ⟨g', j, none⟩) h e u, rfl⟩
theorem RawS.set {M N t sz n : Nat} {A : Option Addr} {w : World} (h : RawS M N t sz n A w) (g' j : Nat) (u : Value) : RawS M N t sz n A (w.setCell ⟨g', j, none⟩ u) := fun hn => by
 obtain ⟨g, cs, e, h1, h2, h3, h4⟩ := h hn
 obtain ⟨cs', h5, h6⟩ := blk_any h3 g' j u
 exact ⟨g, cs', e, h1, h2, h5, by omega⟩
theorem RawS.below {M N t sz n : Nat} {A : Option Addr} {w w' : World} (h : RawS M N t sz n A w) (hb : Below w.heap.size w w') : RawS M N t sz n A w' := fun hn => by
 obtain ⟨g, cs, e, h1, h2, h3, h4⟩ := h hn
 exact ⟨g, cs, e, h1, h2, blk_below h3 hb, h4⟩
theorem raw_of {α : Type} {d : Kd α} {e : Nat} {w : World} {base : Nat} {ok : Nat → Prop} {A : Option Addr} {n c : Nat} {xs : List α} (h : Kd.R d e w base ok (.slice A n c) xs) : RawS base w.heap.size e d.sz n A w := fun hn => by
 obtain ⟨inner, h1, h2⟩ := Kd.R_own h
 rcases h2 with ⟨h3, _⟩ | ⟨g, cap, cur, h3, h4, h5, h6, _, h7, _⟩
 ·
  injection h3 with _ h3 _
  omega
 ·
  injection h3 with e1 e2 e3
  have hle : n * d.sz ≤ cap * d.sz := Nat.mul_le_mul_right _ (by omega)
  exact ⟨g, cur, e1, h4, blk_lt h5, h5, by omega⟩
/-- Rows that are written into. -/
def RawX (M N : Nat) (A2 : Option Addr) (t : List (List Int)) (w : World) : Prop := 0 < t.length → ∃ g cs, A2 = some ⟨g, 0, none⟩ ∧ M ≤ g ∧ g < N ∧ w.heap[g]? = some (.cells cs 22 (0, 0)) ∧
 ∀ i, i < t.length → ∃ A c, cs[i]? = some (.slice A (t.getD i []).length c) ∧ RawS M N 3 1 (t.getD i []).length A w
theorem RawX.set {M N : Nat} {A2 : Option Addr} {t : List (List Int)} {w : World} (h : RawX M N A2 t w) {g' : Nat} {cs' : Array Value} (hg : w.heap[g']? = some (.cells cs' 3 (0, 0))) (j : Nat) (u : Value) : RawX M N A2 t (w.setCell ⟨g', j, none⟩ u) := fun hn => by
 obtain ⟨g, cs, e, h1, h2, h3, h4⟩ := h hn
 have hne : g ≠ g' := fun e => by
  rw [e, hg] at h3
  injection h3 with h3
  injection h3 with _ h3
  exact absurd h3 (by decide)
 refine ⟨g, cs, e, h1, h2, blk_far (p := ⟨g', j, none⟩) h3 hne u, fun i hi => ?_⟩
 obtain ⟨A, c, h5, h6⟩ := h4 i hi
 exact ⟨A, c, h5, h6.set g' j u⟩
theorem RawX.set50 {M N : Nat} {A2 : Option Addr} {t : List (List Int)} {w : World} (h : RawX M N A2 t w) {g' : Nat} {cs' : Array Value} (hg : w.heap[g']? = some (.cells cs' 50 (0, 0))) (j : Nat) (u : Value) : RawX M N A2 t (w.setCell ⟨g', j, none⟩ u) := fun hn => by
 obtain ⟨g, cs, e, h1, h2, h3, h4⟩ := h hn
 have hne : g ≠ g' := fun e => by
  rw [e, hg] at h3
  injection h3 with h3
  injection h3 with _ h3
  exact absurd h3 (by decide)
 refine ⟨g, cs, e, h1, h2, blk_far (p := ⟨g', j, none⟩) h3 hne u, fun i hi => ?_⟩
 obtain ⟨A, c, h5, h6⟩ := h4 i hi
 exact ⟨A, c, h5, h6.set g' j u⟩
theorem RawX.below {M N : Nat} {A2 : Option Addr} {t : List (List Int)} {w w' : World} (h : RawX M N A2 t w) (hb : Below w.heap.size w w') : RawX M N A2 t w' := fun hn => by
 obtain ⟨g, cs, e, h1, h2, h3, h4⟩ := h hn
 refine ⟨g, cs, e, h1, h2, blk_below h3 hb, fun i hi => ?_⟩
 obtain ⟨A, c, h5, h6⟩ := h4 i hi
 exact ⟨A, c, h5, h6.below hb⟩
theorem rawx_of {w : World} {base : Nat} {ok : Nat → Prop} {A : Option Addr} {c : Nat} {t : List (List Int)} (h : Kd.S (Kd.slice 3 (Kd.int .i64)) 22 w base ok (.slice A t.length c) t) : RawX base w.heap.size A t w := fun hn => by
 obtain ⟨g, cs, e, h1, h2, h3, h4⟩ := raw_of (Kd.S_R h) hn
 subst e
 refine ⟨g, cs, rfl, h1, h2, h3, fun i hi => ?_⟩
 obtain ⟨oki, ce, hcl, hM, hcc, _, _, _⟩ := Kd.S_elem h [] (i : Int) (by omega) (by omega)
 obtain ⟨ur, rfl, hU⟩ : ∃ ur, ce = [ur] ∧ Kd.R (Kd.int .i64) 3 w base oki ur (t.getD ((i : Int)).toNat []) := hM
 rw [Int.toNat_natCast] at hU
 obtain ⟨Bu, du, rfl⟩ := Kd.R_slice hU
 have hc := hcc 0 _ rfl
 rw [Int.toNat_natCast, show i * (Kd.slice 3 (Kd.int .i64)).sz + 0 = i from by show i * 1 + 0 = i; omega, blk_cell h3] at hc
 exact ⟨Bu, du, hc, raw_of hU⟩
theorem RawX.at {M N : Nat} {A2 : Option Addr} {t : List (List Int)} {w : World} (h : RawX M N A2 t w) {i : Nat} (hi : i < t.length) :
  ∃ g A c, A2 = some ⟨g, 0, none⟩ ∧ w.cell? ⟨g, i, none⟩ = some (.slice A (t.getD i []).length c) ∧ RawS M N 3 1 (t.getD i []).length A w := by
 obtain ⟨g, cs, e, h1, h2, h3, h4⟩ := h (by omega)
 obtain ⟨A, c, h5, h6⟩ := h4 i hi
 exact ⟨g, A, c, e, (blk_cell h3 i).trans h5, h6⟩
theorem RawS.at {M N t sz n : Nat} {A : Option Addr} {w : World} (h : RawS M N t sz n A w) {i : Nat} (hi : i < n) (hs : 0 < sz) :
  ∃ g cs v, A = some ⟨g, 0, none⟩ ∧ M ≤ g ∧ g < N ∧ w.heap[g]? = some (.cells cs t (0, 0)) ∧ w.cell? ⟨g, i * sz, none⟩ = some v ∧ w.frozen? ⟨g, i * sz, none⟩ = false := by
 obtain ⟨g, cs, e, h1, h2, h3, h4⟩ := h (by omega)
 have hlt : i * sz < cs.size := by
  have : (i + 1) * sz ≤ n * sz := Nat.mul_le_mul_right _ (by omega)
  rw [Nat.succ_mul] at this
  omega
 exact ⟨g, cs, cs[i * sz], e, h1, h2, h3, (blk_cell h3 _).trans (Array.getElem?_eq_getElem hlt), blk_frozen h3 _⟩
/-- A board that a call has made: where it lies, and into what may be written. -/
theorem post_raw {r1 : List Int} {r2 : List S50} {r3 : List (List Int)} {P : Value → Prop} {w : World} {w' : World} {v0 v1 v2 : Value}
  (h0 : Kd.R (Kd.int .i64) 3 w' w.heap.size (fun _ => True) v0 r1) (h1 : Kd.R k50 50 w' w.heap.size (fun _ => True) v1 r2) (h2 : Kd.S (Kd.slice 3 (Kd.int .i64)) 22 w' w.heap.size (fun k_ => some k_ ≠ (v0 : Value).ownBlock) v2 r3) :
  ∃ B0 d0 B1 d1 B2 d2, v0 = .slice B0 r1.length d0 ∧ v1 = .slice B1 r2.length d1 ∧ v2 = .slice B2 r3.length d2 ∧
   OwnO (fun k => w.heap.size ≤ k ∧ k < w'.heap.size) (r1, r2, r3) (.slice B0 r1.length d0) (.slice B1 r2.length d1) (.slice B2 r3.length d2) w' ∧
   RawS w.heap.size w'.heap.size 3 1 r1.length B0 w' ∧ RawS w.heap.size w'.heap.size 50 3 r2.length B1 w' ∧ RawX w.heap.size w'.heap.size B2 r3 w' := by
 obtain ⟨B0, d0, rfl⟩ := Kd.R_slice h0
 obtain ⟨B1, d1, rfl⟩ := Kd.R_slice h1
 obtain ⟨B2, d2, rfl⟩ := Kd.S_slice h2
 exact ⟨B0, d0, B1, d1, B2, d2, rfl, rfl, rfl, ⟨Kd.R_mono (Kd.R_lower (Kd.R_bound h0) (Nat.zero_le _)) (fun k hk => ⟨hk.2.1, hk.2.2.1⟩), Kd.R_mono (Kd.R_lower (Kd.R_bound h1) (Nat.zero_le _)) (fun k hk => ⟨hk.2.1, hk.2.2.1⟩), Kd.S_mono (Kd.S_lower (Kd.S_bound h2) (Nat.zero_le _)) (fun k hk => ⟨hk.2.1, hk.2.2.1⟩)⟩, raw_of h0, raw_of h1, rawx_of h2⟩
end Go.Proofs.Ytkmmihadcbfkoaa
end

section
namespace Go.Proofs.Ytkmmihadcbfkoaa
open Go.RowKit Go.Proofs.YtkmmihadcbfkoaaW.PrintWords PM
set_option linter.unusedVariables false
set_option linter.unusedSimpArgs false
section
variable {F : List Int} {S : List S50} {T : List (List Int)}
theorem ch_len : (allChances F S T).length = F.length := by simp [allChances]
theorem chances_ok (hc : checkB F S T = 0) (his : isF F S T = true) : match_Chances.f F S T = some (allChances F S T, 0) := by
 unfold match_Chances.f
 rw [if_neg (by simp [hc]), if_neg (by simp [his])]
theorem chances_no (hc : checkB F S T = 0) (his : isF F S T = false) : match_Chances.f F S T = some ([], 40) := by
 unfold match_Chances.f
 rw [if_neg (by simp [hc]), if_pos his]
theorem chances_ill (hc : checkB F S T ≠ 0) : match_Chances.f F S T = some ([], checkB F S T) := by
 unfold match_Chances.f
 rw [if_pos hc]
end
end Go.Proofs.Ytkmmihadcbfkoaa
end

section
namespace Go.Proofs.Ytkmmihadcbfkoaa
open Go.RowKit Go.Proofs.YtkmmihadcbfkoaaW.PrintWords PM
set_option linter.unusedVariables false
set_option linter.unusedSimpArgs false
section
variable {F : List Int} {S : List S50} {T : List (List Int)}
theorem ch_rows (hc : checkB F S T = 0) : ∀ l, l ∈ allChances F S T → l.length ≤ 1000 := by
 intro l hl
 unfold allChances at hl
 obtain ⟨f, hf, rfl⟩ := List.mem_map.1 hl
 have hk := bok_of_check hc
 have h1 := hk.row f (by rw [hk.nt]; exact List.mem_range.1 hf)
 exact Nat.le_trans (List.length_filter_le _ _) h1
theorem ch_some (F : List Int) (S : List S50) (T : List (List Int)) : ∃ cl e, match_Chances.f F S T = some (cl, e) ∧ (e = 0 → checkB F S T = 0 ∧ isF F S T = true ∧ cl = allChances F S T) := by
 by_cases hc : checkB F S T = 0
 rotate_left
 ·
  exact ⟨_, _, chances_ill hc, fun h => absurd h hc⟩
 cases his : isF F S T with
 | true => exact ⟨_, _, chances_ok hc his, fun _ => ⟨hc, rfl, rfl⟩⟩
 | false => exact ⟨_, _, chances_no hc his, fun h => absurd h (by decide)⟩
end
end Go.Proofs.Ytkmmihadcbfkoaa
end

section
namespace Go.Proofs.Ytkmmihadcbfkoaa
open Go.RowKit Go.Proofs.YtkmmihadcbfkoaaW.PrintWords Go.Proofs.YtkmmihadcbfkoaaW.PrintLast Go.Proofs.YtkmmihadcbfkoaaW.PrintMore PM
set_option linter.unusedVariables false
set_option linter.unusedSimpArgs false
/-- A list of lists that a call has made, to be read. -/
def CAt (A : Option Addr) (c : Nat) (l : List (List Int)) (w : World) : Prop := l.length ≤ c ∧ Kd.C (Kd.slice 3 (Kd.int .i64)) w A l.length l
theorem cat_of {v : Value} {l : List (List Int)} {w w' : World} {base : Nat} {ok : Nat → Prop} (h : Kd.S (Kd.slice 3 (Kd.int .i64)) 22 w base ok v l) : ∃ A c, v = .slice A l.length c ∧ CAt A c l w := by
 obtain ⟨A, c, e, h1, h2⟩ := Kd.R_reads (Kd.S_R h)
 exact ⟨A, c, e, h1, h2⟩
theorem chances_at {F : List Int} {S : List S50} {T : List (List Int)} {A0 A1 A2 : Option Addr} {c0 c1 c2 : Nat} {w0 w : World} {cl : List (List Int)} {e1 : Int}
  (h : LAt w0 A0 c0 F A1 c1 S A2 c2 T w) (hc : match_Chances.f F S T = some (cl, e1)) :
  Calls Try.prog 16 #[.agg #[.slice A0 F.length c0, .slice A1 S.length c1, .slice A2 T.length c2]] w fun e w' => ∃ A c, e = .returned (.tuple #[.slice A cl.length c, .int .i64 e1]) ∧ CAt A c cl w' ∧ Below w.heap.size w w' := by
 refine (match_Chances.calls A0 c0 F A1 c1 S A2 c2 T cl e1 w h.C0 h.l0 h.C1 h.l1 h.C2 h.l2 hc).mono ?_
 rintro e w' ⟨v, rfl, hS, hB⟩
 obtain ⟨A, c, rfl, hC⟩ := cat_of (w' := w') hS
 exact ⟨A, c, rfl, hC, hB⟩
end Go.Proofs.Ytkmmihadcbfkoaa
end

section
namespace Go.Proofs.Ytkmmihadcbfkoaa
open Go.RowKit Go.Proofs.YtkmmihadcbfkoaaW.PrintWords PM
set_option linter.unusedVariables false
set_option linter.unusedSimpArgs false
/-- Fixed, and into what of its board may be written. -/
theorem fixed_raw {w0 w : World} {A0 : Option Addr} {c0 : Nat} {F : List Int} {A1 : Option Addr} {c1 : Nat} {S : List S50} {A2 : Option Addr} {c2 : Nat} {T : List (List Int)} {find slot : Int} {a : List Int} {b : List S50} {t : List (List Int)} {q : Int} (h : LAt w0 A0 c0 F A1 c1 S A2 c2 T w) (er : fixedP F S T find slot = (a, b, t, q)) :
  Calls Try.prog 27 #[.agg #[.slice A0 F.length c0, .slice A1 S.length c1, .slice A2 T.length c2], .int .i64 find, .int .i64 slot] w fun e w' => ∃ B0 d0 B1 d1 B2 d2, e = .returned (.tuple #[.agg #[.slice B0 a.length d0, .slice B1 b.length d1, .slice B2 t.length d2], .int .i64 q]) ∧
   OwnO (fun k => w.heap.size ≤ k ∧ k < w'.heap.size) (a, b, t) (.slice B0 a.length d0) (.slice B1 b.length d1) (.slice B2 t.length d2) w' ∧
   (RawS w.heap.size w'.heap.size 3 1 a.length B0 w' ∧ RawS w.heap.size w'.heap.size 50 3 b.length B1 w' ∧ RawX w.heap.size w'.heap.size B2 t w') ∧ Below w.heap.size w w' := by
 refine (fixed_calls A0 c0 F A1 c1 S A2 c2 T find slot w h.C0 h.l0 h.C1 h.l1 h.C2 h.l2).mono fun e w' k => ?_
 rw [er] at k
 obtain ⟨v0, v1, v2, rfl, h0, h1, h2, hb⟩ := k
 obtain ⟨B0, d0, B1, d1, B2, d2, rfl, rfl, rfl, hO, hr0, hr1, hr2⟩ := post_raw (P := fun _ => True) h0 h1 h2
 exact ⟨B0, d0, B1, d1, B2, d2, rfl, hO, ⟨hr0, hr1, hr2⟩, hb⟩
/-- The reference's copy. -/
theorem copied_at {w : World} {A0 : Option Addr} {c0 : Nat} {F : List Int} {A1 : Option Addr} {c1 : Nat} {S : List S50} {A2 : Option Addr} {c2 : Nat} {T : List (List Int)} {K : Nat} (hr0 : Kd.C (Kd.int .i64) w A0 F.length F) (hc0 : F.length ≤ c0) (hr1 : Kd.C k50 w A1 S.length S) (hc1 : S.length ≤ c1) (hr2 : Kd.C (Kd.slice 3 (Kd.int .i64)) w A2 T.length T) (hc2 : T.length ≤ c2) (er : laganref04_Copied.f K F S T = some (F, S, T)) :
  Calls Try.prog 26 #[.agg #[.slice A0 F.length c0, .slice A1 S.length c1, .slice A2 T.length c2]] w fun e w' => ∃ B0 d0 B1 d1 B2 d2, e = .returned (.agg #[.slice B0 F.length d0, .slice B1 S.length d1, .slice B2 T.length d2]) ∧
   OwnO (fun k => w.heap.size ≤ k ∧ k < w'.heap.size) (F, S, T) (.slice B0 F.length d0) (.slice B1 S.length d1) (.slice B2 T.length d2) w' ∧ Below w.heap.size w w' := by
 refine (laganref04_Copied.calls K A0 c0 F A1 c1 S A2 c2 T F S T w hr0 hc0 hr1 hc1 hr2 hc2 er).mono fun e w' k => ?_
 obtain ⟨v0, v1, v2, rfl, h0, h1, h2, hb⟩ := k
 obtain ⟨B0, d0, B1, d1, B2, d2, rfl, rfl, rfl, hO, _, _, _⟩ := post_raw (P := fun _ => True) h0 h1 h2
 exact ⟨B0, d0, B1, d1, B2, d2, rfl, hO, hb⟩
theorem chances_raw {F : List Int} {S : List S50} {T : List (List Int)} {A0 A1 A2 : Option Addr} {c0 c1 c2 : Nat} {w0 w : World} {cl : List (List Int)} {e1 : Int}
  (h : LAt w0 A0 c0 F A1 c1 S A2 c2 T w) (hc : match_Chances.f F S T = some (cl, e1)) :
  Calls Try.prog 16 #[.agg #[.slice A0 F.length c0, .slice A1 S.length c1, .slice A2 T.length c2]] w fun e w' => ∃ A c, e = .returned (.tuple #[.slice A cl.length c, .int .i64 e1]) ∧ RawX w.heap.size w'.heap.size A cl w' ∧ Below w.heap.size w w' := by
 refine (match_Chances.calls A0 c0 F A1 c1 S A2 c2 T cl e1 w h.C0 h.l0 h.C1 h.l1 h.C2 h.l2 hc).mono ?_
 rintro e w' ⟨v, rfl, hS, hB⟩
 obtain ⟨A, c, rfl⟩ := Kd.S_slice hS
 exact ⟨A, c, rfl, rawx_of hS, hB⟩
/-- Chances' lists are short. -/
theorem ch_small {F : List Int} {S : List S50} {T : List (List Int)} {cl : List (List Int)} {e1 : Int} (hc : match_Chances.f F S T = some (cl, e1)) : cl.length ≤ 60 ∧ ∀ j, j < cl.length → (cl.getD j []).length ≤ 1000 := by
 obtain ⟨cl', e', h1, h2⟩ := ch_some F S T
 rw [h1] at hc
 injection hc with hc
 injection hc with hc1 hc2
 subst hc1 hc2
 by_cases hcb : checkB F S T = 0
 rotate_left
 ·
  rw [chances_ill hcb] at h1
  injection h1 with h1
  injection h1 with h1 _
  subst h1
  exact ⟨Nat.zero_le _, fun j hj => absurd hj (Nat.not_lt_zero _)⟩
 cases his : isF F S T with
 | true =>
  rw [chances_ok hcb his] at h1
  injection h1 with h1
  injection h1 with h1 _
  subst h1
  refine ⟨by rw [ch_len]; exact (bok_of_check hcb).nf, fun j hj => ch_rows hcb _ ?_⟩
  rw [List.getD_eq_getElem?_getD, List.getElem?_eq_getElem hj]
  exact List.getElem_mem hj
 | false =>
  rw [chances_no hcb his] at h1
  injection h1 with h1
  injection h1 with h1 _
  subst h1
  exact ⟨Nat.zero_le _, fun j hj => absurd hj (Nat.not_lt_zero _)⟩
set_option maxRecDepth 100000 in
set_option maxHeartbeats 8000000 in
theorem memory_walk (A0 : Option Addr) (c0 : Nat) (F : List Int) (A1 : Option Addr) (c1 : Nat) (S : List S50) (A2 : Option Addr) (c2 : Nat) (T : List (List Int)) (find slot : Int) (w : World)
  (hr0 : Kd.C (Kd.int .i64) w A0 F.length F) (hc0 : F.length ≤ c0) (hr1 : Kd.C k50 w A1 S.length S) (hc1 : S.length ≤ c1) (hr2 : Kd.C (Kd.slice 3 (Kd.int .i64)) w A2 T.length T) (hc2 : T.length ≤ c2) :
  Calls Try.prog 4 #[.agg #[.slice A0 F.length c0, .slice A1 S.length c1, .slice A2 T.length c2], .int .i64 find, .int .i64 slot] w fun e w' => e = .returned (.bool true) ∧ Below w.heap.size w w' := by
 have HL := Go.Lib.hid (LO.start hr0 hc0 hr1 hc1 hr2 hc2)
 have HRW := Go.Lib.hid HL.out.at.rows
 obtain ⟨b, hK, hwd⟩ := wide_b F S T hr2.2.1
 clear hr0 hc0 hr1 hc1 hr2 hc2
 obtain ⟨K, hK⟩ := hK
 have HK := Go.Lib.hid (hK K (Nat.le_refl _))
 have HWD := Go.Lib.hid hwd
 obtain ⟨cl, e1, hch, _⟩ := ch_some F S T
 have HCH := Go.Lib.hid hch
 obtain ⟨r, er⟩ : ∃ r, fixedP F S T find slot = r := ⟨_, rfl⟩
 obtain ⟨a1, b1, t1, q1⟩ := r
 have HER := Go.Lib.hid er
 have n1 : decide (q1 = q1) = true := decide_eq_true rfl
 have n2 : decide (e1 = e1) = true := decide_eq_true rfl
 clear hK hch er hwd
 go_enter Try.func4, Try.ntmps4
 have k0 := HL.out.at.k0
 have k1 := HL.out.at.k1
 have k2 := HL.out.at.k2
 have CC := laganlaw04_wide.calls K A0 c0 F A1 c1 S A2 c2 T b _ HL.out.at.C0 HL.out.at.l0 HL.out.at.C1 HL.out.at.l1 HL.out.at.C2 HL.out.at.l2 HK.out
 go_wp2_with fail
 clear k0 k1 k2 HK
 refine CC.mono ?_
 clear CC
 rintro e w1 ⟨rfl, hB⟩
 replace HL := Go.Lib.hid (HL.out.later hB)
 clear hB
 have k0 := HL.out.at.k0
 have k1 := HL.out.at.k1
 have k2 := HL.out.at.k2
 cases b with
 | false =>
  have CC := matched_walk w1
  go_wp2_with fail
  clear k0 k1 k2
  refine CC.mono ?_
  clear CC
  rintro e w2 ⟨rfl, hB⟩
  replace HL := Go.Lib.hid (HL.out.later hB)
  go_wp2_with fail
  go_ret
  exact ⟨rfl, HL.out.at.B⟩
 | true =>
  have HWB := Go.Lib.hid (And.intro (HWD.out rfl) (wide_fixed (HWD.out rfl) find slot HER.out))
  clear HWD
  obtain ⟨K1, hK1⟩ := wide_cop HWB.out.1
  obtain ⟨K2, hK2⟩ := wide_cop HWB.out.2
  have HK1 := Go.Lib.hid (hK1 K1 (Nat.le_refl _))
  have HK2 := Go.Lib.hid (hK2 K2 (Nat.le_refl _))
  clear hK1 hK2
  have CC := copied_at HL.out.at.C0 HL.out.at.l0 HL.out.at.C1 HL.out.at.l1 HL.out.at.C2 HL.out.at.l2 HK1.out
  go_wp2_with fail
  clear k0 k1 k2 HK1
  refine CC.mono ?_
  clear CC
  rintro e w2 ⟨U0, u0_, U1, u1_, U2, u2_, rfl, hO, hB⟩
  replace HL := Go.Lib.hid (HL.out.later hB)
  clear hB
  have hB : Below w2.heap.size w2 (w2.alloc (.cells #[.slice U0 F.length u0_, .slice U1 S.length u1_, .slice U2 T.length u2_] 26)) := (Below.refl _ _).alloc (Nat.le_refl _) _
  have HBU := Go.Lib.hid (World.alloc_heap_new w2 (.cells #[.slice U0 F.length u0_, .slice U1 S.length u1_, .slice U2 T.length u2_] 26))
  have HU := Go.Lib.hid (hO.later hB)
  clear hO
  replace HL := Go.Lib.hid (HL.out.later hB)
  clear hB
  have k0 := HL.out.at.k0
  have k1 := HL.out.at.k1
  have k2 := HL.out.at.k2
  have CC := fixed_raw HL.out.at HER.out
  go_wp2_with fail
  clear k0 k1 k2
  refine CC.mono ?_
  clear CC
  generalize w2.alloc (.cells #[.slice U0 F.length u0_, .slice U1 S.length u1_, .slice U2 T.length u2_] 26) = wa at HL HBU HU ⊢
  rintro e w3 ⟨X0, x0_, X1, x1_, X2, x2_, rfl, hO, hR, hB⟩
  have HSM := Go.Lib.hid (And.intro HL.out.size (And.intro (blk_lt HBU.out) hB.size))
  have HR := Go.Lib.hid hR
  clear hR
  replace HL := Go.Lib.hid (HL.out.later hB)
  replace HU := Go.Lib.hid (HU.out.later hB)
  replace HBU := Go.Lib.hid ((hB.block _ (blk_lt HBU.out)).trans HBU.out)
  clear hB
  have hB : Below w3.heap.size w3 (w3.alloc (.cells #[.slice X0 a1.length x0_, .slice X1 b1.length x1_, .slice X2 t1.length x2_] 26)) := (Below.refl _ _).alloc (Nat.le_refl _) _
  have HBX := Go.Lib.hid (World.alloc_heap_new w3 (.cells #[.slice X0 a1.length x0_, .slice X1 b1.length x1_, .slice X2 t1.length x2_] 26))
  have HX := Go.Lib.hid (hO.later hB)
  clear hO
  replace HL := Go.Lib.hid (HL.out.later hB)
  replace HU := Go.Lib.hid (HU.out.later hB)
  replace HBU := Go.Lib.hid ((hB.block _ (blk_lt HBU.out)).trans HBU.out)
  replace HR := Go.Lib.hid (And.intro (HR.out.1.below hB) (And.intro (HR.out.2.1.below hB) (HR.out.2.2.below hB)))
  clear hB
  have x0 := cell_of_heap HBX.out (j := 0) rfl
  have x1 := cell_of_heap HBX.out (j := 1) rfl
  have x2 := cell_of_heap HBX.out (j := 2) rfl
  have k0 := HL.out.at.k0
  have k1 := HL.out.at.k1
  have k2 := HL.out.at.k2
  have a0 := Kd.R_reads' HX.out.1
  have a1_ := Kd.R_reads' HX.out.2.1
  have a2 := Kd.S_reads' HX.out.2.2
  have CC := copied_at (K := K2) a0.2.2 a0.2.1 a1_.2.2 a1_.2.1 a2.2.2 a2.2.1 HK2.out
  clear a0 a1_ a2
  go_wp2_with fail
  clear k0 k1 k2 HK2 HX
  clear x0 x1 x2
  refine CC.mono ?_
  clear CC
  rintro e w4 ⟨Y0, y0_, Y1, y1_, Y2, y2_, rfl, hO, hB⟩
  have hO := hO.mono (ok' := fun k => w3.heap.size ≤ k) (fun k hk => by have h := hk.1; simp at h; omega)
  replace HL := Go.Lib.hid (HL.out.later hB)
  replace HU := Go.Lib.hid (HU.out.later hB)
  replace HBU := Go.Lib.hid ((hB.block _ (blk_lt HBU.out)).trans HBU.out)
  replace HBX := Go.Lib.hid ((hB.block _ (blk_lt HBX.out)).trans HBX.out)
  replace HR := Go.Lib.hid (And.intro (HR.out.1.below hB) (And.intro (HR.out.2.1.below hB) (HR.out.2.2.below hB)))
  clear hB
  have hB : Below w4.heap.size w4 (w4.alloc (.cells #[.slice Y0 a1.length y0_, .slice Y1 b1.length y1_, .slice Y2 t1.length y2_] 26)) := (Below.refl _ _).alloc (Nat.le_refl _) _
  have HBY := Go.Lib.hid (World.alloc_heap_new w4 (.cells #[.slice Y0 a1.length y0_, .slice Y1 b1.length y1_, .slice Y2 t1.length y2_] 26))
  have HY := Go.Lib.hid (hO.later hB)
  clear hO
  have HSY := Go.Lib.hid (show w3.heap.size ≤ w4.heap.size from by have := blk_lt HBX.out; omega)
  replace HL := Go.Lib.hid (HL.out.later hB)
  replace HU := Go.Lib.hid (HU.out.later hB)
  replace HBU := Go.Lib.hid ((hB.block _ (blk_lt HBU.out)).trans HBU.out)
  replace HBX := Go.Lib.hid ((hB.block _ (blk_lt HBX.out)).trans HBX.out)
  replace HR := Go.Lib.hid (And.intro (HR.out.1.below hB) (And.intro (HR.out.2.1.below hB) (HR.out.2.2.below hB)))
  clear hB
  go_wp2_with fail
  generalize w4.alloc (.cells #[.slice Y0 a1.length y0_, .slice Y1 b1.length y1_, .slice Y2 t1.length y2_] 26) = wc at HL HU HBU HBX HR HY HBY ⊢
  go_loopw [11] (fun i wr => ∃ k : Nat, k ≤ t1.length ∧ i = .int .i64 k ∧ Hid (Mid wa.heap.size w3.heap.size wc wr ∧ RawS wa.heap.size w3.heap.size 3 1 a1.length X0 wr ∧ RawS wa.heap.size w3.heap.size 50 3 b1.length X1 wr ∧ RawX wa.heap.size w3.heap.size X2 t1 wr)) (fun i _ => t1.length - (intOf i).toNat)
  case atStart => exact ⟨0, Nat.zero_le _, rfl, Mid.refl _ _ _, HR.out⟩
  obtain ⟨k, hk, rfl, HI⟩ := hrel
  have ht70 : t1.length ≤ 70 := HWB.out.2.2.2.1
  by_cases hlt : k < t1.length
  ·
   obtain ⟨gx, Ax, cx, ex, hcell, _⟩ := HI.out.2.2.2.at hlt
   obtain ⟨n, hn⟩ : ∃ n, (t1.getD k []).length = n := ⟨_, rfl⟩
   have hn60 : n ≤ 60 := by rw [← hn]; exact HWB.out.2.2.2.2 k hlt
   have HNN := Go.Lib.hid hn
   clear hcell
   subst ex
   clear hn
   have hbx := Go.Lib.hid (HI.out.1.block HBX.out (Or.inr (Nat.le_refl _)))
   have x0 := cell_of_heap hbx.out (j := 0) rfl
   have x1 := cell_of_heap hbx.out (j := 1) rfl
   have x2 := cell_of_heap hbx.out (j := 2) rfl
   clear hbx
   go_wp2_with fail
   clear x0 x1 x2
   go_loopw [12] (fun i wr => ∃ j : Nat, j ≤ n ∧ i = .int .i64 j ∧ Hid (Mid wa.heap.size w3.heap.size wc wr ∧ RawS wa.heap.size w3.heap.size 3 1 a1.length X0 wr ∧ RawS wa.heap.size w3.heap.size 50 3 b1.length X1 wr ∧ RawX wa.heap.size w3.heap.size (some ⟨gx, 0, none⟩) t1 wr)) (fun i _ => n - (intOf i).toNat)
   case atStart => exact ⟨0, Nat.zero_le _, rfl, HI.out⟩
   clear HI
   obtain ⟨j, hj, rfl, HI⟩ := hrel
   obtain ⟨gx', Ax', cx', ex', hcell, hraw⟩ := HI.out.2.2.2.at hlt
   obtain rfl : gx = gx' := by injection ex' with ex'; injection ex' with ex'
   clear ex'
   rw [HNN.out] at hcell hraw
   have hbx := Go.Lib.hid (HI.out.1.block HBX.out (Or.inr (Nat.le_refl _)))
   have x0 := cell_of_heap hbx.out (j := 0) rfl
   have x1 := cell_of_heap hbx.out (j := 1) rfl
   have x2 := cell_of_heap hbx.out (j := 2) rfl
   clear hbx
   by_cases hjl : j < n
   rotate_left
   ·
    obtain rfl : j = n := by omega
    have REL := Go.Lib.hid HI.out
    clear HI hraw
    go_wp2_with fail
    go_roundw
    case rel => exact ⟨k + 1, by omega, by simp, REL.out⟩
    case measure => simp [intOf]; omega
   obtain ⟨gr, cs, v, ea, h1, h2, hblk, hc, hf⟩ := hraw.at hjl (by decide)
   subst ea
   rw [Nat.mul_one] at hc hf
   have REL := Go.Lib.hid (And.intro (HI.out.1.set h1 h2 j (.int .i64 (-7))) (And.intro (HI.out.2.1.set gr j (.int .i64 (-7))) (And.intro (HI.out.2.2.1.set gr j (.int .i64 (-7))) (HI.out.2.2.2.set hblk j (.int .i64 (-7))))))
   clear HI h1 h2 hblk hraw
   have HN2 := Go.Lib.hid hn60
   go_wp2_with fail
   go_roundw
   case rel => exact ⟨j + 1, by omega, by simp, REL.out⟩
   case measure => simp [intOf]; omega
  obtain rfl : k = t1.length := by omega
  have HQ := Go.Lib.hid HI.out
  have hbx := Go.Lib.hid (HI.out.1.block HBX.out (Or.inr (Nat.le_refl _)))
  have x0 := cell_of_heap hbx.out (j := 0) rfl
  have x1 := cell_of_heap hbx.out (j := 1) rfl
  have x2 := cell_of_heap hbx.out (j := 2) rfl
  clear hbx
  clear HI HR hk hlt
  go_wp2_with fail
  clear x0 x1 x2
  go_loopw [13] (fun i wr => ∃ k : Nat, k ≤ b1.length ∧ i = .int .i64 k ∧ Hid (Mid wa.heap.size w3.heap.size wc wr ∧ RawS wa.heap.size w3.heap.size 3 1 a1.length X0 wr ∧ RawS wa.heap.size w3.heap.size 50 3 b1.length X1 wr ∧ RawX wa.heap.size w3.heap.size X2 t1 wr)) (fun i _ => b1.length - (intOf i).toNat)
  case atStart => exact ⟨0, Nat.zero_le _, rfl, HQ.out⟩
  clear HQ
  obtain ⟨k, hk, rfl, HI⟩ := hrel
  have ht210 : b1.length ≤ 210 := HWB.out.2.2.1
  have hbx := Go.Lib.hid (HI.out.1.block HBX.out (Or.inr (Nat.le_refl _)))
  have x0 := cell_of_heap hbx.out (j := 0) rfl
  have x1 := cell_of_heap hbx.out (j := 1) rfl
  have x2 := cell_of_heap hbx.out (j := 2) rfl
  clear hbx
  by_cases hlt : k < b1.length
  ·
   obtain ⟨gr, cs, v, ea, h1, h2, hblk, hc, hf⟩ := HI.out.2.2.1.at hlt (by decide)
   subst ea
   have REL := Go.Lib.hid (And.intro (HI.out.1.set h1 h2 (k * 3) (.int .i64 (-7))) (And.intro (HI.out.2.1.set gr (k * 3) (.int .i64 (-7))) (And.intro (HI.out.2.2.1.set gr (k * 3) (.int .i64 (-7))) (HI.out.2.2.2.set50 hblk (k * 3) (.int .i64 (-7))))))
   clear HI h1 h2 hblk
   go_wp2_with fail
   go_roundw
   case rel => exact ⟨k + 1, by omega, by simp, REL.out⟩
   case measure => simp [intOf]; omega
  obtain rfl : k = b1.length := by omega
  have HQ := Go.Lib.hid HI.out
  clear HI hk hlt
  go_wp2_with fail
  clear x0 x1 x2
  go_loopw [14] (fun i wr => ∃ k : Nat, k ≤ a1.length ∧ i = .int .i64 k ∧ Hid (Mid wa.heap.size w3.heap.size wc wr ∧ RawS wa.heap.size w3.heap.size 3 1 a1.length X0 wr ∧ RawS wa.heap.size w3.heap.size 50 3 b1.length X1 wr ∧ RawX wa.heap.size w3.heap.size X2 t1 wr)) (fun i _ => a1.length - (intOf i).toNat)
  case atStart => exact ⟨0, Nat.zero_le _, rfl, HQ.out⟩
  clear HQ
  obtain ⟨k, hk, rfl, HI⟩ := hrel
  have hta70 : a1.length ≤ 70 := HWB.out.2.1
  have hbx := Go.Lib.hid (HI.out.1.block HBX.out (Or.inr (Nat.le_refl _)))
  have x0 := cell_of_heap hbx.out (j := 0) rfl
  have x1 := cell_of_heap hbx.out (j := 1) rfl
  have x2 := cell_of_heap hbx.out (j := 2) rfl
  clear hbx
  by_cases hlt : k < a1.length
  ·
   obtain ⟨gr, cs, v, ea, h1, h2, hblk, hc, hf⟩ := HI.out.2.1.at hlt (by decide)
   subst ea
   rw [Nat.mul_one] at hc hf
   have REL := Go.Lib.hid (And.intro (HI.out.1.set h1 h2 k (.int .i64 (-7))) (And.intro (HI.out.2.1.set gr k (.int .i64 (-7))) (And.intro (HI.out.2.2.1.set gr k (.int .i64 (-7))) (HI.out.2.2.2.set hblk k (.int .i64 (-7))))))
   clear HI h1 h2 hblk
   go_wp2_with fail
   go_roundw
   case rel => exact ⟨k + 1, by omega, by simp, REL.out⟩
   case measure => simp [intOf]; omega
  obtain rfl : k = a1.length := by omega
  have hM := HI.out.1
  clear HI hk hlt
  replace HL := Go.Lib.hid (HL.out.mid hM HSM.out.1)
  replace HU := Go.Lib.hid ((HU.out.mono (ok' := fun k => k < wa.heap.size) (fun k hk => Nat.lt_of_lt_of_le hk.2 (by have := HSM.out.2.1; omega))).mid hM (fun k hk => Or.inl hk))
  replace HBU := Go.Lib.hid (hM.block HBU.out (Or.inl HSM.out.2.1))
  replace HY := Go.Lib.hid (HY.out.mid hM (fun k hk => Or.inr hk))
  replace HBY := Go.Lib.hid (hM.block HBY.out (Or.inr HSY.out))
  clear hM HBX
  replace HU := Go.Lib.hid HU.out.lt
  replace HY := Go.Lib.hid HY.out.lt
  have HS2 := Go.Lib.hid (And.intro HL.out.size (And.intro (blk_lt HBU.out) (blk_lt HBY.out)))
  clear HSM HSY
  have k0 := HL.out.at.k0
  have k1 := HL.out.at.k1
  have k2 := HL.out.at.k2
  have CC := chances_raw HL.out.at HCH.out
  go_wp2_with fail
  clear k0 k1 k2 x0 x1 x2
  refine CC.mono ?_
  clear CC
  rintro e w5 ⟨Ac, cc, rfl, hX, hB⟩
  replace HL := Go.Lib.hid (HL.out.later hB)
  replace HU := Go.Lib.hid (HU.out.later hB)
  replace HBU := Go.Lib.hid ((hB.block _ (blk_lt HBU.out)).trans HBU.out)
  replace HY := Go.Lib.hid (HY.out.later hB)
  replace HBY := Go.Lib.hid ((hB.block _ (blk_lt HBY.out)).trans HBY.out)
  clear hB
  have HX := Go.Lib.hid hX
  clear hX
  generalize wr.heap.size = M2 at HX HU HY HS2
  obtain ⟨hc60, hcr⟩ := ch_small HCH.out
  have HCR := Go.Lib.hid (And.intro hc60 hcr)
  clear hc60 hcr
  go_wp2_with fail
  go_loopw [17] (fun i wr => ∃ k : Nat, k ≤ cl.length ∧ i = .int .i64 k ∧ Hid (Mid M2 w5.heap.size w5 wr ∧ RawX M2 w5.heap.size Ac cl wr)) (fun i _ => cl.length - (intOf i).toNat)
  case atStart => exact ⟨0, Nat.zero_le _, rfl, Mid.refl _ _ _, HX.out⟩
  obtain ⟨k, hk, rfl, HI⟩ := hrel
  have ht60 : cl.length ≤ 60 := HCR.out.1
  by_cases hlt : k < cl.length
  ·
   obtain ⟨gx, Ax, cx, ex, hcell, _⟩ := HI.out.2.at hlt
   obtain ⟨n, hn⟩ : ∃ n, (cl.getD k []).length = n := ⟨_, rfl⟩
   have hn60 : n ≤ 1000 := by rw [← hn]; exact HCR.out.2 k hlt
   have HNN := Go.Lib.hid hn
   clear hcell
   subst ex
   clear hn
   go_wp2_with fail
   go_loopw [18] (fun i wr => ∃ j : Nat, j ≤ n ∧ i = .int .i64 j ∧ Hid (Mid M2 w5.heap.size w5 wr ∧ RawX M2 w5.heap.size (some ⟨gx, 0, none⟩) cl wr)) (fun i _ => n - (intOf i).toNat)
   case atStart => exact ⟨0, Nat.zero_le _, rfl, HI.out⟩
   clear HI
   obtain ⟨j, hj, rfl, HI⟩ := hrel
   obtain ⟨gx', Ax', cx', ex', hcell, hraw⟩ := HI.out.2.at hlt
   obtain rfl : gx = gx' := by injection ex' with ex'; injection ex' with ex'
   clear ex'
   rw [HNN.out] at hcell hraw
   by_cases hjl : j < n
   rotate_left
   ·
    obtain rfl : j = n := by omega
    have REL := Go.Lib.hid HI.out
    clear HI hraw
    go_wp2_with fail
    go_roundw
    case rel => exact ⟨k + 1, by omega, by simp, REL.out⟩
    case measure => simp [intOf]; omega
   obtain ⟨gr, cs, v, ea, h1, h2, hblk, hc, hf⟩ := hraw.at hjl (by decide)
   subst ea
   rw [Nat.mul_one] at hc hf
   have REL := Go.Lib.hid (And.intro (HI.out.1.set h1 h2 j (.int .i64 (-7))) (HI.out.2.set hblk j (.int .i64 (-7))))
   clear HI h1 h2 hblk hraw
   go_wp2_with fail
   go_roundw
   case rel => exact ⟨j + 1, by omega, by simp, REL.out⟩
   case measure => simp [intOf]; omega
  obtain rfl : k = cl.length := by omega
  have hM := HI.out.1
  clear HI hk hlt HX
  replace HL := Go.Lib.hid (HL.out.mid hM HS2.out.1)
  replace HU := Go.Lib.hid (HU.out.mid hM (fun k hk => Or.inl hk))
  replace HY := Go.Lib.hid (HY.out.mid hM (fun k hk => Or.inl hk))
  replace HBU := Go.Lib.hid (hM.block HBU.out (Or.inl HS2.out.2.1))
  replace HBY := Go.Lib.hid (hM.block HBY.out (Or.inl HS2.out.2.2))
  clear hM HS2
  have k0 := HL.out.at.k0
  have k1 := HL.out.at.k1
  have k2 := HL.out.at.k2
  have CC := fixed_own HL.out.at HER.out
  go_wp2_with fail
  clear k0 k1 k2
  refine CC.mono ?_
  clear CC
  rintro e w6 ⟨Z0, z0_, Z1, z1_, Z2, z2_, rfl, hO, hB⟩
  replace HL := Go.Lib.hid (HL.out.later hB)
  replace HU := Go.Lib.hid (HU.out.later hB)
  replace HBU := Go.Lib.hid ((hB.block _ (blk_lt HBU.out)).trans HBU.out)
  replace HY := Go.Lib.hid (HY.out.later hB)
  replace HBY := Go.Lib.hid ((hB.block _ (blk_lt HBY.out)).trans HBY.out)
  clear hB
  have hB : Below w6.heap.size w6 (w6.alloc (.cells #[.slice Z0 a1.length z0_, .slice Z1 b1.length z1_, .slice Z2 t1.length z2_] 26)) := (Below.refl _ _).alloc (Nat.le_refl _) _
  have HBZ := Go.Lib.hid (World.alloc_heap_new w6 (.cells #[.slice Z0 a1.length z0_, .slice Z1 b1.length z1_, .slice Z2 t1.length z2_] 26))
  have HZ := Go.Lib.hid (hO.later hB)
  clear hO
  replace HL := Go.Lib.hid (HL.out.later hB)
  replace HU := Go.Lib.hid (HU.out.later hB)
  replace HBU := Go.Lib.hid ((hB.block _ (blk_lt HBU.out)).trans HBU.out)
  replace HY := Go.Lib.hid (HY.out.later hB)
  replace HBY := Go.Lib.hid ((hB.block _ (blk_lt HBY.out)).trans HBY.out)
  clear hB
  have k0 := HL.out.at.k0
  have k1 := HL.out.at.k1
  have k2 := HL.out.at.k2
  have CC := chances_at HL.out.at HCH.out
  go_wp2_with fail
  clear k0 k1 k2
  refine CC.mono ?_
  clear CC
  rintro e w7 ⟨Ad, cd, rfl, hC, hB⟩
  clear hC
  replace HL := Go.Lib.hid (HL.out.later hB)
  replace HU := Go.Lib.hid (HU.out.later hB)
  replace HBU := Go.Lib.hid ((hB.block _ (blk_lt HBU.out)).trans HBU.out)
  replace HY := Go.Lib.hid (HY.out.later hB)
  replace HBY := Go.Lib.hid ((hB.block _ (blk_lt HBY.out)).trans HBY.out)
  replace HZ := Go.Lib.hid (HZ.out.later hB)
  replace HBZ := Go.Lib.hid ((hB.block _ (blk_lt HBZ.out)).trans HBZ.out)
  clear hB
  have k0 := HL.out.at.k0
  have k1 := HL.out.at.k1
  have k2 := HL.out.at.k2
  have CC := matched_walk w7
  go_wp2_with fail
  clear k0 k1 k2
  refine CC.mono ?_
  clear CC
  rintro e w8 ⟨rfl, hB⟩
  replace HL := Go.Lib.hid (HL.out.later hB)
  replace HU := Go.Lib.hid (HU.out.later hB)
  replace HBU := Go.Lib.hid ((hB.block _ (blk_lt HBU.out)).trans HBU.out)
  replace HY := Go.Lib.hid (HY.out.later hB)
  replace HBY := Go.Lib.hid ((hB.block _ (blk_lt HBY.out)).trans HBY.out)
  replace HZ := Go.Lib.hid (HZ.out.later hB)
  replace HBZ := Go.Lib.hid ((hB.block _ (blk_lt HBZ.out)).trans HBZ.out)
  clear hB
  have k0 := HL.out.at.k0
  have k1 := HL.out.at.k1
  have k2 := HL.out.at.k2
  have u0 := cell_of_heap HBU.out (j := 0) rfl
  have u1 := cell_of_heap HBU.out (j := 1) rfl
  have u2 := cell_of_heap HBU.out (j := 2) rfl
  have a0 := Kd.R_reads' HU.out.1
  have a1_ := Kd.R_reads' HU.out.2.1
  have a2 := Kd.S_reads' HU.out.2.2
  have CC := sameboard_calls A0 c0 F A1 c1 S A2 c2 T U0 u0_ U1 u1_ U2 u2_ w8 HL.out.at.C0 HL.out.at.l0 HL.out.at.C1 HL.out.at.l1 HL.out.at.C2 HL.out.at.l2 a0.2.2 a0.2.1 a1_.2.2 a1_.2.1 a2.2.2 a2.2.1 (Nat.le_trans HWB.out.1.2.2.1 (by decide)) HRW.out
  clear a0 a1_ a2
  go_wp2_with fail
  clear k0 k1 k2
  clear u0 u1 u2
  refine CC.mono ?_
  clear CC
  rintro e w9 ⟨rfl, hB⟩
  replace HL := Go.Lib.hid (HL.out.later hB)
  replace HY := Go.Lib.hid (HY.out.later hB)
  replace HBY := Go.Lib.hid ((hB.block _ (blk_lt HBY.out)).trans HBY.out)
  replace HZ := Go.Lib.hid (HZ.out.later hB)
  replace HBZ := Go.Lib.hid ((hB.block _ (blk_lt HBZ.out)).trans HBZ.out)
  clear hB
  have y_0 := cell_of_heap HBY.out (j := 0) rfl
  have y_1 := cell_of_heap HBY.out (j := 1) rfl
  have y_2 := cell_of_heap HBY.out (j := 2) rfl
  have z_0 := cell_of_heap HBZ.out (j := 0) rfl
  have z_1 := cell_of_heap HBZ.out (j := 1) rfl
  have z_2 := cell_of_heap HBZ.out (j := 2) rfl
  have CC := same_own HY.out.at HZ.out (Nat.le_trans HWB.out.2.2.2.1 (by decide)) (fun l hl => Nat.le_trans (HWB.out.2.rows l hl) (by decide))
  go_wp2_with fail
  clear y_0 y_1 y_2
  clear z_0 z_1 z_2
  refine CC.mono ?_
  clear CC
  rintro e w10 ⟨rfl, hB⟩
  replace HL := Go.Lib.hid (HL.out.later hB)
  clear hB
  go_wp2_with fail
  go_ret
  exact ⟨rfl, HL.out.at.B⟩
end Go.Proofs.Ytkmmihadcbfkoaa
end

section
namespace Go.Proofs.Ytkmmihadcbfkoaa
open Go.ChangeShapes Go.WideShapes Go.RowKit Go.Deep Go.Joins Go.Proofs.YtkmmihadcbfkoaaW.PrintWords PM
set_option linter.unusedVariables false
set_option linter.unusedSimpArgs false
section
variable {H : Type} {enc : TypeId × Value → H} {W : World} {base : Nat} {held : Bool}
theorem C_of_cells {A : Option Addr} {L C : Nat} {Z : List Int} (hl : L ≤ C) (hm : C ≤ maxLen) (hz : Z.length = C) (hn : A = none → C = 0) (hc : ∀ a, A = some a → ∀ c, c < C → W.cell? (a.add c) = some (.int .i64 (Z.getD c 0))) :
  (Z.take L).length = L ∧ Kd.C (Kd.int .i64) W A L (Z.take L) := by
 have hlen : (Z.take L).length = L := by rw [List.length_take]; omega
 have hmx : maxLen = 9223372036854775807 := rfl
 refine ⟨hlen, ?_⟩
 cases A with
 | none =>
  have h0 : L = 0 := by have := hn rfl; omega
  subst h0
  exact Kd.C_nil _ _
 | some a =>
  refine Kd.C_of_reads (enc := Value.int .i64) (d := (0 : Int)) (h1 := fun _ => rfl) ⟨hlen, by omega, fun _ => ⟨a, rfl, fun j hj => ?_⟩⟩
  rw [hc a rfl j (by omega)]
  simp [List.getD_eq_getElem?_getD, List.getElem?_take, hj]
theorem open_intsC {fuel : Nat} {cs : List Value} {x : DataW H × List MemPlace} (h : DataW.trod enc Try.prog W base (fun _ => true) held fuel 22 cs = some x) :
  ∃ A c F, cs = [.slice A F.length c] ∧ F.length ≤ c ∧ Kd.C (Kd.int .i64) W A F.length F := by
 rcases open_ints Try.underlying22 Try.underlying3 (by kernel_rfl) h with ⟨rfl, _⟩ | ⟨a, len, cap, zs, rfl, _, hl, hm, hz, _, hcell, _⟩
 ·
  exact ⟨none, 0, [], rfl, Nat.zero_le _, Kd.C_nil _ _⟩
 simp only [if_true] at hz
 obtain ⟨e, hC⟩ := C_of_cells (W := W) (A := some a) (L := len) (C := cap) (Z := zs) hl hm hz (fun k => by cases k) (fun a' k c hc => by cases k; exact hcell c (by omega))
 exact ⟨some a, cap, zs.take len, by rw [e], by rw [e]; exact hl, by rw [e]; exact hC⟩
theorem open_rowsC {fuel : Nat} {cs : List Value} {x : DataW H × List MemPlace} (h : DataW.trod enc Try.prog W base (fun _ => true) held fuel 24 cs = some x) :
  ∃ A c T, cs = [.slice A T.length c] ∧ T.length ≤ c ∧ Kd.C (Kd.slice 3 (Kd.int .i64)) W A T.length T := by
 rcases open_int_rows Try.underlying24 Try.underlying22 Try.underlying3 (by kernel_rfl) (by kernel_rfl) h with ⟨rfl, _⟩ | ⟨a, len, cap, A, L, C, Z, rfl, _, hl, hm, _, hr⟩
 ·
  exact ⟨none, 0, [], rfl, Nat.zero_le _, Kd.C_nil _ _⟩
 have hmx : maxLen = 9223372036854775807 := rfl
 have hlen : ((List.range len).map fun r => (Z r).take (L r)).length = len := by simp
 refine ⟨some a, cap, (List.range len).map fun r => (Z r).take (L r), by rw [hlen], by rw [hlen]; exact hl, ?_⟩
 rw [hlen]
 refine ⟨hlen, by omega, fun _ => ⟨a, rfl, fun j p hj => ?_⟩⟩
 obtain ⟨hjl, hp⟩ := List.getElem?_eq_some_iff.1 hj
 rw [hlen] at hjl
 rw [List.getElem_map, List.getElem_range] at hp
 obtain ⟨h1, h2, h3, h4, _, h6, h7⟩ := hr j (by omega)
 obtain ⟨e, hC⟩ := C_of_cells (W := W) (A := A j) h2 h3 h4 h6 (fun a' k => (h7 a' k).2)
 rw [hp] at e hC
 refine ⟨[.slice (A j) (L j) (C j)], rfl, ⟨A j, C j, by rw [e], by rw [e]; exact h2, by rw [e]; exact hC⟩, fun i u hu => ?_⟩
 cases i with
 | zero =>
  simp only [List.getElem?_cons_zero, Option.some.injEq] at hu
  subst hu
  show W.cell? (a.add (j * 1 + 0)) = _
  rw [Nat.mul_one, Nat.add_zero]
  exact h1
 | succ i => simp at hu
set_option maxRecDepth 100000 in
theorem open_slotsC {fuel : Nat} {cs : List Value} {x : DataW H × List MemPlace} (h : DataW.trod enc Try.prog W base (fun _ => true) held fuel 23 cs = some x) :
  ∃ A c S, cs = [.slice A S.length c] ∧ S.length ≤ c ∧ Kd.C k50 W A S.length S := by
 rcases open_slice Try.underlying23 h with ⟨rfl, _⟩ | ⟨a, len, cap, m, n, D, Pl, rfl, _, hl, hm, hmm, _, hx⟩
 ·
  exact ⟨none, 0, [], rfl, Nat.zero_le _, Kd.C_nil _ _⟩
 simp only [if_true] at hmm
 have hmx : maxLen = 9223372036854775807 := rfl
 have hsz : Try.prog.cellsOf 50 = 3 := by kernel_rfl
 have c3 : Try.prog.cellsOf 3 = 1 := by kernel_rfl
 rw [hsz] at hx
 have each : ∀ i, i < len → ∃ s : Int × Int × Int, W.cell? (a.add (i * 3 + 0)) = some (.int .i64 s.1) ∧ W.cell? (a.add (i * 3 + 1)) = some (.int .i64 s.2.1) ∧ W.cell? (a.add (i * 3 + 2)) = some (.int .i64 s.2.2) := fun i hi => by
  obtain ⟨cs', hcs, ht⟩ := hx i (by omega)
  obtain ⟨_, hlen, hcell⟩ := World.cells?_some hcs
  obtain ⟨y0, y1, y2, n', _, _, g0, g1, g2⟩ := trod_struct3 Try.underlying50 ht
  obtain ⟨u0, u1, u2, rfl⟩ : ∃ u0 u1 u2, cs' = [u0, u1, u2] := by
   match cs', hlen with
   | [u0, u1, u2], _ => exact ⟨u0, u1, u2, rfl⟩
  obtain ⟨n0, e0, _⟩ := DataW.trod_int Try.underlying3 g0
  obtain ⟨n1, e1, _⟩ := DataW.trod_int Try.underlying3 g1
  obtain ⟨n2, e2, _⟩ := DataW.trod_int Try.underlying3 g2
  rw [c3] at e0 e1 e2
  simp only [List.drop_zero, List.drop_succ_cons, List.take_succ_cons, List.take_zero, List.cons.injEq, and_true] at e0 e1 e2
  subst e0 e1 e2
  have k0 := hcell 0 (by omega)
  have k1 := hcell 1 (by omega)
  have k2 := hcell 2 (by omega)
  rw [Deep.add_add] at k0 k1 k2
  exact ⟨(n0, n1, n2), k0, k1, k2⟩
 obtain ⟨f, hf⟩ := choose_lt (α := Int × Int × Int) each
 have hlen : ((List.range len).map fun r => (⟨(f r).1, (f r).2.1, (f r).2.2⟩ : S50)).length = len := by simp
 refine ⟨some a, cap, (List.range len).map fun r => (⟨(f r).1, (f r).2.1, (f r).2.2⟩ : S50), by rw [hlen], by rw [hlen]; exact hl, ?_⟩
 rw [hlen]
 refine ⟨hlen, by omega, fun _ => ⟨a, rfl, fun j p hj => ?_⟩⟩
 obtain ⟨hjl, hp⟩ := List.getElem?_eq_some_iff.1 hj
 rw [hlen] at hjl
 rw [List.getElem_map, List.getElem_range] at hp
 obtain ⟨h0, h1, h2⟩ := hf j hjl
 refine ⟨[.int .i64 p.f0, .int .i64 p.f1, .int .i64 p.f2], rfl, k50_mk W p, fun i u hu => ?_⟩
 subst hp
 match i, hu with
 | 0, hu => simp only [List.getElem?_cons_zero, Option.some.injEq] at hu; subst hu; exact h0
 | 1, hu => simp only [List.getElem?_cons_succ, List.getElem?_cons_zero, Option.some.injEq] at hu; subst hu; exact h1
 | 2, hu => simp only [List.getElem?_cons_succ, List.getElem?_cons_zero, Option.some.injEq] at hu; subst hu; exact h2
 | i + 3, hu => simp at hu
set_option maxRecDepth 100000 in
/-- A board that came in. -/
theorem open_boardV {r : Reach} {b0 : Nat} {v : Value} {d : DataW H} {p : List MemPlace} (hv : Value.okWide Try.prog W r b0 26 v) (h : DataW.Trod enc Try.prog W base (fun _ => true) held 26 v d p) :
  ∃ A0 c0 F A1 c1 S A2 c2 T, v = .agg #[.slice A0 F.length c0, .slice A1 S.length c1, .slice A2 T.length c2] ∧ Kd.C (Kd.int .i64) W A0 F.length F ∧ F.length ≤ c0 ∧ Kd.C k50 W A1 S.length S ∧ S.length ≤ c1 ∧ Kd.C (Kd.slice 3 (Kd.int .i64)) W A2 T.length T ∧ T.length ≤ c2 := by
 obtain ⟨v0, v1, v2, y0, y1, y2, n, rfl, _, _, h0, h1, h2⟩ := open_agg3 Try.underlying26 (by kernel_rfl) (by kernel_rfl) hv h
 obtain ⟨A0, c0, F, e0, l0, C0⟩ := open_intsC h0
 obtain ⟨A1, c1, S, e1, l1, C1⟩ := open_slotsC h1
 obtain ⟨A2, c2, T, e2, l2, C2⟩ := open_rowsC h2
 simp only [List.cons.injEq, and_true] at e0 e1 e2
 subst e0 e1 e2
 exact ⟨A0, c0, F, A1, c1, S, A2, c2, T, rfl, C0, l0, C1, l1, C2, l2⟩
end
end Go.Proofs.Ytkmmihadcbfkoaa
end

section
namespace Go.Proofs.Ytkmmihadcbfkoaa
open Go.ChangeShapes Go.WideShapes Go.ChangeAt Go.RowKit Go.Proofs.YtkmmihadcbfkoaaW.PrintWords PM
set_option linter.unusedVariables false
set_option linter.unusedSimpArgs false
theorem matchMemory_own : ownKnob Try.prog.godebug = none := by kernel_rfl
theorem matchMemory_laid : laidOutB Try.prog = true := by kernel_rfl
set_option maxRecDepth 100000 in
theorem matchMemory_lifted (os : Os) (started : os.Started) (H : Type) (enc : TypeId × Value → H) :
  ReturnsInHanded {} Try.checked os 4 .any (Rows.matchMemorySpec.pre6 enc Try.prog Try.f4 Rows.matchMemoryRow.domain false) (Rows.matchMemorySpec.post enc Try.prog Try.f4 false true false false) := by
 refine returnsInHanded_of_change (C := Try.checked) matchMemory_own started (by kernel_rfl) Try.func4
  (ChangeSpec.witness6 (enc := enc) (C := Try.checked) false ⟨#[], #[.agg #[.slice none 0 0, .slice none 0 0, .slice none 0 0], .int .i64 0, .int .i64 0], []⟩ 8 (by kernel_rfl) (by kernel_rfl) (by kernel_rfl) (by kernel_rfl)) ?_
 intro W base args ds gs before hval0 hW hcnd _
 have hval : ∀ (j : Nat) t v, Try.f4.params[j]? = some t → args[j]? = some v → Value.okWide Try.prog W .any base t v := hval0
 have hW' := hW
 obtain ⟨p, q, hA0, hV, rfl, hfz, hnd⟩ := hW
 have hA : DataW.TrodAll enc Try.prog W 0 (fun _ => true) true Try.f4.params.toList args.toList ds p := hA0
 rw [Try.params4] at hA hval
 obtain ⟨v0, vs0, d0, ds0, p0, q0, hargs, rfl, rfl, h0, r0⟩ := trodAll_cons hA
 obtain ⟨v1, vs1, d1, ds1, p1, q1, rfl, rfl, rfl, h1, r1⟩ := trodAll_cons r0
 obtain ⟨v2, vs2, d2, ds2, p2, q2, rfl, rfl, rfl, h2, r2⟩ := trodAll_cons r1
 obtain ⟨rfl, rfl, rfl⟩ := trodAll_nil r2
 obtain rfl : args = #[v0, v1, v2] := by cases args; simp_all
 obtain ⟨rfl, rfl⟩ := trodVars_none hV
 have k0 := h0
 have lt0 : ∀ x ∈ p0, x.block < W.heap.size := by obtain ⟨m, hm⟩ := k0; exact DataW.trod_lt m _ _ _ hm
 obtain ⟨A0a, c0a, F, A0b, c0b, S, A0c, c0c, T, rfl, Ca, la, Cb, lb, Cc, lc⟩ := open_boardV (hval 0 26 v0 rfl rfl) h0
 obtain ⟨x1, rfl, rfl, rfl, w1⟩ := open_int Try.underlying3 (hval 1 3 v1 rfl rfl) h1
 obtain ⟨x2, rfl, rfl, rfl, w2⟩ := open_int Try.underlying3 (hval 2 3 v2 rfl rfl) h2
 clear hA0 hval0
 refine (memory_walk A0a c0a F A0b c0b S A0c c0c T x1 x2 W Ca la Cb lb Cc lc).mono fun e W' ⟨he, bel⟩ => ?_
 subst he
 exact ⟨_, rfl, _, _, _, [], _, [], hW', trodAll_mk1 (shut_bool Try.underlying4 _), (trodAll_cons_mk (Below.trod matchMemory_laid (by kernel_rfl) (of_decide_eq_true (by kernel_rfl)) k0 bel lt0) (trodAll_cons_mk (shut_int Try.underlying3 w1) (trodAll_cons_mk (shut_int Try.underlying3 w2) trodAll_mk0))), rfl, bel.frame _, fun h => by cases h⟩
theorem matchMemory_holds : Rows.MatchMemorySaid :=
 OpenClaim.holds_of_wide 4 Try.f4 rfl rfl rfl rfl rfl rfl rfl ⟨rfl, rfl, rfl, rfl, rfl⟩ rfl rfl rfl rfl rfl (by kernel_rfl) Try.func4 (by kernel_rfl)
  (of_decide_eq_true (by kernel_rfl)) (by unfold Func.isWrapper; first | (rw [if_pos (by decide +kernel)]; kernel_rfl) | (rw [if_neg (by decide +kernel)]; exact ⟨rfl, rfl⟩))
  (fun os started H enc _ => matchMemory_lifted os started H enc)
#print axioms matchMemory_holds
end Go.Proofs.Ytkmmihadcbfkoaa
end
