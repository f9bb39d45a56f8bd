/- A part of a proof, put together by this session's own program out of its texts. -/
import Derived.Test.YtpnhjipaeggcpaaDoorC2
set_option linter.unusedVariables false
set_option linter.unusedSimpArgs false
section
namespace Go.Proofs.YtpnhjipaeggcpaaDoor.X
open Go.RowKit Go.Proofs.YtpnhjipaeggcpaaDoorW.PrintWords Go.Proofs.YtpnhjipaeggcpaaDoorW.PrintLast Go.Proofs.YtpnhjipaeggcpaaDoorW.PrintMore
attribute [local go_sem] max2_int min2_int max_two min_two max_three min_three max_four min_four
mutual
def boltingref08_Within.j0 : Nat → List (S35) → ByteArray → List Int → Bool → Option (ByteArray)
 | 0, _, _, _, _ => none
 | k + 1, x0, x5, x6, x7 => boltingref08_Within.l0 k x0 x5 x6 x7 0
def boltingref08_Within.l0 : Nat → List (S35) → ByteArray → List Int → Bool → Int → Option (ByteArray)
 | 0, _, _, _, _, _ => none
 | k + 1, x0, x5, x6, x7, x8 => if x8 < (x6.length : Int) then (if 0 ≤ x8 then (if 0 ≤ (rd x6 x8) then (if (rd x6 x8) < (x0.length : Int) then (if ((rd_T35 x0 (rd x6 x8)).f1) = 1 then (boltingref08_Within.j2 k x0 x5 x6 x7 x8 x7 ((rd_T35 x0 (rd x6 x8)).f0) ((rd_T35 x0 (rd x6 x8)).f1) ((rd_T35 x0 (rd x6 x8)).f2) ((rd_T35 x0 (rd x6 x8)).f3) ((rd_T35 x0 (rd x6 x8)).f4)) else (boltingref08_Within.j2 k x0 x5 x6 x7 x8 false ((rd_T35 x0 (rd x6 x8)).f0) ((rd_T35 x0 (rd x6 x8)).f1) ((rd_T35 x0 (rd x6 x8)).f2) ((rd_T35 x0 (rd x6 x8)).f3) ((rd_T35 x0 (rd x6 x8)).f4))) else (none)) else (none)) else (none)) else (some x5)
def boltingref08_Within.j2 : Nat → List (S35) → ByteArray → List Int → Bool → Int → Bool → Int → Int → ByteArray → ByteArray → List (S41) → Option (ByteArray)
 | 0, _, _, _, _, _, _, _, _, _, _, _ => none
 | k + 1, x0, x5, x6, x7, x8, x42, x176000, x176001, x176002, x176003, x176004 => if x42 = true then (if x5.size + x176003.size ≤ 9223372036854775807 then (boltingref08_Within.l0 k x0 (x5 ++ x176003) x6 x7 (wrap64 (x8 + 1))) else (none)) else (if x176001 = 1 then ((boltingref03_Write.f k x176003 false).bind fun t176 => (if x5.size + t176.size ≤ 9223372036854775807 then (boltingref08_Within.l0 k x0 (x5 ++ t176) x6 x7 (wrap64 (x8 + 1))) else (none))) else (if x176001 = 2 then (if 4 + x176003.size ≤ 9223372036854775807 then (if ((⟨#[60, 33, 45, 45]⟩ : ByteArray) ++ x176003).size + 3 ≤ 9223372036854775807 then (if x5.size + (((⟨#[60, 33, 45, 45]⟩ : ByteArray) ++ x176003) ++ (⟨#[45, 45, 62]⟩ : ByteArray)).size ≤ 9223372036854775807 then (boltingref08_Within.l0 k x0 (x5 ++ (((⟨#[60, 33, 45, 45]⟩ : ByteArray) ++ x176003) ++ (⟨#[45, 45, 62]⟩ : ByteArray))) x6 x7 (wrap64 (x8 + 1))) else (none)) else (none)) else (none)) else ((boltingref05_Void.f).bind fun t177 => ((boltingref02_Has.f k t177 x176002).bind fun t180 => (if t180 = true then ((boltingref08_tag.f k x176000 x176001 x176002 x176003 x176004).bind fun t181 => (if x5.size + t181.size ≤ 9223372036854775807 then (boltingref08_Within.l0 k x0 (x5 ++ t181) x6 x7 (wrap64 (x8 + 1))) else (none))) else ((boltingref08_tag.f k x176000 x176001 x176002 x176003 x176004).bind fun t182 => (if 0 ≤ x8 then (if x8 < (x6.length : Int) then ((boltingref08_Within.f k x0 (rd x6 x8)).bind fun t184 => (if t182.size + t184.size ≤ 9223372036854775807 then (if (t182 ++ t184).size + 2 ≤ 9223372036854775807 then (if ((t182 ++ t184) ++ (⟨#[60, 47]⟩ : ByteArray)).size + x176002.size ≤ 9223372036854775807 then (if (((t182 ++ t184) ++ (⟨#[60, 47]⟩ : ByteArray)) ++ x176002).size + 1 ≤ 9223372036854775807 then (if x5.size + ((((t182 ++ t184) ++ (⟨#[60, 47]⟩ : ByteArray)) ++ x176002) ++ (⟨#[62]⟩ : ByteArray)).size ≤ 9223372036854775807 then (boltingref08_Within.l0 k x0 (x5 ++ ((((t182 ++ t184) ++ (⟨#[60, 47]⟩ : ByteArray)) ++ x176002) ++ (⟨#[62]⟩ : ByteArray))) x6 x7 (wrap64 (x8 + 1))) else (none)) else (none)) else (none)) else (none)) else (none))) else (none)) else (none))))))))
def boltingref08_Within.f : Nat → List (S35) → Int → Option (ByteArray)
 | 0, _, _ => none
 | k + 1, l0, a1 => (boltingref04_Kids.f l0 a1).bind fun t165 => (if a1 ≥ 0 then ((boltingref05_Raw.f).bind fun t168 => (if 0 ≤ a1 then (if a1 < (l0.length : Int) then ((boltingref02_Has.f k t168 ((rd_T35 l0 a1).f2)).bind fun t172 => (boltingref08_Within.j0 k l0 (⟨#[]⟩ : ByteArray) t165 t172)) else (none)) else (none))) else (boltingref08_Within.j0 k l0 (⟨#[]⟩ : ByteArray) t165 false))
end
def boltingref08_Within.T3 : Bool × List (List Nat × List Nat) := (true, [([], []), ([0], [0]), ([1], [1]), ([2, 2], [2]), ([2], [2]), ([2], [2]), ([4, 5, 2], [2, 4, 5]), ([6, 2], [2, 6]), ([7, 2], [2, 7]), ([3, 8, 3, 2], [2, 3, 8]), ([2, 9], [2, 9]), ([10, 9, 0, 1, 2, 3, 4, 5, 6, 7, 8, 9, 10], [10])])
def boltingref08_Within.B3 : List Nat := [0, 1, 3, 7, 7, 7, 55, 119, 247, 511, 1023, 2047]
theorem boltingref08_Within.tab3 : rtab .any (opsOf Tryd.f10 3) = boltingref08_Within.T3 := by kernel_rfl
theorem boltingref08_Within.bits3 : waitsOk boltingref08_Within.T3.2 boltingref08_Within.B3 = true := by kernel_rfl
def boltingref08_Within.T16 : Bool × List (List Nat × List Nat) := (true, [([], []), ([], []), ([1], [1]), ([], []), ([], []), ([], []), ([4, 5], [4, 5]), ([6], [6]), ([3, 7, 2], [3, 7]), ([2, 8], [2, 8]), ([9], [9]), ([], []), ([11], [11]), ([10, 12], [10, 12]), ([13], [13]), ([0, 14], [0, 14]), ([15, 8, 0, 1, 2, 3, 4, 5, 6, 7, 8, 9, 10, 11, 12, 13, 14, 15], [0, 15])])
def boltingref08_Within.B16 : List Nat := [0, 0, 2, 0, 0, 0, 48, 112, 254, 510, 1022, 0, 2048, 8190, 16382, 32767, 65535]
theorem boltingref08_Within.tab16 : rtab .any (opsOf Tryd.f10 16) = boltingref08_Within.T16 := by kernel_rfl
theorem boltingref08_Within.bits16 : waitsOk boltingref08_Within.T16.2 boltingref08_Within.B16 = true := by kernel_rfl
set_option maxHeartbeats 8000000 in
set_option maxRecDepth 100000 in
theorem boltingref08_Within.calls (k : Nat) : ∀ (A0 : Option Addr) (c0 : Nat) (l0 : List (S35)) (a1 : Int) (r : ByteArray) (w : World) (hr0 : Kd.C k35 w A0 l0.length l0) (hc0 : l0.length ≤ c0) (h : boltingref08_Within.f k l0 a1 = some r),
  Calls Tryd.prog 10 #[.slice A0 l0.length c0, .int .i64 a1] w fun e w' => e = .returned (.string r) ∧ Below w.heap.size w w' := by
 induction k using Nat.strongRecOn with
 | _ k ih =>
 intro A0 c0 l0 a1 r w hr0 hc0 h
 cases k with
 | zero => exact absurd h (by simp [boltingref08_Within.f])
 | succ k =>
 simp only [boltingref08_Within.f] at h
 have hu35 := Tryd.underlying35
 have HR0 := Aside0.mk hr0
 have HC0 := Aside0.mk hc0
 clear hr0 hc0
 have HB := Aside0.mk (Below.refl w.heap.size w)
 have H : ((boltingref04_Kids.f l0 a1).bind fun t165 => (if a1 ≥ 0 then ((boltingref05_Raw.f).bind fun t168 => (if 0 ≤ a1 then (if a1 < (l0.length : Int) then ((boltingref02_Has.f k t168 ((rd_T35 l0 a1).f2)).bind fun t172 => (boltingref08_Within.j0 k l0 (⟨#[]⟩ : ByteArray) t165 t172)) else (none)) else (none))) else (boltingref08_Within.j0 k l0 (⟨#[]⟩ : ByteArray) t165 false))) = some r := h
 clear h
 replace H := Option.bind_eq_some_iff.mp H
 obtain ⟨t165, A30, H⟩ := H
 have A3 := Aside0.mk A30
 clear A30
 have HC4 := Aside0.mk H
 clear H
 go_enter Tryd.func10, Tryd.ntmps10
 go_upto_region 3 with (first | ((with_reducible refine gate_callee (f := 13) rfl ?_); refine goesL_ (some 12) rfl rfl Tryd.func13 (by kernel_rfl) rfl #[.slice A0 l0.length c0, .int .i64 a1] rfl y14_ ?_; (with_reducible refine (boltingref04_Kids.calls _ _ l0 a1 t165 _ ?side1 ?side2 A3.out).mono ?_); (case side1 => repeat (first | exact HR0.out | (with_reducible refine Kd.C_alloc ?_ _) | (with_reducible refine Kd.C_drewN ?_ _) | (with_reducible refine Kd.C_drew ?_))); (case side2 => exact HC0.out); rintro e w5 ⟨v166, rfl, ho0, hb⟩; refine ⟨_, rfl, ?_⟩; have n0_ := Aside0.mk (Kd.R_lower ho0 (below_size y13_)); have n1_ := Aside0.mk (below_step y13_ hb); clear HB; have HO167 := n0_; have HB := n1_; clear n0_ n1_; (try clear hb); (try clear hb2); (try clear hk); (try clear hi); (try clear ho0)))
 (try simp only [Act.put, List.setIfInBounds_toArray, List.set_cons_zero, List.set_cons_succ])
 go_cut [7] (fun v7 wc => ∃ (kq : Nat) (x7_3 : Bool), v7 = .bool x7_3 ∧ Aside0 (boltingref08_Within.j0 kq l0 (⟨#[]⟩ : ByteArray) t165 x7_3 = some r) ∧ Aside0 (kq ≤ k) ∧ Aside0 (Kd.R (Kd.int .i64) 3 wc w.heap.size (fun _ => True) v166 t165) ∧ Aside0 (Below w.heap.size w wc))
 case first =>
  have H := HC4.out
  clear HC4
  by_cases c6 : a1 ≥ 0
  ·rw [if_pos c6] at H
   have c6b0 : decide (0 ≤ a1) = true := decide_eq_true c6
   clear c6
   (first | rw [c6b0] | (simp only [i64_w, i32_w]; rw [c6b0]) | skip)
   replace H := Option.bind_eq_some_iff.mp H
   obtain ⟨t168, A70, H⟩ := H
   have A7 := Aside0.mk A70
   clear A70
   by_cases c8 : 0 ≤ a1
   rotate_left
   ·rw [if_neg c8] at H
    exact absurd H (by simp)
   rw [if_pos c8] at H
   have c8b0 : decide (0 ≤ a1) = true := decide_eq_true c8
   clear c8
   by_cases c9 : a1 < (l0.length : Int)
   rotate_left
   ·rw [if_neg c9] at H
    exact absurd H (by simp)
   rw [if_pos c9] at H
   have c9b0 : decide (a1 < (l0.length : Int)) = true := decide_eq_true c9
   clear c9
   replace H := Option.bind_eq_some_iff.mp H
   obtain ⟨t172, A100, H⟩ := H
   have A10 := Aside0.mk A100
   clear A100
   have H' := Aside0.mk H
   clear H
   try go_wp2
   have n0_ := Aside0.mk (Kd.R_drew HO167.out)
   have n1_ := Aside0.mk (below_drew1 HB.out)
   clear HO167
   clear HB
   have HO167 := n0_
   have HB := n1_
   clear n0_ n1_
   have p171 : 0 ≤ (a1 : Int) := of_decide_eq_true y2_
   have q171 : a1 < (l0.length : Int) := of_decide_eq_true y2_
   obtain ⟨ad171, A171_4, c171_4, e171, hx171_0, hx171_1, hx171_2, hx171_3, hx171_4, hl171_4, hi171_4⟩ := at_T35 HR0.out a1 p171 q171
   have hw171_4 := hx171_4
   have hw171_3 := hx171_3
   have hw171_2 := hx171_2
   have hw171_1 := hx171_1
   have hw171_0 := hx171_0
   cases e171
   replace hx171_0 := (HB.out.cell (World.block_lt_of_cell? w _ hx171_0)).trans hx171_0
   replace hx171_1 := (HB.out.cell (World.block_lt_of_cell? w _ hx171_1)).trans hx171_1
   replace hx171_2 := (HB.out.cell (World.block_lt_of_cell? w _ hx171_2)).trans hx171_2
   replace hx171_3 := (HB.out.cell (World.block_lt_of_cell? w _ hx171_3)).trans hx171_3
   replace hx171_4 := (HB.out.cell (World.block_lt_of_cell? w _ hx171_4)).trans hx171_4
   have HR171_4 := Aside0.mk hi171_4
   have HC171_4 := Aside0.mk hl171_4
   clear hi171_4 hl171_4
   replace p171 := eq_true p171
   replace q171 := eq_true q171
   refine start_ (n := 12) (S := fun w' => w'.cell? (ad171.add ((a1).toNat * 5)) = some (.int .i64 ((rd_T35 l0 a1).f0)) ∧ w'.cell? ⟨(ad171.add ((a1).toNat * 5)).block, (ad171.add ((a1).toNat * 5)).off + 1, none⟩ = some (.int .i64 ((rd_T35 l0 a1).f1)) ∧ w'.cell? ⟨(ad171.add ((a1).toNat * 5)).block, (ad171.add ((a1).toNat * 5)).off + 2, none⟩ = some (.string ((rd_T35 l0 a1).f2)) ∧ w'.cell? ⟨(ad171.add ((a1).toNat * 5)).block, (ad171.add ((a1).toNat * 5)).off + 3, none⟩ = some (.string ((rd_T35 l0 a1).f3)) ∧ w'.cell? ⟨(ad171.add ((a1).toNat * 5)).block, (ad171.add ((a1).toNat * 5)).off + 4, none⟩ = some (.slice A171_4 ((rd_T35 l0 a1).f4).length c171_4)) (ds := []) #[false, false, false, false, false, false, false, false, false, false, false, false] (by kernel_rfl) rfl rfl ⟨((HB.out.cell (World.block_lt_of_cell? w _ hw171_0)).trans hw171_0), ((HB.out.cell (World.block_lt_of_cell? w _ hw171_1)).trans hw171_1), ((HB.out.cell (World.block_lt_of_cell? w _ hw171_2)).trans hw171_2), ((HB.out.cell (World.block_lt_of_cell? w _ hw171_3)).trans hw171_3), ((HB.out.cell (World.block_lt_of_cell? w _ hw171_4)).trans hw171_4)⟩ (fun hHeld => ?_); refine with_tabW boltingref08_Within.tab3 boltingref08_Within.bits3 (fun HT_ HW_ => ?_)
   generalize w5.drew = w11 at HO167 HB HR171_4 hx171_0 hx171_1 hx171_2 hx171_3 hx171_4 hHeld ⊢
   refine pure_ (i := 0) (N := some 13) (v := ?_) (a' := ?_) #[true, false, false, false, false, false, false, false, false, false, false, false] rfl rfl (any_of HT_.out (by kernel_rfl)) (fun _ _ _ h => h) (Or.inl ⟨by rfl, ?_⟩) ?_ ?_
   rotate_left
   ·intro w'
    go_simp
    with_reducible rfl
   rotate_left
   ·simp only [Act.put, List.setIfInBounds_toArray, List.set_cons_zero, List.set_cons_succ, i64_w, i32_w]
    rfl
   refine pure_ (i := 1) (N := some 14) (v := ?_) (a' := ?_) #[true, true, false, false, false, false, false, false, false, false, false, false] rfl rfl (any_of HT_.out (by kernel_rfl)) (fun _ _ _ h => h) (Or.inl ⟨by rfl, ?_⟩) ?_ ?_
   rotate_left
   ·intro w'
    go_simp
    with_reducible rfl
   rotate_left
   ·simp only [Act.put, List.setIfInBounds_toArray, List.set_cons_zero, List.set_cons_succ, i64_w, i32_w]
    rfl
   refine pure_ (i := 2) (N := some 15) (v := ?_) (a' := ?_) #[true, true, true, false, false, false, false, false, false, false, false, false] rfl rfl (any_of HT_.out (by kernel_rfl)) (fun _ _ _ h => h) (Or.inl ⟨by rfl, ?_⟩) ?_ ?_
   rotate_left
   ·intro w'
    go_simp
    with_reducible rfl
   rotate_left
   ·simp only [Act.put, List.setIfInBounds_toArray, List.set_cons_zero, List.set_cons_succ, i64_w, i32_w]
    rfl
   refine pure_ (i := 4) (N := some 17) (v := ?_) (a' := ?_) #[true, true, true, false, true, false, false, false, false, false, false, false] rfl rfl (any_of HT_.out (by kernel_rfl)) (fun _ _ _ h => h) (Or.inl ⟨by rfl, ?_⟩) ?_ ?_
   rotate_left
   ·intro w'
    go_simp
    with_reducible rfl
   rotate_left
   ·simp only [Act.put, List.setIfInBounds_toArray, List.set_cons_zero, List.set_cons_succ, i64_w, i32_w]
    rfl
   refine pure_ (i := 5) (N := some 18) (v := ?_) (a' := ?_) #[true, true, true, false, true, true, false, false, false, false, false, false] rfl rfl (any_of HT_.out (by kernel_rfl)) (fun _ _ _ h => h) (Or.inl ⟨by rfl, ?_⟩) ?_ ?_
   rotate_left
   ·intro w'
    go_simp
    with_reducible rfl
   rotate_left
   ·simp only [Act.put, List.setIfInBounds_toArray, List.set_cons_zero, List.set_cons_succ, i64_w, i32_w]
    rfl
   refine pure_ (i := 6) (N := some 19) (v := ?_) (a' := ?_) #[true, true, true, false, true, true, true, false, false, false, false, false] rfl rfl (any_of HT_.out (by kernel_rfl)) (fun _ _ _ h => h) (Or.inl ⟨by rfl, ?_⟩) ?_ ?_
   rotate_left
   ·intro w'
    go_simp
    with_reducible rfl
   rotate_left
   ·simp only [Act.put, List.setIfInBounds_toArray, List.set_cons_zero, List.set_cons_succ, i64_w, i32_w]
    rfl
   refine pure_ (i := 7) (N := some 20) (v := ?_) (a' := ?_) #[true, true, true, false, true, true, true, true, false, false, false, false] rfl rfl (any_of HT_.out (by kernel_rfl)) (fun _ _ _ h => h) (Or.inl ⟨by rfl, ?_⟩) ?_ ?_
   rotate_left
   ·intro w'
    go_simp
    with_reducible rfl
   rotate_left
   ·simp only [Act.put, List.setIfInBounds_toArray, List.set_cons_zero, List.set_cons_succ, i64_w, i32_w]
    rfl
   refine take_ (i := 8) (N := some 21) (v := ?_) (a' := ?_) #[true, true, true, false, true, true, true, true, true, false, false, false] rfl rfl (take_ofW HT_.out HW_.out (by kernel_rfl)) (fun _ _ _ h => h) (Or.inl ⟨by rfl, ?_⟩) hHeld ?_ ?_
   rotate_left
   ·rintro w' ⟨s0, s1, s2, s3, s4⟩
    go_simp
    with_reducible rfl
   rotate_left
   ·simp only [Act.put, List.setIfInBounds_toArray, List.set_cons_zero, List.set_cons_succ, i64_w, i32_w]
    rfl
   refine one_ (i := 3) (N := some 16) #[true, true, true, true, true, true, true, true, true, false, false, false] rfl rfl (one_of HT_.out (by kernel_rfl)) (by decide) (fun K hK => ?_)
   refine goes_ Tryd.func22 (by kernel_rfl) rfl #[] (by rfl) rfl rfl y14_ ?_
   with_reducible refine (boltingref05_Raw.calls  t168 _ A7.out).mono ?_
   rintro e w12 ⟨v169, rfl, ho0, hb⟩
   refine ⟨_, rfl, ?_⟩
   have n0_ := Aside0.mk (Kd.R_below (y7_ HO167.out) hb)
   have n1_ := Aside0.mk (Kd.R_lower ho0 (below_size y13_))
   have n2_ := Aside0.mk (below_step y13_ hb)
   clear HO167
   clear HB
   have HO167 := n0_
   have HO170 := n1_
   have HB := n2_
   clear n0_ n1_ n2_
   (try clear hb)
   (try clear hb2)
   (try clear hk)
   (try clear hi)
   (try clear ho0)
   obtain ⟨Ao13, co13, eo13⟩ := Kd.R_slice HO170.out
   (first | subst eo13 | (injection eo13 with f1_ f2_ f3_; have f4_ := f1_.symm; have f5_ := f3_.symm; clear f1_ f2_ f3_; subst f4_; subst f5_))
   refine hK.out _ _ ⟨((HB.out.cell (World.block_lt_of_cell? w _ hw171_0)).trans hw171_0), ((HB.out.cell (World.block_lt_of_cell? w _ hw171_1)).trans hw171_1), ((HB.out.cell (World.block_lt_of_cell? w _ hw171_2)).trans hw171_2), ((HB.out.cell (World.block_lt_of_cell? w _ hw171_3)).trans hw171_3), ((HB.out.cell (World.block_lt_of_cell? w _ hw171_4)).trans hw171_4)⟩ (fun hHeld => ?_)
   clear hK K
   refine norm_ (a' := ?_) ?_ ?_
   rotate_left
   ·show Act.put _ (some 16) _ = _
    simp only [Act.put, List.setIfInBounds_toArray, List.set_cons_zero, List.set_cons_succ, i64_w, i32_w]
    rfl
   refine one_ (i := 9) (N := some 22) #[true, true, true, true, true, true, true, true, true, true, false, false] rfl rfl (one_of HT_.out (by kernel_rfl)) (by decide) (fun K hK => ?_)
   refine goes_ Tryd.func21 (by kernel_rfl) rfl #[.slice Ao13 t168.length co13, .string ((rd_T35 l0 a1).f2)] (by rfl) rfl rfl y14_ ?_
   with_reducible refine (boltingref02_Has.calls k _ _ t168 ((rd_T35 l0 a1).f2) t172 _ ?side1 ?side2 A10.out).mono ?_
   (case side1 => repeat (first | exact (Kd.R_reads' HO170.out).2.2 | (with_reducible refine Kd.C_alloc ?_ _) | (with_reducible refine Kd.C_drewN ?_ _) | (with_reducible refine Kd.C_drew ?_)))
   (case side2 => exact (Kd.R_reads' HO170.out).2.1)
   rintro e w' ⟨rfl, ⟨nd, rfl⟩⟩
   refine ⟨_, rfl, ?_⟩
   refine hK.out _ _ ⟨((HB.out.cell (World.block_lt_of_cell? w _ hw171_0)).trans hw171_0), ((HB.out.cell (World.block_lt_of_cell? w _ hw171_1)).trans hw171_1), ((HB.out.cell (World.block_lt_of_cell? w _ hw171_2)).trans hw171_2), ((HB.out.cell (World.block_lt_of_cell? w _ hw171_3)).trans hw171_3), ((HB.out.cell (World.block_lt_of_cell? w _ hw171_4)).trans hw171_4)⟩ (fun hHeld => ?_)
   clear hK K
   refine norm_ (a' := ?_) ?_ ?_
   rotate_left
   ·show Act.put _ (some 22) _ = _
    simp only [Act.put, List.setIfInBounds_toArray, List.set_cons_zero, List.set_cons_succ, i64_w, i32_w]
    rfl
   refine pure_ (i := 10) (N := some 23) (v := ?_) (a' := ?_) #[true, true, true, true, true, true, true, true, true, true, true, false] rfl rfl (any_of HT_.out (by kernel_rfl)) (fun _ _ _ h => h) (Or.inl ⟨by rfl, ?_⟩) ?_ ?_
   rotate_left
   ·intro w'
    go_simp
    with_reducible rfl
   rotate_left
   ·simp only [Act.put, List.setIfInBounds_toArray, List.set_cons_zero, List.set_cons_succ, i64_w, i32_w]
    rfl
   refine pure_ (i := 11) (N := some 7) (v := ?_) (a' := ?_) #[true, true, true, true, true, true, true, true, true, true, true, true] rfl rfl (any_of HT_.out (by kernel_rfl)) (fun _ _ _ h => h) (Or.inl ⟨by rfl, ?_⟩) ?_ ?_
   rotate_left
   ·intro w'
    go_simp
    with_reducible rfl
   rotate_left
   ·simp only [Act.put, List.setIfInBounds_toArray, List.set_cons_zero, List.set_cons_succ, i64_w, i32_w]
    rfl
   refine done_ (done_of HT_.out (by kernel_rfl)) ?_
   try go_wp2
   go_meet
   case rel => exact ⟨_, (t172), y4_, H', ⟨y1_⟩, ⟨by (with_reducible repeat (first | apply Kd.R_alloc | apply Kd.R_drewN | apply Kd.R_drew)); exact HO167.out⟩, ⟨y13_⟩⟩
  ·rw [if_neg c6] at H
   have c6b0 : decide (0 ≤ a1) = false := decide_eq_false c6
   clear c6
   (first | rw [c6b0] | (simp only [i64_w, i32_w]; rw [c6b0]) | skip)
   have H' := Aside0.mk H
   clear H
   try go_wp2
   have n0_ := Aside0.mk (Kd.R_drew HO167.out)
   have n1_ := Aside0.mk (below_drew1 HB.out)
   clear HO167
   clear HB
   have HO167 := n0_
   have HB := n1_
   clear n0_ n1_
   refine start_ (n := 12) (S := fun w' => True) (ds := []) #[false, false, false, false, false, false, false, false, false, false, false, false] (by kernel_rfl) rfl rfl trivial (fun hHeld => ?_); refine with_tabW boltingref08_Within.tab3 boltingref08_Within.bits3 (fun HT_ HW_ => ?_)
   generalize w5.drew = w14 at HO167 HB hHeld ⊢
   refine pure_ (i := 0) (N := some 13) (v := ?_) (a' := ?_) #[true, false, false, false, false, false, false, false, false, false, false, false] rfl rfl (any_of HT_.out (by kernel_rfl)) (fun _ _ _ h => h) (Or.inl ⟨by rfl, ?_⟩) ?_ ?_
   rotate_left
   ·intro w'
    go_simp
    with_reducible rfl
   rotate_left
   ·simp only [Act.put, List.setIfInBounds_toArray, List.set_cons_zero, List.set_cons_succ, i64_w, i32_w]
    rfl
   refine pure_ (i := 1) (N := some 14) (v := ?_) (a' := ?_) #[true, true, false, false, false, false, false, false, false, false, false, false] rfl rfl (any_of HT_.out (by kernel_rfl)) (fun _ _ _ h => h) (Or.inl ⟨by rfl, ?_⟩) ?_ ?_
   rotate_left
   ·intro w'
    go_simp
    with_reducible rfl
   rotate_left
   ·simp only [Act.put, List.setIfInBounds_toArray, List.set_cons_zero, List.set_cons_succ, i64_w, i32_w]
    rfl
   refine pure_ (i := 2) (N := some 15) (v := ?_) (a' := ?_) #[true, true, true, false, false, false, false, false, false, false, false, false] rfl rfl (any_of HT_.out (by kernel_rfl)) (fun _ _ _ h => h) (Or.inl ⟨by rfl, ?_⟩) ?_ ?_
   rotate_left
   ·intro w'
    go_simp
    with_reducible rfl
   rotate_left
   ·simp only [Act.put, List.setIfInBounds_toArray, List.set_cons_zero, List.set_cons_succ, i64_w, i32_w]
    rfl
   refine pure_ (i := 3) (N := some 16) (v := undef) (a' := ?_) #[true, true, true, true, false, false, false, false, false, false, false, false] rfl rfl (any_of HT_.out (by kernel_rfl)) (fun _ _ _ h => h) (Or.inr ⟨by rfl, rfl⟩) ?_ ?_
   rotate_left
   ·simp only [Act.put, List.setIfInBounds_toArray, List.set_cons_zero, List.set_cons_succ, i64_w, i32_w]
    rfl
   refine pure_ (i := 4) (N := some 17) (v := undef) (a' := ?_) #[true, true, true, true, true, false, false, false, false, false, false, false] rfl rfl (any_of HT_.out (by kernel_rfl)) (fun _ _ _ h => h) (Or.inr ⟨by rfl, rfl⟩) ?_ ?_
   rotate_left
   ·simp only [Act.put, List.setIfInBounds_toArray, List.set_cons_zero, List.set_cons_succ, i64_w, i32_w]
    rfl
   refine pure_ (i := 5) (N := some 18) (v := undef) (a' := ?_) #[true, true, true, true, true, true, false, false, false, false, false, false] rfl rfl (any_of HT_.out (by kernel_rfl)) (fun _ _ _ h => h) (Or.inr ⟨by rfl, rfl⟩) ?_ ?_
   rotate_left
   ·simp only [Act.put, List.setIfInBounds_toArray, List.set_cons_zero, List.set_cons_succ, i64_w, i32_w]
    rfl
   refine pure_ (i := 6) (N := some 19) (v := undef) (a' := ?_) #[true, true, true, true, true, true, true, false, false, false, false, false] rfl rfl (any_of HT_.out (by kernel_rfl)) (fun _ _ _ h => h) (Or.inr ⟨by rfl, rfl⟩) ?_ ?_
   rotate_left
   ·simp only [Act.put, List.setIfInBounds_toArray, List.set_cons_zero, List.set_cons_succ, i64_w, i32_w]
    rfl
   refine pure_ (i := 7) (N := some 20) (v := undef) (a' := ?_) #[true, true, true, true, true, true, true, true, false, false, false, false] rfl rfl (any_of HT_.out (by kernel_rfl)) (fun _ _ _ h => h) (Or.inr ⟨by rfl, rfl⟩) ?_ ?_
   rotate_left
   ·simp only [Act.put, List.setIfInBounds_toArray, List.set_cons_zero, List.set_cons_succ, i64_w, i32_w]
    rfl
   refine pure_ (i := 8) (N := some 21) (v := undef) (a' := ?_) #[true, true, true, true, true, true, true, true, true, false, false, false] rfl rfl (any_of HT_.out (by kernel_rfl)) (fun _ _ _ h => h) (Or.inr ⟨by rfl, rfl⟩) ?_ ?_
   rotate_left
   ·simp only [Act.put, List.setIfInBounds_toArray, List.set_cons_zero, List.set_cons_succ, i64_w, i32_w]
    rfl
   refine pure_ (i := 9) (N := some 22) (v := undef) (a' := ?_) #[true, true, true, true, true, true, true, true, true, true, false, false] rfl rfl (any_of HT_.out (by kernel_rfl)) (fun _ _ _ h => h) (Or.inr ⟨by rfl, rfl⟩) ?_ ?_
   rotate_left
   ·simp only [Act.put, List.setIfInBounds_toArray, List.set_cons_zero, List.set_cons_succ, i64_w, i32_w]
    rfl
   refine pure_ (i := 10) (N := some 23) (v := ?_) (a' := ?_) #[true, true, true, true, true, true, true, true, true, true, true, false] rfl rfl (any_of HT_.out (by kernel_rfl)) (fun _ _ _ h => h) (Or.inl ⟨by rfl, ?_⟩) ?_ ?_
   rotate_left
   ·intro w'
    go_simp
    with_reducible rfl
   rotate_left
   ·simp only [Act.put, List.setIfInBounds_toArray, List.set_cons_zero, List.set_cons_succ, i64_w, i32_w]
    rfl
   refine pure_ (i := 11) (N := some 7) (v := ?_) (a' := ?_) #[true, true, true, true, true, true, true, true, true, true, true, true] rfl rfl (any_of HT_.out (by kernel_rfl)) (fun _ _ _ h => h) (Or.inl ⟨by rfl, ?_⟩) ?_ ?_
   rotate_left
   ·intro w'
    go_simp
    with_reducible rfl
   rotate_left
   ·simp only [Act.put, List.setIfInBounds_toArray, List.set_cons_zero, List.set_cons_succ, i64_w, i32_w]
    rfl
   refine done_ (done_of HT_.out (by kernel_rfl)) ?_
   try go_wp2
   go_meet
   case rel => exact ⟨_, (false), y4_, H', ⟨y1_⟩, ⟨by (with_reducible repeat (first | apply Kd.R_alloc | apply Kd.R_drewN | apply Kd.R_drew)); exact HO167.out⟩, ⟨y13_⟩⟩
 case rest =>
  clear HC4
  try clear c1
  try clear p1
  try clear q1
  try clear hx1
  try clear c2
  try clear p2
  try clear c6
  try clear c6b0
  try clear c8
  try clear c8b0
  try clear c9
  try clear c9b0
  try clear c10
  try clear c13
  try clear hx171_0
  try clear hx171_1
  try clear hx171_2
  try clear hx171_3
  try clear hx171_4
  try clear p171
  try clear q171
  obtain ⟨kq, x7_3, rfl, HA, HJ3, HO_6, HB⟩ := hcut
  cases kq with
  | zero => exact absurd HA.out (by simp [boltingref08_Within.j0])
  | succ kj3 =>
   have H := HA.out
   clear HA
   simp only [boltingref08_Within.j0] at H
   have H' := Aside0.mk H
   clear H
   go_wp2
   go_loopg [5, 8] kj3 (fun kq v5 v8 w' => ∃ (x5_2 : ByteArray) (x8_2 : Int), v5 = .string x5_2 ∧ v8 = .int .i64 x8_2 ∧ Aside0 (boltingref08_Within.l0 kq l0 x5_2 t165 x7_3 x8_2 = some r) ∧ Aside0 (kq ≤ kj3) ∧ Aside0 (Kd.R (Kd.int .i64) 3 w' w.heap.size (fun _ => True) v166 t165) ∧ Aside0 (Below w.heap.size w w'))
   case atStart => exact ⟨((⟨#[]⟩ : ByteArray)), (0), y4_, y4_, H', ⟨Nat.le_refl _⟩, ⟨by (with_reducible repeat (first | apply Kd.R_alloc | apply Kd.R_drewN | apply Kd.R_drew)); exact HO_6.out⟩, ⟨y13_⟩⟩
   case round =>
    clear H'
    try clear c1
    try clear p1
    try clear q1
    try clear hx1
    try clear c2
    try clear p2
    try clear c6
    try clear c6b0
    try clear c8
    try clear c8b0
    try clear c9
    try clear c9b0
    try clear c10
    try clear c13
    try clear hx171_0
    try clear hx171_1
    try clear hx171_2
    try clear hx171_3
    try clear hx171_4
    try clear p1
    try clear p171
    try clear p2
    try clear q1
    try clear q171
    obtain ⟨x5_2, x8_2, rfl, rfl, HA, HK2, HO_6, HB⟩ := hrel
    cases gk with
    | zero => exact absurd HA.out (by simp [boltingref08_Within.l0])
    | succ k2 =>
     have H := HA.out
     clear HA
     simp only [boltingref08_Within.l0] at H
     by_cases c15 : x8_2 < (t165.length : Int)
     ·rw [if_pos c15] at H
      have c15b0 : decide (x8_2 < (t165.length : Int)) = true := decide_eq_true c15
      clear c15
      by_cases c16 : 0 ≤ x8_2
      rotate_left
      ·rw [if_neg c16] at H
       exact absurd H (by simp)
      rw [if_pos c16] at H
      have c16b0 : decide (0 ≤ x8_2) = true := decide_eq_true c16
      clear c16
      by_cases c17 : 0 ≤ (rd t165 x8_2)
      rotate_left
      ·rw [if_neg c17] at H
       exact absurd H (by simp)
      rw [if_pos c17] at H
      have c17b0 : decide (0 ≤ (rd t165 x8_2)) = true := decide_eq_true c17
      clear c17
      by_cases c18 : (rd t165 x8_2) < (l0.length : Int)
      rotate_left
      ·rw [if_neg c18] at H
       exact absurd H (by simp)
      rw [if_pos c18] at H
      have c18b0 : decide ((rd t165 x8_2) < (l0.length : Int)) = true := decide_eq_true c18
      clear c18
      have HC19 := Aside0.mk H
      clear H
      obtain ⟨Ao20, co20, eo20⟩ := Kd.R_slice HO_6.out
      subst eo20
      have p173 : 0 ≤ (x8_2 : Int) := of_decide_eq_true y2_
      have q173 : x8_2 < (t165.length : Int) := of_decide_eq_true y2_
      obtain ⟨ad173, e173, hx173_0⟩ := Kd.at_int (Kd.R_reads' HO_6.out).2.2 x8_2 p173 q173
      cases e173
      replace p173 := eq_true p173
      replace q173 := eq_true q173
      have p174 : 0 ≤ ((rd t165 x8_2) : Int) := of_decide_eq_true y2_
      have q174 : (rd t165 x8_2) < (l0.length : Int) := of_decide_eq_true y2_
      obtain ⟨ad174, A174_4, c174_4, e174, hx174_0, hx174_1, hx174_2, hx174_3, hx174_4, hl174_4, hi174_4⟩ := at_T35 HR0.out (rd t165 x8_2) p174 q174
      cases e174
      replace hx174_0 := (HB.out.cell (World.block_lt_of_cell? w _ hx174_0)).trans hx174_0
      replace hx174_1 := (HB.out.cell (World.block_lt_of_cell? w _ hx174_1)).trans hx174_1
      replace hx174_2 := (HB.out.cell (World.block_lt_of_cell? w _ hx174_2)).trans hx174_2
      replace hx174_3 := (HB.out.cell (World.block_lt_of_cell? w _ hx174_3)).trans hx174_3
      replace hx174_4 := (HB.out.cell (World.block_lt_of_cell? w _ hx174_4)).trans hx174_4
      have HR174_4 := Aside0.mk hi174_4
      have HC174_4 := Aside0.mk hl174_4
      clear hi174_4 hl174_4
      replace p174 := eq_true p174
      replace q174 := eq_true q174
      go_upto_region 8 with (first | ((with_reducible refine gate_dst (N := 9) rfl ?_); refine box_event ?hg (N := 9) ?hd (cs := #[.int .i64 0, .int .i64 0, .string (⟨#[]⟩ : ByteArray), .string (⟨#[]⟩ : ByteArray), .slice none 0 0]) (t := 35) ?hr ?_; (case hd => rfl); (case hg => rfl); (case hr => first | (go_simp; done) | (go_simp; rfl)); intro gb175 hg w21 hbox hb; have n0_ := Aside0.mk (Kd.R_below (y7_ HO_6.out) hb); have n1_ := Aside0.mk (below_step y13_ hb); have n2_ := Aside0.mk (hbox); have n3_ := Aside0.mk ((by rw [hg]; exact (below_size y13_) : w.heap.size ≤ gb175)); have n4_ := Aside0.mk ((by rw [hg]; exact (below_size y13_) : w.heap.size ≤ gb175)); clear HO_6; clear HB; have HO_6 := n0_; have HB := n1_; have BK175 := n2_; have GW175 := n3_; have GE175 := n4_; clear n0_ n1_ n2_ n3_ n4_; clear hb hbox hg; have hcz22_0 : w21.cell? ⟨gb175, 0, none⟩ = some (.int .i64 0) := (blk_cell BK175.out 0).trans rfl; have hcz22_1 : w21.cell? ⟨gb175, 1, none⟩ = some (.int .i64 0) := (blk_cell BK175.out 1).trans rfl; have hcz22_2 : w21.cell? ⟨gb175, 2, none⟩ = some (.string (⟨#[]⟩ : ByteArray)) := (blk_cell BK175.out 2).trans rfl; have hcz22_3 : w21.cell? ⟨gb175, 3, none⟩ = some (.string (⟨#[]⟩ : ByteArray)) := (blk_cell BK175.out 3).trans rfl; have hcz22_4 : w21.cell? ⟨gb175, 4, none⟩ = some (.slice none 0 0) := (blk_cell BK175.out 4).trans rfl; have hfz22_0 := blk_frozen BK175.out 0; have hfz22_1 := blk_frozen BK175.out 1; have hfz22_2 := blk_frozen BK175.out 2; have hfz22_3 := blk_frozen BK175.out 3; have hfz22_4 := blk_frozen BK175.out 4))
      (try simp only [Act.put, List.setIfInBounds_toArray, List.set_cons_zero, List.set_cons_succ])
      go_cut [42] (fun v42 wc => ∃ (kq : Nat) (x42_18 : Bool), v42 = .bool x42_18 ∧ Aside0 (boltingref08_Within.j2 kq l0 x5_2 t165 x7_3 x8_2 x42_18 ((rd_T35 l0 (rd t165 x8_2)).f0) ((rd_T35 l0 (rd t165 x8_2)).f1) ((rd_T35 l0 (rd t165 x8_2)).f2) ((rd_T35 l0 (rd t165 x8_2)).f3) ((rd_T35 l0 (rd t165 x8_2)).f4) = some r) ∧ Aside0 (kq ≤ k2) ∧ Aside0 (Kd.R (Kd.int .i64) 3 wc w.heap.size (fun _ => True) (.slice (some ad173) t165.length co20) t165) ∧ Aside0 (wc.heap[gb175]? = some (.cells #[.int .i64 ((rd_T35 l0 (rd t165 x8_2)).f0), .int .i64 ((rd_T35 l0 (rd t165 x8_2)).f1), .string ((rd_T35 l0 (rd t165 x8_2)).f2), .string ((rd_T35 l0 (rd t165 x8_2)).f3), (.slice A174_4 ((rd_T35 l0 (rd t165 x8_2)).f4).length c174_4)] 35 (0, 0))) ∧ Aside0 (Below w.heap.size w wc))
      case first =>
       have H := HC19.out
       clear HC19
       by_cases c23 : ((rd_T35 l0 (rd t165 x8_2)).f1) = 1
       ·rw [if_pos c23] at H
        have c23b0 : (((rd_T35 l0 (rd t165 x8_2)).f1) == 1) = true := beq_iff_eq.mpr c23
        have c23b1 : (((rd_T35 l0 (rd t165 x8_2)).f1) != 1) = false := bne_eq_false_iff_eq.mpr c23
        clear c23
        (first | rw [c23b0] | (simp only [i64_w, i32_w]; rw [c23b0]) | skip)
        have H' := Aside0.mk H
        clear H
        have hcz24_0 : w21.cell? ⟨gb175, 0, none⟩ = some (.int .i64 0) := (blk_cell BK175.out 0).trans rfl
        have hcz24_1 : w21.cell? ⟨gb175, 1, none⟩ = some (.int .i64 0) := (blk_cell BK175.out 1).trans rfl
        have hcz24_2 : w21.cell? ⟨gb175, 2, none⟩ = some (.string (⟨#[]⟩ : ByteArray)) := (blk_cell BK175.out 2).trans rfl
        have hcz24_3 : w21.cell? ⟨gb175, 3, none⟩ = some (.string (⟨#[]⟩ : ByteArray)) := (blk_cell BK175.out 3).trans rfl
        have hcz24_4 : w21.cell? ⟨gb175, 4, none⟩ = some (.slice none 0 0) := (blk_cell BK175.out 4).trans rfl
        have hfz24_0 := blk_frozen BK175.out 0
        have hfz24_1 := blk_frozen BK175.out 1
        have hfz24_2 := blk_frozen BK175.out 2
        have hfz24_3 := blk_frozen BK175.out 3
        have hfz24_4 := blk_frozen BK175.out 4
        go_wp2
        go_meet
        case rel => exact ⟨_, (x7_3), y4_, H', ⟨by have := HJ3.out; have := HK2.out; first | omega | exact Nat.le_refl _⟩, ⟨by (with_reducible repeat (first | apply Kd.R_alloc | apply Kd.R_drewN | apply Kd.R_drew)); exact Kd.R_mono (Kd.R_far (p := ⟨gb175, 4, none⟩) (Kd.R_far (p := ⟨gb175, 3, none⟩) (Kd.R_far (p := ⟨gb175, 2, none⟩) (Kd.R_far (p := ⟨gb175, 1, none⟩) (Kd.R_far (p := ⟨gb175, 0, none⟩) (Kd.R_types HO_6.out BK175.out (by decide)) (fun _ hk => hk.2) (.int .i64 ((rd_T35 l0 (rd t165 x8_2)).f0))) (fun _ hk => hk.2) (.int .i64 ((rd_T35 l0 (rd t165 x8_2)).f1))) (fun _ hk => hk.2) (.string ((rd_T35 l0 (rd t165 x8_2)).f2))) (fun _ hk => hk.2) (.string ((rd_T35 l0 (rd t165 x8_2)).f3))) (fun _ hk => hk.2) (.slice A174_4 ((rd_T35 l0 (rd t165 x8_2)).f4).length c174_4)) (fun _ hk => trivial)⟩, ⟨by (with_reducible repeat (first | refine blk_drewN ?_ _ | refine blk_drew ?_ | refine blk_alloc ?_ _)); refine blk_put (cs := #[.int .i64 ((rd_T35 l0 (rd t165 x8_2)).f0), .int .i64 ((rd_T35 l0 (rd t165 x8_2)).f1), .string ((rd_T35 l0 (rd t165 x8_2)).f2), .string ((rd_T35 l0 (rd t165 x8_2)).f3), .slice none 0 0]) ?_ 4 _ rfl; (with_reducible repeat (first | refine blk_drewN ?_ _ | refine blk_drew ?_ | refine blk_alloc ?_ _)); refine blk_put (cs := #[.int .i64 ((rd_T35 l0 (rd t165 x8_2)).f0), .int .i64 ((rd_T35 l0 (rd t165 x8_2)).f1), .string ((rd_T35 l0 (rd t165 x8_2)).f2), .string (⟨#[]⟩ : ByteArray), .slice none 0 0]) ?_ 3 _ rfl; (with_reducible repeat (first | refine blk_drewN ?_ _ | refine blk_drew ?_ | refine blk_alloc ?_ _)); refine blk_put (cs := #[.int .i64 ((rd_T35 l0 (rd t165 x8_2)).f0), .int .i64 ((rd_T35 l0 (rd t165 x8_2)).f1), .string (⟨#[]⟩ : ByteArray), .string (⟨#[]⟩ : ByteArray), .slice none 0 0]) ?_ 2 _ rfl; (with_reducible repeat (first | refine blk_drewN ?_ _ | refine blk_drew ?_ | refine blk_alloc ?_ _)); refine blk_put (cs := #[.int .i64 ((rd_T35 l0 (rd t165 x8_2)).f0), .int .i64 0, .string (⟨#[]⟩ : ByteArray), .string (⟨#[]⟩ : ByteArray), .slice none 0 0]) ?_ 1 _ rfl; (with_reducible repeat (first | refine blk_drewN ?_ _ | refine blk_drew ?_ | refine blk_alloc ?_ _)); refine blk_put (cs := #[.int .i64 0, .int .i64 0, .string (⟨#[]⟩ : ByteArray), .string (⟨#[]⟩ : ByteArray), .slice none 0 0]) ?_ 0 _ rfl; (with_reducible repeat (first | refine blk_drewN ?_ _ | refine blk_drew ?_ | refine blk_alloc ?_ _)); exact BK175.out⟩, ⟨(y17_ GE175.out)⟩⟩
       ·rw [if_neg c23] at H
        have c23b0 : (((rd_T35 l0 (rd t165 x8_2)).f1) == 1) = false := beq_eq_false_iff_ne.mpr c23
        have c23b1 : (((rd_T35 l0 (rd t165 x8_2)).f1) != 1) = true := bne_iff_ne.mpr c23
        (first | rw [c23b0] | (simp only [i64_w, i32_w]; rw [c23b0]) | skip)
        have H' := Aside0.mk H
        clear H
        have hcz25_0 : w21.cell? ⟨gb175, 0, none⟩ = some (.int .i64 0) := (blk_cell BK175.out 0).trans rfl
        have hcz25_1 : w21.cell? ⟨gb175, 1, none⟩ = some (.int .i64 0) := (blk_cell BK175.out 1).trans rfl
        have hcz25_2 : w21.cell? ⟨gb175, 2, none⟩ = some (.string (⟨#[]⟩ : ByteArray)) := (blk_cell BK175.out 2).trans rfl
        have hcz25_3 : w21.cell? ⟨gb175, 3, none⟩ = some (.string (⟨#[]⟩ : ByteArray)) := (blk_cell BK175.out 3).trans rfl
        have hcz25_4 : w21.cell? ⟨gb175, 4, none⟩ = some (.slice none 0 0) := (blk_cell BK175.out 4).trans rfl
        have hfz25_0 := blk_frozen BK175.out 0
        have hfz25_1 := blk_frozen BK175.out 1
        have hfz25_2 := blk_frozen BK175.out 2
        have hfz25_3 := blk_frozen BK175.out 3
        have hfz25_4 := blk_frozen BK175.out 4
        go_wp2
        go_meet
        case rel => exact ⟨_, (false), y4_, H', ⟨by have := HJ3.out; have := HK2.out; first | omega | exact Nat.le_refl _⟩, ⟨by (with_reducible repeat (first | apply Kd.R_alloc | apply Kd.R_drewN | apply Kd.R_drew)); exact Kd.R_mono (Kd.R_far (p := ⟨gb175, 4, none⟩) (Kd.R_far (p := ⟨gb175, 3, none⟩) (Kd.R_far (p := ⟨gb175, 2, none⟩) (Kd.R_far (p := ⟨gb175, 1, none⟩) (Kd.R_far (p := ⟨gb175, 0, none⟩) (Kd.R_types HO_6.out BK175.out (by decide)) (fun _ hk => hk.2) (.int .i64 ((rd_T35 l0 (rd t165 x8_2)).f0))) (fun _ hk => hk.2) (.int .i64 ((rd_T35 l0 (rd t165 x8_2)).f1))) (fun _ hk => hk.2) (.string ((rd_T35 l0 (rd t165 x8_2)).f2))) (fun _ hk => hk.2) (.string ((rd_T35 l0 (rd t165 x8_2)).f3))) (fun _ hk => hk.2) (.slice A174_4 ((rd_T35 l0 (rd t165 x8_2)).f4).length c174_4)) (fun _ hk => trivial)⟩, ⟨by (with_reducible repeat (first | refine blk_drewN ?_ _ | refine blk_drew ?_ | refine blk_alloc ?_ _)); refine blk_put (cs := #[.int .i64 ((rd_T35 l0 (rd t165 x8_2)).f0), .int .i64 ((rd_T35 l0 (rd t165 x8_2)).f1), .string ((rd_T35 l0 (rd t165 x8_2)).f2), .string ((rd_T35 l0 (rd t165 x8_2)).f3), .slice none 0 0]) ?_ 4 _ rfl; (with_reducible repeat (first | refine blk_drewN ?_ _ | refine blk_drew ?_ | refine blk_alloc ?_ _)); refine blk_put (cs := #[.int .i64 ((rd_T35 l0 (rd t165 x8_2)).f0), .int .i64 ((rd_T35 l0 (rd t165 x8_2)).f1), .string ((rd_T35 l0 (rd t165 x8_2)).f2), .string (⟨#[]⟩ : ByteArray), .slice none 0 0]) ?_ 3 _ rfl; (with_reducible repeat (first | refine blk_drewN ?_ _ | refine blk_drew ?_ | refine blk_alloc ?_ _)); refine blk_put (cs := #[.int .i64 ((rd_T35 l0 (rd t165 x8_2)).f0), .int .i64 ((rd_T35 l0 (rd t165 x8_2)).f1), .string (⟨#[]⟩ : ByteArray), .string (⟨#[]⟩ : ByteArray), .slice none 0 0]) ?_ 2 _ rfl; (with_reducible repeat (first | refine blk_drewN ?_ _ | refine blk_drew ?_ | refine blk_alloc ?_ _)); refine blk_put (cs := #[.int .i64 ((rd_T35 l0 (rd t165 x8_2)).f0), .int .i64 0, .string (⟨#[]⟩ : ByteArray), .string (⟨#[]⟩ : ByteArray), .slice none 0 0]) ?_ 1 _ rfl; (with_reducible repeat (first | refine blk_drewN ?_ _ | refine blk_drew ?_ | refine blk_alloc ?_ _)); refine blk_put (cs := #[.int .i64 0, .int .i64 0, .string (⟨#[]⟩ : ByteArray), .string (⟨#[]⟩ : ByteArray), .slice none 0 0]) ?_ 0 _ rfl; (with_reducible repeat (first | refine blk_drewN ?_ _ | refine blk_drew ?_ | refine blk_alloc ?_ _)); exact BK175.out⟩, ⟨(y17_ GE175.out)⟩⟩
      case rest =>
       clear HC19
       try clear c1
       try clear p1
       try clear q1
       try clear hx1
       try clear c2
       try clear p2
       try clear c6
       try clear c6b0
       try clear c8
       try clear c8b0
       try clear c9
       try clear c9b0
       try clear c10
       try clear c13
       try clear c15
       try clear c15b0
       try clear c16
       try clear c16b0
       try clear c17
       try clear c17b0
       try clear p17
       try clear q17
       try clear hx17
       try clear c18
       try clear c18b0
       try clear c21
       try clear c22
       try clear c23
       try clear c23b0
       try clear c23b1
       try clear hcz22_0
       try clear hcz22_1
       try clear hcz22_2
       try clear hcz22_3
       try clear hcz22_4
       try clear hcz24_0
       try clear hcz24_1
       try clear hcz24_2
       try clear hcz24_3
       try clear hcz24_4
       try clear hcz25_0
       try clear hcz25_1
       try clear hcz25_2
       try clear hcz25_3
       try clear hcz25_4
       try clear hfz22_0
       try clear hfz22_1
       try clear hfz22_2
       try clear hfz22_3
       try clear hfz22_4
       try clear hfz24_0
       try clear hfz24_1
       try clear hfz24_2
       try clear hfz24_3
       try clear hfz24_4
       try clear hfz25_0
       try clear hfz25_1
       try clear hfz25_2
       try clear hfz25_3
       try clear hfz25_4
       try clear hx171_0
       try clear hx171_1
       try clear hx171_2
       try clear hx171_3
       try clear hx171_4
       try clear hx173_0
       try clear hx174_0
       try clear hx174_1
       try clear hx174_2
       try clear hx174_3
       try clear hx174_4
       try clear p1
       try clear p171
       try clear p173
       try clear p174
       try clear p2
       try clear q1
       try clear q171
       try clear q173
       try clear q174
       obtain ⟨kq, x42_18, rfl, HA, HJ18, HO_6, BK175, HB⟩ := hcut
       cases kq with
       | zero => exact absurd HA.out (by simp [boltingref08_Within.j2])
       | succ kj18 =>
        have H := HA.out
        clear HA
        simp only [boltingref08_Within.j2] at H
        by_cases c26 : x42_18 = true
        ·subst c26
         rw [if_pos rfl] at H
         by_cases c27 : x5_2.size + ((rd_T35 l0 (rd t165 x8_2)).f3).size ≤ 9223372036854775807
         rotate_left
         ·rw [if_neg c27] at H
          exact absurd H (by simp)
         rw [if_pos c27] at H
         have c27b0 := eq_true c27
         have c27b1 : decide (x5_2.size + ((rd_T35 l0 (rd t165 x8_2)).f3).size ≤ 9223372036854775807) = true := decide_eq_true c27
         try have c27b2 : (9223372036854775807 < x5_2.size + ((rd_T35 l0 (rd t165 x8_2)).f3).size) = False := eq_false (Nat.not_lt.2 c27)
         have H' := Aside0.mk H
         clear H
         have hcz28_0 : wc.cell? ⟨gb175, 0, none⟩ = some (.int .i64 ((rd_T35 l0 (rd t165 x8_2)).f0)) := (blk_cell BK175.out 0).trans rfl
         have hcz28_1 : wc.cell? ⟨gb175, 1, none⟩ = some (.int .i64 ((rd_T35 l0 (rd t165 x8_2)).f1)) := (blk_cell BK175.out 1).trans rfl
         have hcz28_2 : wc.cell? ⟨gb175, 2, none⟩ = some (.string ((rd_T35 l0 (rd t165 x8_2)).f2)) := (blk_cell BK175.out 2).trans rfl
         have hcz28_3 : wc.cell? ⟨gb175, 3, none⟩ = some (.string ((rd_T35 l0 (rd t165 x8_2)).f3)) := (blk_cell BK175.out 3).trans rfl
         have hcz28_4 : wc.cell? ⟨gb175, 4, none⟩ = some (.slice A174_4 ((rd_T35 l0 (rd t165 x8_2)).f4).length c174_4) := (blk_cell BK175.out 4).trans rfl
         have hfz28_0 := blk_frozen BK175.out 0
         have hfz28_1 := blk_frozen BK175.out 1
         have hfz28_2 := blk_frozen BK175.out 2
         have hfz28_3 := blk_frozen BK175.out 3
         have hfz28_4 := blk_frozen BK175.out 4
         go_wp2
         go_roundg kj18
         case measure => have := HJ3.out; have := HK2.out; have := HJ18.out; omega
         case rel => exact ⟨(x5_2 ++ ((rd_T35 l0 (rd t165 x8_2)).f3)), (wrap64 (x8_2 + 1)), y4_, y4_, H', ⟨by have := HJ3.out; have := HK2.out; have := HJ18.out; omega⟩, ⟨by (with_reducible repeat (first | apply Kd.R_alloc | apply Kd.R_drewN | apply Kd.R_drew)); exact HO_6.out⟩, ⟨(y17_ GE175.out)⟩⟩
        ·replace c26 := Bool.eq_false_iff.mpr c26
         subst c26
         rw [if_neg (show ¬ (false = true) by decide)] at H
         by_cases c29 : ((rd_T35 l0 (rd t165 x8_2)).f1) = 1
         ·rw [if_pos c29] at H
          have c29b0 : (((rd_T35 l0 (rd t165 x8_2)).f1) == 1) = true := beq_iff_eq.mpr c29
          have c29b1 : (((rd_T35 l0 (rd t165 x8_2)).f1) != 1) = false := bne_eq_false_iff_eq.mpr c29
          clear c29
          replace H := Option.bind_eq_some_iff.mp H
          obtain ⟨t176, A300, H⟩ := H
          have A30 := Aside0.mk A300
          clear A300
          by_cases c31 : x5_2.size + t176.size ≤ 9223372036854775807
          rotate_left
          ·rw [if_neg c31] at H
           exact absurd H (by simp)
          rw [if_pos c31] at H
          have c31b0 := eq_true c31
          have c31b1 : decide (x5_2.size + t176.size ≤ 9223372036854775807) = true := decide_eq_true c31
          try have c31b2 : (9223372036854775807 < x5_2.size + t176.size) = False := eq_false (Nat.not_lt.2 c31)
          have H' := Aside0.mk H
          clear H
          have hcz32_0 : wc.cell? ⟨gb175, 0, none⟩ = some (.int .i64 ((rd_T35 l0 (rd t165 x8_2)).f0)) := (blk_cell BK175.out 0).trans rfl
          have hcz32_1 : wc.cell? ⟨gb175, 1, none⟩ = some (.int .i64 ((rd_T35 l0 (rd t165 x8_2)).f1)) := (blk_cell BK175.out 1).trans rfl
          have hcz32_2 : wc.cell? ⟨gb175, 2, none⟩ = some (.string ((rd_T35 l0 (rd t165 x8_2)).f2)) := (blk_cell BK175.out 2).trans rfl
          have hcz32_3 : wc.cell? ⟨gb175, 3, none⟩ = some (.string ((rd_T35 l0 (rd t165 x8_2)).f3)) := (blk_cell BK175.out 3).trans rfl
          have hcz32_4 : wc.cell? ⟨gb175, 4, none⟩ = some (.slice A174_4 ((rd_T35 l0 (rd t165 x8_2)).f4).length c174_4) := (blk_cell BK175.out 4).trans rfl
          have hfz32_0 := blk_frozen BK175.out 0
          have hfz32_1 := blk_frozen BK175.out 1
          have hfz32_2 := blk_frozen BK175.out 2
          have hfz32_3 := blk_frozen BK175.out 3
          have hfz32_4 := blk_frozen BK175.out 4
          go_wp2_with (first | ((with_reducible refine gate_callee (f := 23) rfl ?_); refine goesL_ (some 53) rfl rfl Tryd.func23 (by kernel_rfl) rfl #[.string ((rd_T35 l0 (rd t165 x8_2)).f3), .bool false] rfl y14_ ?_; (with_reducible refine (boltingref03_Write.calls kj18 ((rd_T35 l0 (rd t165 x8_2)).f3) false t176 _ A30.out).mono ?_); rintro e w33 ⟨rfl, hb⟩; refine ⟨_, rfl, ?_⟩; have n0_ := Aside0.mk (Kd.R_below (y7_ HO_6.out) hb); have n1_ := Aside0.mk (blk_below (g := gb175) (o := .cells #[.int .i64 ((rd_T35 l0 (rd t165 x8_2)).f0), .int .i64 ((rd_T35 l0 (rd t165 x8_2)).f1), .string ((rd_T35 l0 (rd t165 x8_2)).f2), .string ((rd_T35 l0 (rd t165 x8_2)).f3), .slice A174_4 ((rd_T35 l0 (rd t165 x8_2)).f4).length c174_4] 35 (0, 0)) (y10_ BK175.out) hb); have n2_ := Aside0.mk (below_step (y17_ GE175.out) hb); clear HO_6; clear BK175; clear HB; have HO_6 := n0_; have BK175 := n1_; have HB := n2_; clear n0_ n1_ n2_; (try clear hb); (try clear hb2); (try clear hk); (try clear hi)))
          go_roundg kj18
          case measure => have := HJ3.out; have := HK2.out; have := HJ18.out; omega
          case rel => exact ⟨(x5_2 ++ t176), (wrap64 (x8_2 + 1)), y4_, y4_, H', ⟨by have := HJ3.out; have := HK2.out; have := HJ18.out; omega⟩, ⟨by (with_reducible repeat (first | apply Kd.R_alloc | apply Kd.R_drewN | apply Kd.R_drew)); exact HO_6.out⟩, ⟨(y17_ GE175.out)⟩⟩
         ·rw [if_neg c29] at H
          have c29b0 : (((rd_T35 l0 (rd t165 x8_2)).f1) == 1) = false := beq_eq_false_iff_ne.mpr c29
          have c29b1 : (((rd_T35 l0 (rd t165 x8_2)).f1) != 1) = true := bne_iff_ne.mpr c29
          by_cases c34 : ((rd_T35 l0 (rd t165 x8_2)).f1) = 2
          ·rw [if_pos c34] at H
           have c34b0 : (((rd_T35 l0 (rd t165 x8_2)).f1) == 2) = true := beq_iff_eq.mpr c34
           have c34b1 : (((rd_T35 l0 (rd t165 x8_2)).f1) != 2) = false := bne_eq_false_iff_eq.mpr c34
           clear c34
           by_cases c35 : 4 + ((rd_T35 l0 (rd t165 x8_2)).f3).size ≤ 9223372036854775807
           rotate_left
           ·rw [if_neg c35] at H
            exact absurd H (by simp)
           rw [if_pos c35] at H
           have c35b0 := eq_true c35
           have c35b1 : decide (4 + ((rd_T35 l0 (rd t165 x8_2)).f3).size ≤ 9223372036854775807) = true := decide_eq_true c35
           try have c35b2 : (9223372036854775807 < 4 + ((rd_T35 l0 (rd t165 x8_2)).f3).size) = False := eq_false (Nat.not_lt.2 c35)
           by_cases c36 : ((⟨#[60, 33, 45, 45]⟩ : ByteArray) ++ ((rd_T35 l0 (rd t165 x8_2)).f3)).size + 3 ≤ 9223372036854775807
           rotate_left
           ·rw [if_neg c36] at H
            exact absurd H (by simp)
           rw [if_pos c36] at H
           have c36b0 := eq_true c36
           have c36b1 : decide (((⟨#[60, 33, 45, 45]⟩ : ByteArray) ++ ((rd_T35 l0 (rd t165 x8_2)).f3)).size + 3 ≤ 9223372036854775807) = true := decide_eq_true c36
           try have c36b2 : (9223372036854775807 < ((⟨#[60, 33, 45, 45]⟩ : ByteArray) ++ ((rd_T35 l0 (rd t165 x8_2)).f3)).size + 3) = False := eq_false (Nat.not_lt.2 c36)
           try (have c36p_ := c36b2; simp only [ByteArray.size_append, lit_size, List.length_cons, List.length_nil, Nat.reduceAdd, Nat.zero_add] at c36p_)
           by_cases c37 : x5_2.size + (((⟨#[60, 33, 45, 45]⟩ : ByteArray) ++ ((rd_T35 l0 (rd t165 x8_2)).f3)) ++ (⟨#[45, 45, 62]⟩ : ByteArray)).size ≤ 9223372036854775807
           rotate_left
           ·rw [if_neg c37] at H
            exact absurd H (by simp)
           rw [if_pos c37] at H
           have c37b0 := eq_true c37
           have c37b1 : decide (x5_2.size + (((⟨#[60, 33, 45, 45]⟩ : ByteArray) ++ ((rd_T35 l0 (rd t165 x8_2)).f3)) ++ (⟨#[45, 45, 62]⟩ : ByteArray)).size ≤ 9223372036854775807) = true := decide_eq_true c37
           try have c37b2 : (9223372036854775807 < x5_2.size + (((⟨#[60, 33, 45, 45]⟩ : ByteArray) ++ ((rd_T35 l0 (rd t165 x8_2)).f3)) ++ (⟨#[45, 45, 62]⟩ : ByteArray)).size) = False := eq_false (Nat.not_lt.2 c37)
           try (have c37p_ := c37b2; simp only [ByteArray.size_append, lit_size, List.length_cons, List.length_nil, Nat.reduceAdd, Nat.zero_add] at c37p_)
           have H' := Aside0.mk H
           clear H
           have hcz38_0 : wc.cell? ⟨gb175, 0, none⟩ = some (.int .i64 ((rd_T35 l0 (rd t165 x8_2)).f0)) := (blk_cell BK175.out 0).trans rfl
           have hcz38_1 : wc.cell? ⟨gb175, 1, none⟩ = some (.int .i64 ((rd_T35 l0 (rd t165 x8_2)).f1)) := (blk_cell BK175.out 1).trans rfl
           have hcz38_2 : wc.cell? ⟨gb175, 2, none⟩ = some (.string ((rd_T35 l0 (rd t165 x8_2)).f2)) := (blk_cell BK175.out 2).trans rfl
           have hcz38_3 : wc.cell? ⟨gb175, 3, none⟩ = some (.string ((rd_T35 l0 (rd t165 x8_2)).f3)) := (blk_cell BK175.out 3).trans rfl
           have hcz38_4 : wc.cell? ⟨gb175, 4, none⟩ = some (.slice A174_4 ((rd_T35 l0 (rd t165 x8_2)).f4).length c174_4) := (blk_cell BK175.out 4).trans rfl
           have hfz38_0 := blk_frozen BK175.out 0
           have hfz38_1 := blk_frozen BK175.out 1
           have hfz38_2 := blk_frozen BK175.out 2
           have hfz38_3 := blk_frozen BK175.out 3
           have hfz38_4 := blk_frozen BK175.out 4
           go_wp2
           go_roundg kj18
           case measure => have := HJ3.out; have := HK2.out; have := HJ18.out; omega
           case rel => exact ⟨(x5_2 ++ (((⟨#[60, 33, 45, 45]⟩ : ByteArray) ++ ((rd_T35 l0 (rd t165 x8_2)).f3)) ++ (⟨#[45, 45, 62]⟩ : ByteArray))), (wrap64 (x8_2 + 1)), y4_, y4_, H', ⟨by have := HJ3.out; have := HK2.out; have := HJ18.out; omega⟩, ⟨by (with_reducible repeat (first | apply Kd.R_alloc | apply Kd.R_drewN | apply Kd.R_drew)); exact HO_6.out⟩, ⟨(y17_ GE175.out)⟩⟩
          ·rw [if_neg c34] at H
           have c34b0 : (((rd_T35 l0 (rd t165 x8_2)).f1) == 2) = false := beq_eq_false_iff_ne.mpr c34
           have c34b1 : (((rd_T35 l0 (rd t165 x8_2)).f1) != 2) = true := bne_iff_ne.mpr c34
           replace H := Option.bind_eq_some_iff.mp H
           obtain ⟨t177, A390, H⟩ := H
           have A39 := Aside0.mk A390
           clear A390
           replace H := Option.bind_eq_some_iff.mp H
           obtain ⟨t180, A400, H⟩ := H
           have A40 := Aside0.mk A400
           clear A400
           by_cases c41 : t180 = true
           ·subst c41
            rw [if_pos rfl] at H
            replace H := Option.bind_eq_some_iff.mp H
            obtain ⟨t181, A420, H⟩ := H
            have A42 := Aside0.mk A420
            clear A420
            by_cases c43 : x5_2.size + t181.size ≤ 9223372036854775807
            rotate_left
            ·rw [if_neg c43] at H
             exact absurd H (by simp)
            rw [if_pos c43] at H
            have c43b0 := eq_true c43
            have c43b1 : decide (x5_2.size + t181.size ≤ 9223372036854775807) = true := decide_eq_true c43
            try have c43b2 : (9223372036854775807 < x5_2.size + t181.size) = False := eq_false (Nat.not_lt.2 c43)
            have H' := Aside0.mk H
            clear H
            have hcz44_0 : wc.cell? ⟨gb175, 0, none⟩ = some (.int .i64 ((rd_T35 l0 (rd t165 x8_2)).f0)) := (blk_cell BK175.out 0).trans rfl
            have hcz44_1 : wc.cell? ⟨gb175, 1, none⟩ = some (.int .i64 ((rd_T35 l0 (rd t165 x8_2)).f1)) := (blk_cell BK175.out 1).trans rfl
            have hcz44_2 : wc.cell? ⟨gb175, 2, none⟩ = some (.string ((rd_T35 l0 (rd t165 x8_2)).f2)) := (blk_cell BK175.out 2).trans rfl
            have hcz44_3 : wc.cell? ⟨gb175, 3, none⟩ = some (.string ((rd_T35 l0 (rd t165 x8_2)).f3)) := (blk_cell BK175.out 3).trans rfl
            have hcz44_4 : wc.cell? ⟨gb175, 4, none⟩ = some (.slice A174_4 ((rd_T35 l0 (rd t165 x8_2)).f4).length c174_4) := (blk_cell BK175.out 4).trans rfl
            have hfz44_0 := blk_frozen BK175.out 0
            have hfz44_1 := blk_frozen BK175.out 1
            have hfz44_2 := blk_frozen BK175.out 2
            have hfz44_3 := blk_frozen BK175.out 3
            have hfz44_4 := blk_frozen BK175.out 4
            try go_wp2
            have n0_ := Aside0.mk (Kd.R_drew HO_6.out)
            have n1_ := Aside0.mk (blk_drew BK175.out)
            have n2_ := Aside0.mk (below_drew1 HB.out)
            clear HO_6
            clear BK175
            clear HB
            have HO_6 := n0_
            have BK175 := n1_
            have HB := n2_
            clear n0_ n1_ n2_
            refine start_ (n := 4) (S := fun w' => w'.cell? ⟨gb175, 0, none⟩ = some (.int .i64 ((rd_T35 l0 (rd t165 x8_2)).f0)) ∧ w'.cell? ⟨gb175, 1, none⟩ = some (.int .i64 ((rd_T35 l0 (rd t165 x8_2)).f1)) ∧ w'.cell? ⟨gb175, 2, none⟩ = some (.string ((rd_T35 l0 (rd t165 x8_2)).f2)) ∧ w'.cell? ⟨gb175, 3, none⟩ = some (.string ((rd_T35 l0 (rd t165 x8_2)).f3)) ∧ w'.cell? ⟨gb175, 4, none⟩ = some (.slice A174_4 ((rd_T35 l0 (rd t165 x8_2)).f4).length c174_4)) (ds := []) #[false, false, false, false] (by kernel_rfl) rfl rfl ⟨(blk_cell BK175.out 0).trans rfl, (blk_cell BK175.out 1).trans rfl, (blk_cell BK175.out 2).trans rfl, (blk_cell BK175.out 3).trans rfl, (blk_cell BK175.out 4).trans rfl⟩ (fun hHeld => ?_)
            generalize wc.drew = w45 at HO_6 BK175 HB hHeld ⊢
            refine pure_ (i := 1) (N := some 65) (v := ?_) (a' := ?_) #[false, true, false, false] rfl rfl (by kernel_rfl) (fun _ _ _ h => h) (Or.inl ⟨by rfl, ?_⟩) ?_ ?_
            rotate_left
            ·intro w'
             go_simp
             with_reducible rfl
            rotate_left
            ·simp only [Act.put, List.setIfInBounds_toArray, List.set_cons_zero, List.set_cons_succ, i64_w, i32_w]
             rfl
            refine take_ (i := 2) (N := some 66) (v := ?_) (a' := ?_) #[false, true, true, false] rfl rfl (by kernel_rfl) (fun _ _ _ h => h) (Or.inl ⟨by rfl, ?_⟩) hHeld ?_ ?_
            rotate_left
            ·rintro w' ⟨s0, s1, s2, s3, s4⟩
             go_simp
             with_reducible rfl
            rotate_left
            ·simp only [Act.put, List.setIfInBounds_toArray, List.set_cons_zero, List.set_cons_succ, i64_w, i32_w]
             rfl
            refine one_ (i := 0) (N := some 64) #[true, true, true, false] rfl rfl (by kernel_rfl) (by decide) (fun K hK => ?_)
            refine goes_ Tryd.func24 (by kernel_rfl) rfl #[] (by rfl) rfl rfl y14_ ?_
            with_reducible refine (boltingref05_Void.calls  t177 _ A39.out).mono ?_
            rintro e w46 ⟨v178, rfl, ho0, hb⟩
            refine ⟨_, rfl, ?_⟩
            have n0_ := Aside0.mk (Kd.R_below (y7_ HO_6.out) hb)
            have n1_ := Aside0.mk (Kd.R_lower ho0 (below_size (y17_ GE175.out)))
            have n2_ := Aside0.mk (blk_below (g := gb175) (o := .cells #[.int .i64 ((rd_T35 l0 (rd t165 x8_2)).f0), .int .i64 ((rd_T35 l0 (rd t165 x8_2)).f1), .string ((rd_T35 l0 (rd t165 x8_2)).f2), .string ((rd_T35 l0 (rd t165 x8_2)).f3), .slice A174_4 ((rd_T35 l0 (rd t165 x8_2)).f4).length c174_4] 35 (0, 0)) (y10_ BK175.out) hb)
            have n3_ := Aside0.mk (below_step (y17_ GE175.out) hb)
            clear HO_6
            clear BK175
            clear HB
            have HO_6 := n0_
            have HO179 := n1_
            have BK175 := n2_
            have HB := n3_
            clear n0_ n1_ n2_ n3_
            (try clear hb)
            (try clear hb2)
            (try clear hk)
            (try clear hi)
            (try clear ho0)
            obtain ⟨Ao47, co47, eo47⟩ := Kd.R_slice HO179.out
            (first | subst eo47 | (injection eo47 with f1_ f2_ f3_; have f4_ := f1_.symm; have f5_ := f3_.symm; clear f1_ f2_ f3_; subst f4_; subst f5_))
            refine hK.out _ _ ⟨(blk_cell BK175.out 0).trans rfl, (blk_cell BK175.out 1).trans rfl, (blk_cell BK175.out 2).trans rfl, (blk_cell BK175.out 3).trans rfl, (blk_cell BK175.out 4).trans rfl⟩ (fun hHeld => ?_)
            clear hK K
            refine norm_ (a' := ?_) ?_ ?_
            rotate_left
            ·show Act.put _ (some 64) _ = _
             simp only [Act.put, List.setIfInBounds_toArray, List.set_cons_zero, List.set_cons_succ, i64_w, i32_w]
             rfl
            refine one_ (i := 3) (N := some 67) #[true, true, true, true] rfl rfl (by kernel_rfl) (by decide) (fun K hK => ?_)
            refine goes_ Tryd.func21 (by kernel_rfl) rfl #[.slice Ao47 t177.length co47, .string ((rd_T35 l0 (rd t165 x8_2)).f2)] (by rfl) rfl rfl y14_ ?_
            with_reducible refine (boltingref02_Has.calls kj18 _ _ t177 ((rd_T35 l0 (rd t165 x8_2)).f2) true _ ?side1 ?side2 A40.out).mono ?_
            (case side1 => repeat (first | exact (Kd.R_reads' HO179.out).2.2 | (with_reducible refine Kd.C_alloc ?_ _) | (with_reducible refine Kd.C_drewN ?_ _) | (with_reducible refine Kd.C_drew ?_)))
            (case side2 => exact (Kd.R_reads' HO179.out).2.1)
            rintro e w' ⟨rfl, ⟨nd, rfl⟩⟩
            refine ⟨_, rfl, ?_⟩
            refine hK.out _ _ ⟨(blk_cell BK175.out 0).trans rfl, (blk_cell BK175.out 1).trans rfl, (blk_cell BK175.out 2).trans rfl, (blk_cell BK175.out 3).trans rfl, (blk_cell BK175.out 4).trans rfl⟩ (fun hHeld => ?_)
            clear hK K
            refine norm_ (a' := ?_) ?_ ?_
            rotate_left
            ·show Act.put _ (some 67) _ = _
             simp only [Act.put, List.setIfInBounds_toArray, List.set_cons_zero, List.set_cons_succ, i64_w, i32_w]
             rfl
            refine done_ (by kernel_rfl) ?_
            have hcz48_0 : w46.cell? ⟨gb175, 0, none⟩ = some (.int .i64 ((rd_T35 l0 (rd t165 x8_2)).f0)) := (blk_cell BK175.out 0).trans rfl
            have hcz48_1 : w46.cell? ⟨gb175, 1, none⟩ = some (.int .i64 ((rd_T35 l0 (rd t165 x8_2)).f1)) := (blk_cell BK175.out 1).trans rfl
            have hcz48_2 : w46.cell? ⟨gb175, 2, none⟩ = some (.string ((rd_T35 l0 (rd t165 x8_2)).f2)) := (blk_cell BK175.out 2).trans rfl
            have hcz48_3 : w46.cell? ⟨gb175, 3, none⟩ = some (.string ((rd_T35 l0 (rd t165 x8_2)).f3)) := (blk_cell BK175.out 3).trans rfl
            have hcz48_4 : w46.cell? ⟨gb175, 4, none⟩ = some (.slice A174_4 ((rd_T35 l0 (rd t165 x8_2)).f4).length c174_4) := (blk_cell BK175.out 4).trans rfl
            have hfz48_0 := blk_frozen BK175.out 0
            have hfz48_1 := blk_frozen BK175.out 1
            have hfz48_2 := blk_frozen BK175.out 2
            have hfz48_3 := blk_frozen BK175.out 3
            have hfz48_4 := blk_frozen BK175.out 4
            try go_wp2_with (first | ((with_reducible refine gate_callee (f := 25) rfl ?_); refine goesL_ (some 70) rfl rfl Tryd.func25 (by kernel_rfl) rfl #[.agg #[.int .i64 ((rd_T35 l0 (rd t165 x8_2)).f0), .int .i64 ((rd_T35 l0 (rd t165 x8_2)).f1), .string ((rd_T35 l0 (rd t165 x8_2)).f2), .string ((rd_T35 l0 (rd t165 x8_2)).f3), .slice A174_4 ((rd_T35 l0 (rd t165 x8_2)).f4).length c174_4]] rfl y14_ ?_; (with_reducible refine (boltingref08_tag.calls kj18 ((rd_T35 l0 (rd t165 x8_2)).f0) ((rd_T35 l0 (rd t165 x8_2)).f1) ((rd_T35 l0 (rd t165 x8_2)).f2) ((rd_T35 l0 (rd t165 x8_2)).f3) _ _ ((rd_T35 l0 (rd t165 x8_2)).f4) t181 _ ?side1 ?side2 A42.out).mono ?_); (case side1 => repeat (first | exact (Kd.C_below HR174_4.out (y17_ GE175.out)) | (with_reducible refine Kd.C_alloc ?_ _) | (with_reducible refine Kd.C_drewN ?_ _) | (with_reducible refine Kd.C_drew ?_))); (case side2 => exact HC174_4.out); rintro e w49 ⟨rfl, hb⟩; refine ⟨_, rfl, ?_⟩; have n0_ := Aside0.mk (Kd.R_below (y7_ HO_6.out) hb); have n1_ := Aside0.mk (Kd.R_below (y7_ HO179.out) hb); have n2_ := Aside0.mk (blk_below (g := gb175) (o := .cells #[.int .i64 ((rd_T35 l0 (rd t165 x8_2)).f0), .int .i64 ((rd_T35 l0 (rd t165 x8_2)).f1), .string ((rd_T35 l0 (rd t165 x8_2)).f2), .string ((rd_T35 l0 (rd t165 x8_2)).f3), .slice A174_4 ((rd_T35 l0 (rd t165 x8_2)).f4).length c174_4] 35 (0, 0)) (y10_ BK175.out) hb); have n3_ := Aside0.mk (below_step (y17_ GE175.out) hb); clear HO_6; clear HO179; clear BK175; clear HB; have HO_6 := n0_; have HO179 := n1_; have BK175 := n2_; have HB := n3_; clear n0_ n1_ n2_ n3_; (try clear hb); (try clear hb2); (try clear hk); (try clear hi)))
            go_roundg kj18
            case measure => have := HJ3.out; have := HK2.out; have := HJ18.out; omega
            case rel => exact ⟨(x5_2 ++ t181), (wrap64 (x8_2 + 1)), y4_, y4_, H', ⟨by have := HJ3.out; have := HK2.out; have := HJ18.out; omega⟩, ⟨by (with_reducible repeat (first | apply Kd.R_alloc | apply Kd.R_drewN | apply Kd.R_drew)); exact HO_6.out⟩, ⟨(y17_ GE175.out)⟩⟩
           ·replace c41 := Bool.eq_false_iff.mpr c41
            subst c41
            rw [if_neg (show ¬ (false = true) by decide)] at H
            replace H := Option.bind_eq_some_iff.mp H
            obtain ⟨t182, A500, H⟩ := H
            have A50 := Aside0.mk A500
            clear A500
            by_cases c51 : 0 ≤ x8_2
            rotate_left
            ·rw [if_neg c51] at H
             exact absurd H (by simp)
            rw [if_pos c51] at H
            have c51b0 : decide (0 ≤ x8_2) = true := decide_eq_true c51
            clear c51
            by_cases c52 : x8_2 < (t165.length : Int)
            rotate_left
            ·rw [if_neg c52] at H
             exact absurd H (by simp)
            rw [if_pos c52] at H
            have c52b0 : decide (x8_2 < (t165.length : Int)) = true := decide_eq_true c52
            clear c52
            replace H := Option.bind_eq_some_iff.mp H
            obtain ⟨t184, A530, H⟩ := H
            have A53 := Aside0.mk A530
            clear A530
            by_cases c54 : t182.size + t184.size ≤ 9223372036854775807
            rotate_left
            ·rw [if_neg c54] at H
             exact absurd H (by simp)
            rw [if_pos c54] at H
            have c54b0 := eq_true c54
            have c54b1 : decide (t182.size + t184.size ≤ 9223372036854775807) = true := decide_eq_true c54
            try have c54b2 : (9223372036854775807 < t182.size + t184.size) = False := eq_false (Nat.not_lt.2 c54)
            by_cases c55 : (t182 ++ t184).size + 2 ≤ 9223372036854775807
            rotate_left
            ·rw [if_neg c55] at H
             exact absurd H (by simp)
            rw [if_pos c55] at H
            have c55b0 := eq_true c55
            have c55b1 : decide ((t182 ++ t184).size + 2 ≤ 9223372036854775807) = true := decide_eq_true c55
            try have c55b2 : (9223372036854775807 < (t182 ++ t184).size + 2) = False := eq_false (Nat.not_lt.2 c55)
            try (have c55p_ := c55b2; simp only [ByteArray.size_append, lit_size, List.length_cons, List.length_nil, Nat.reduceAdd, Nat.zero_add] at c55p_)
            by_cases c56 : ((t182 ++ t184) ++ (⟨#[60, 47]⟩ : ByteArray)).size + ((rd_T35 l0 (rd t165 x8_2)).f2).size ≤ 9223372036854775807
            rotate_left
            ·rw [if_neg c56] at H
             exact absurd H (by simp)
            rw [if_pos c56] at H
            have c56b0 := eq_true c56
            have c56b1 : decide (((t182 ++ t184) ++ (⟨#[60, 47]⟩ : ByteArray)).size + ((rd_T35 l0 (rd t165 x8_2)).f2).size ≤ 9223372036854775807) = true := decide_eq_true c56
            try have c56b2 : (9223372036854775807 < ((t182 ++ t184) ++ (⟨#[60, 47]⟩ : ByteArray)).size + ((rd_T35 l0 (rd t165 x8_2)).f2).size) = False := eq_false (Nat.not_lt.2 c56)
            try (have c56p_ := c56b2; simp only [ByteArray.size_append, lit_size, List.length_cons, List.length_nil, Nat.reduceAdd, Nat.zero_add] at c56p_)
            by_cases c57 : (((t182 ++ t184) ++ (⟨#[60, 47]⟩ : ByteArray)) ++ ((rd_T35 l0 (rd t165 x8_2)).f2)).size + 1 ≤ 9223372036854775807
            rotate_left
            ·rw [if_neg c57] at H
             exact absurd H (by simp)
            rw [if_pos c57] at H
            have c57b0 := eq_true c57
            have c57b1 : decide ((((t182 ++ t184) ++ (⟨#[60, 47]⟩ : ByteArray)) ++ ((rd_T35 l0 (rd t165 x8_2)).f2)).size + 1 ≤ 9223372036854775807) = true := decide_eq_true c57
            try have c57b2 : (9223372036854775807 < (((t182 ++ t184) ++ (⟨#[60, 47]⟩ : ByteArray)) ++ ((rd_T35 l0 (rd t165 x8_2)).f2)).size + 1) = False := eq_false (Nat.not_lt.2 c57)
            try (have c57p_ := c57b2; simp only [ByteArray.size_append, lit_size, List.length_cons, List.length_nil, Nat.reduceAdd, Nat.zero_add] at c57p_)
            by_cases c58 : x5_2.size + ((((t182 ++ t184) ++ (⟨#[60, 47]⟩ : ByteArray)) ++ ((rd_T35 l0 (rd t165 x8_2)).f2)) ++ (⟨#[62]⟩ : ByteArray)).size ≤ 9223372036854775807
            rotate_left
            ·rw [if_neg c58] at H
             exact absurd H (by simp)
            rw [if_pos c58] at H
            have c58b0 := eq_true c58
            have c58b1 : decide (x5_2.size + ((((t182 ++ t184) ++ (⟨#[60, 47]⟩ : ByteArray)) ++ ((rd_T35 l0 (rd t165 x8_2)).f2)) ++ (⟨#[62]⟩ : ByteArray)).size ≤ 9223372036854775807) = true := decide_eq_true c58
            try have c58b2 : (9223372036854775807 < x5_2.size + ((((t182 ++ t184) ++ (⟨#[60, 47]⟩ : ByteArray)) ++ ((rd_T35 l0 (rd t165 x8_2)).f2)) ++ (⟨#[62]⟩ : ByteArray)).size) = False := eq_false (Nat.not_lt.2 c58)
            try (have c58p_ := c58b2; simp only [ByteArray.size_append, lit_size, List.length_cons, List.length_nil, Nat.reduceAdd, Nat.zero_add] at c58p_)
            have H' := Aside0.mk H
            clear H
            have hcz59_0 : wc.cell? ⟨gb175, 0, none⟩ = some (.int .i64 ((rd_T35 l0 (rd t165 x8_2)).f0)) := (blk_cell BK175.out 0).trans rfl
            have hcz59_1 : wc.cell? ⟨gb175, 1, none⟩ = some (.int .i64 ((rd_T35 l0 (rd t165 x8_2)).f1)) := (blk_cell BK175.out 1).trans rfl
            have hcz59_2 : wc.cell? ⟨gb175, 2, none⟩ = some (.string ((rd_T35 l0 (rd t165 x8_2)).f2)) := (blk_cell BK175.out 2).trans rfl
            have hcz59_3 : wc.cell? ⟨gb175, 3, none⟩ = some (.string ((rd_T35 l0 (rd t165 x8_2)).f3)) := (blk_cell BK175.out 3).trans rfl
            have hcz59_4 : wc.cell? ⟨gb175, 4, none⟩ = some (.slice A174_4 ((rd_T35 l0 (rd t165 x8_2)).f4).length c174_4) := (blk_cell BK175.out 4).trans rfl
            have hfz59_0 := blk_frozen BK175.out 0
            have hfz59_1 := blk_frozen BK175.out 1
            have hfz59_2 := blk_frozen BK175.out 2
            have hfz59_3 := blk_frozen BK175.out 3
            have hfz59_4 := blk_frozen BK175.out 4
            try go_wp2
            have n0_ := Aside0.mk (Kd.R_drew HO_6.out)
            have n1_ := Aside0.mk (blk_drew BK175.out)
            have n2_ := Aside0.mk (below_drew1 HB.out)
            clear HO_6
            clear BK175
            clear HB
            have HO_6 := n0_
            have BK175 := n1_
            have HB := n2_
            clear n0_ n1_ n2_
            refine start_ (n := 4) (S := fun w' => w'.cell? ⟨gb175, 0, none⟩ = some (.int .i64 ((rd_T35 l0 (rd t165 x8_2)).f0)) ∧ w'.cell? ⟨gb175, 1, none⟩ = some (.int .i64 ((rd_T35 l0 (rd t165 x8_2)).f1)) ∧ w'.cell? ⟨gb175, 2, none⟩ = some (.string ((rd_T35 l0 (rd t165 x8_2)).f2)) ∧ w'.cell? ⟨gb175, 3, none⟩ = some (.string ((rd_T35 l0 (rd t165 x8_2)).f3)) ∧ w'.cell? ⟨gb175, 4, none⟩ = some (.slice A174_4 ((rd_T35 l0 (rd t165 x8_2)).f4).length c174_4)) (ds := []) #[false, false, false, false] (by kernel_rfl) rfl rfl ⟨(blk_cell BK175.out 0).trans rfl, (blk_cell BK175.out 1).trans rfl, (blk_cell BK175.out 2).trans rfl, (blk_cell BK175.out 3).trans rfl, (blk_cell BK175.out 4).trans rfl⟩ (fun hHeld => ?_)
            generalize wc.drew = w60 at HO_6 BK175 HB hHeld ⊢
            refine pure_ (i := 1) (N := some 65) (v := ?_) (a' := ?_) #[false, true, false, false] rfl rfl (by kernel_rfl) (fun _ _ _ h => h) (Or.inl ⟨by rfl, ?_⟩) ?_ ?_
            rotate_left
            ·intro w'
             go_simp
             with_reducible rfl
            rotate_left
            ·simp only [Act.put, List.setIfInBounds_toArray, List.set_cons_zero, List.set_cons_succ, i64_w, i32_w]
             rfl
            refine take_ (i := 2) (N := some 66) (v := ?_) (a' := ?_) #[false, true, true, false] rfl rfl (by kernel_rfl) (fun _ _ _ h => h) (Or.inl ⟨by rfl, ?_⟩) hHeld ?_ ?_
            rotate_left
            ·rintro w' ⟨s0, s1, s2, s3, s4⟩
             go_simp
             with_reducible rfl
            rotate_left
            ·simp only [Act.put, List.setIfInBounds_toArray, List.set_cons_zero, List.set_cons_succ, i64_w, i32_w]
             rfl
            refine one_ (i := 0) (N := some 64) #[true, true, true, false] rfl rfl (by kernel_rfl) (by decide) (fun K hK => ?_)
            refine goes_ Tryd.func24 (by kernel_rfl) rfl #[] (by rfl) rfl rfl y14_ ?_
            with_reducible refine (boltingref05_Void.calls  t177 _ A39.out).mono ?_
            rintro e w61 ⟨v178, rfl, ho0, hb⟩
            refine ⟨_, rfl, ?_⟩
            have n0_ := Aside0.mk (Kd.R_below (y7_ HO_6.out) hb)
            have n1_ := Aside0.mk (Kd.R_lower ho0 (below_size (y17_ GE175.out)))
            have n2_ := Aside0.mk (blk_below (g := gb175) (o := .cells #[.int .i64 ((rd_T35 l0 (rd t165 x8_2)).f0), .int .i64 ((rd_T35 l0 (rd t165 x8_2)).f1), .string ((rd_T35 l0 (rd t165 x8_2)).f2), .string ((rd_T35 l0 (rd t165 x8_2)).f3), .slice A174_4 ((rd_T35 l0 (rd t165 x8_2)).f4).length c174_4] 35 (0, 0)) (y10_ BK175.out) hb)
            have n3_ := Aside0.mk (below_step (y17_ GE175.out) hb)
            clear HO_6
            clear BK175
            clear HB
            have HO_6 := n0_
            have HO179 := n1_
            have BK175 := n2_
            have HB := n3_
            clear n0_ n1_ n2_ n3_
            (try clear hb)
            (try clear hb2)
            (try clear hk)
            (try clear hi)
            (try clear ho0)
            obtain ⟨Ao62, co62, eo62⟩ := Kd.R_slice HO179.out
            (first | subst eo62 | (injection eo62 with f1_ f2_ f3_; have f4_ := f1_.symm; have f5_ := f3_.symm; clear f1_ f2_ f3_; subst f4_; subst f5_))
            refine hK.out _ _ ⟨(blk_cell BK175.out 0).trans rfl, (blk_cell BK175.out 1).trans rfl, (blk_cell BK175.out 2).trans rfl, (blk_cell BK175.out 3).trans rfl, (blk_cell BK175.out 4).trans rfl⟩ (fun hHeld => ?_)
            clear hK K
            refine norm_ (a' := ?_) ?_ ?_
            rotate_left
            ·show Act.put _ (some 64) _ = _
             simp only [Act.put, List.setIfInBounds_toArray, List.set_cons_zero, List.set_cons_succ, i64_w, i32_w]
             rfl
            refine one_ (i := 3) (N := some 67) #[true, true, true, true] rfl rfl (by kernel_rfl) (by decide) (fun K hK => ?_)
            refine goes_ Tryd.func21 (by kernel_rfl) rfl #[.slice Ao62 t177.length co62, .string ((rd_T35 l0 (rd t165 x8_2)).f2)] (by rfl) rfl rfl y14_ ?_
            with_reducible refine (boltingref02_Has.calls kj18 _ _ t177 ((rd_T35 l0 (rd t165 x8_2)).f2) false _ ?side1 ?side2 A40.out).mono ?_
            (case side1 => repeat (first | exact (Kd.R_reads' HO179.out).2.2 | (with_reducible refine Kd.C_alloc ?_ _) | (with_reducible refine Kd.C_drewN ?_ _) | (with_reducible refine Kd.C_drew ?_)))
            (case side2 => exact (Kd.R_reads' HO179.out).2.1)
            rintro e w' ⟨rfl, ⟨nd, rfl⟩⟩
            refine ⟨_, rfl, ?_⟩
            refine hK.out _ _ ⟨(blk_cell BK175.out 0).trans rfl, (blk_cell BK175.out 1).trans rfl, (blk_cell BK175.out 2).trans rfl, (blk_cell BK175.out 3).trans rfl, (blk_cell BK175.out 4).trans rfl⟩ (fun hHeld => ?_)
            clear hK K
            refine norm_ (a' := ?_) ?_ ?_
            rotate_left
            ·show Act.put _ (some 67) _ = _
             simp only [Act.put, List.setIfInBounds_toArray, List.set_cons_zero, List.set_cons_succ, i64_w, i32_w]
             rfl
            refine done_ (by kernel_rfl) ?_
            try go_wp2
            (try (rw [drewN_self w61]; generalize hq_ : World.drewN w61 _ = w61; have n0_ : Aside0 (Kd.R Kd.string 9 w61 w.heap.size (fun _ => True) (.slice Ao62 t177.length co62) t177) := ⟨by rw [← hq_]; exact (y7_ HO179.out)⟩; have n1_ : Aside0 (Kd.R (Kd.int .i64) 3 w61 w.heap.size (fun _ => True) (.slice (some ad173) t165.length co20) t165) := ⟨by rw [← hq_]; exact (y7_ HO_6.out)⟩; have n2_ : Aside0 (w61.heap[gb175]? = some (.cells #[.int .i64 ((rd_T35 l0 (rd t165 x8_2)).f0), .int .i64 ((rd_T35 l0 (rd t165 x8_2)).f1), .string ((rd_T35 l0 (rd t165 x8_2)).f2), .string ((rd_T35 l0 (rd t165 x8_2)).f3), .slice A174_4 ((rd_T35 l0 (rd t165 x8_2)).f4).length c174_4] 35 (0, 0))) := ⟨by rw [← hq_]; exact (y10_ BK175.out)⟩; have n3_ : Aside0 (Below w.heap.size w w61) := ⟨by rw [← hq_]; exact (y17_ GE175.out)⟩; clear HO179 HO_6 BK175 HB hq_; have HO179 := n0_; have HO_6 := n1_; have BK175 := n2_; have HB := n3_; clear n0_ n1_ n2_ n3_))
            have n0_ := Aside0.mk (Kd.R_drew HO_6.out)
            have n1_ := Aside0.mk (Kd.R_drew HO179.out)
            have n2_ := Aside0.mk (blk_drew BK175.out)
            have n3_ := Aside0.mk (below_drew1 HB.out)
            clear HO_6
            clear HO179
            clear BK175
            clear HB
            have HO_6 := n0_
            have HO179 := n1_
            have BK175 := n2_
            have HB := n3_
            clear n0_ n1_ n2_ n3_
            have p183 : 0 ≤ (x8_2 : Int) := of_decide_eq_true y2_
            have q183 : x8_2 < (t165.length : Int) := of_decide_eq_true y2_
            obtain ⟨ad183, e183, hx183_0⟩ := Kd.at_int (Kd.R_reads' HO_6.out).2.2 x8_2 p183 q183
            obtain rfl : ad173 = ad183 := (by injection e183)
            replace p183 := eq_true p183
            replace q183 := eq_true q183
            refine start_ (n := 17) (S := fun w' => w'.cell? ⟨gb175, 0, none⟩ = some (.int .i64 ((rd_T35 l0 (rd t165 x8_2)).f0)) ∧ w'.cell? ⟨gb175, 1, none⟩ = some (.int .i64 ((rd_T35 l0 (rd t165 x8_2)).f1)) ∧ w'.cell? ⟨gb175, 2, none⟩ = some (.string ((rd_T35 l0 (rd t165 x8_2)).f2)) ∧ w'.cell? ⟨gb175, 3, none⟩ = some (.string ((rd_T35 l0 (rd t165 x8_2)).f3)) ∧ w'.cell? ⟨gb175, 4, none⟩ = some (.slice A174_4 ((rd_T35 l0 (rd t165 x8_2)).f4).length c174_4) ∧ w'.cell? (ad173.add (x8_2).toNat) = some (.int .i64 (rd t165 x8_2))) (ds := []) #[false, false, false, false, false, false, false, false, false, false, false, false, false, false, false, false, false] (by kernel_rfl) rfl rfl ⟨(blk_cell BK175.out 0).trans rfl, (blk_cell BK175.out 1).trans rfl, (blk_cell BK175.out 2).trans rfl, (blk_cell BK175.out 3).trans rfl, (blk_cell BK175.out 4).trans rfl, hx183_0⟩ (fun hHeld => ?_); refine with_tabW boltingref08_Within.tab16 boltingref08_Within.bits16 (fun HT_ HW_ => ?_)
            generalize w61.drew = w63 at HO_6 HO179 BK175 HB hx183_0 hHeld ⊢
            refine pure_ (i := 0) (N := some 72) (v := ?_) (a' := ?_) #[true, false, false, false, false, false, false, false, false, false, false, false, false, false, false, false, false] rfl rfl (any_of HT_.out (by kernel_rfl)) (fun _ _ _ h => h) (Or.inl ⟨by rfl, ?_⟩) ?_ ?_
            rotate_left
            ·intro w'
             go_simp
             with_reducible rfl
            rotate_left
            ·simp only [Act.put, List.setIfInBounds_toArray, List.set_cons_zero, List.set_cons_succ, i64_w, i32_w]
             rfl
            refine pure_ (i := 3) (N := some 75) (v := ?_) (a' := ?_) #[true, false, false, true, false, false, false, false, false, false, false, false, false, false, false, false, false] rfl rfl (any_of HT_.out (by kernel_rfl)) (fun _ _ _ h => h) (Or.inl ⟨by rfl, ?_⟩) ?_ ?_
            rotate_left
            ·intro w'
             go_simp
             with_reducible rfl
            rotate_left
            ·simp only [Act.put, List.setIfInBounds_toArray, List.set_cons_zero, List.set_cons_succ, i64_w, i32_w]
             rfl
            refine pure_ (i := 4) (N := some 76) (v := ?_) (a' := ?_) #[true, false, false, true, true, false, false, false, false, false, false, false, false, false, false, false, false] rfl rfl (any_of HT_.out (by kernel_rfl)) (fun _ _ _ h => h) (Or.inl ⟨by rfl, ?_⟩) ?_ ?_
            rotate_left
            ·intro w'
             go_simp
             with_reducible rfl
            rotate_left
            ·simp only [Act.put, List.setIfInBounds_toArray, List.set_cons_zero, List.set_cons_succ, i64_w, i32_w]
             rfl
            refine pure_ (i := 5) (N := some 77) (v := ?_) (a' := ?_) #[true, false, false, true, true, true, false, false, false, false, false, false, false, false, false, false, false] rfl rfl (any_of HT_.out (by kernel_rfl)) (fun _ _ _ h => h) (Or.inl ⟨by rfl, ?_⟩) ?_ ?_
            rotate_left
            ·intro w'
             go_simp
             with_reducible rfl
            rotate_left
            ·simp only [Act.put, List.setIfInBounds_toArray, List.set_cons_zero, List.set_cons_succ, i64_w, i32_w]
             rfl
            refine pure_ (i := 6) (N := some 78) (v := ?_) (a' := ?_) #[true, false, false, true, true, true, true, false, false, false, false, false, false, false, false, false, false] rfl rfl (any_of HT_.out (by kernel_rfl)) (fun _ _ _ h => h) (Or.inl ⟨by rfl, ?_⟩) ?_ ?_
            rotate_left
            ·intro w'
             go_simp
             with_reducible rfl
            rotate_left
            ·simp only [Act.put, List.setIfInBounds_toArray, List.set_cons_zero, List.set_cons_succ, i64_w, i32_w]
             rfl
            refine pure_ (i := 11) (N := some 83) (v := ?_) (a' := ?_) #[true, false, false, true, true, true, true, false, false, false, false, true, false, false, false, false, false] rfl rfl (any_of HT_.out (by kernel_rfl)) (fun _ _ _ h => h) (Or.inl ⟨by rfl, ?_⟩) ?_ ?_
            rotate_left
            ·intro w'
             go_simp
             with_reducible rfl
            rotate_left
            ·simp only [Act.put, List.setIfInBounds_toArray, List.set_cons_zero, List.set_cons_succ, i64_w, i32_w]
             rfl
            refine take_ (i := 1) (N := some 73) (v := ?_) (a' := ?_) #[true, true, false, true, true, true, true, false, false, false, false, true, false, false, false, false, false] rfl rfl (take_ofW HT_.out HW_.out (by kernel_rfl)) (fun _ _ _ h => h) (Or.inl ⟨by rfl, ?_⟩) hHeld ?_ ?_
            rotate_left
            ·rintro w' ⟨s0, s1, s2, s3, s4, s5⟩
             go_simp
             with_reducible rfl
            rotate_left
            ·simp only [Act.put, List.setIfInBounds_toArray, List.set_cons_zero, List.set_cons_succ, i64_w, i32_w]
             rfl
            refine take_ (i := 7) (N := some 79) (v := ?_) (a' := ?_) #[true, true, false, true, true, true, true, true, false, false, false, true, false, false, false, false, false] rfl rfl (take_ofW HT_.out HW_.out (by kernel_rfl)) (fun _ _ _ h => h) (Or.inl ⟨by rfl, ?_⟩) hHeld ?_ ?_
            rotate_left
            ·rintro w' ⟨s0, s1, s2, s3, s4, s5⟩
             go_simp
             with_reducible rfl
            rotate_left
            ·simp only [Act.put, List.setIfInBounds_toArray, List.set_cons_zero, List.set_cons_succ, i64_w, i32_w]
             rfl
            refine take_ (i := 12) (N := some 84) (v := ?_) (a' := ?_) #[true, true, false, true, true, true, true, true, false, false, false, true, true, false, false, false, false] rfl rfl (take_ofW HT_.out HW_.out (by kernel_rfl)) (fun _ _ _ h => h) (Or.inl ⟨by rfl, ?_⟩) hHeld ?_ ?_
            rotate_left
            ·rintro w' ⟨s0, s1, s2, s3, s4, s5⟩
             go_simp
             with_reducible rfl
            rotate_left
            ·simp only [Act.put, List.setIfInBounds_toArray, List.set_cons_zero, List.set_cons_succ, i64_w, i32_w]
             rfl
            refine one_ (i := 2) (N := some 74) #[true, true, true, true, true, true, true, true, false, false, false, true, true, false, false, false, false] rfl rfl (one_of HT_.out (by kernel_rfl)) (by decide) (fun K hK => ?_)
            refine goes_ Tryd.func25 (by kernel_rfl) rfl #[.agg #[.int .i64 ((rd_T35 l0 (rd t165 x8_2)).f0), .int .i64 ((rd_T35 l0 (rd t165 x8_2)).f1), .string ((rd_T35 l0 (rd t165 x8_2)).f2), .string ((rd_T35 l0 (rd t165 x8_2)).f3), .slice A174_4 ((rd_T35 l0 (rd t165 x8_2)).f4).length c174_4]] (by rfl) rfl rfl y14_ ?_
            with_reducible refine (boltingref08_tag.calls kj18 ((rd_T35 l0 (rd t165 x8_2)).f0) ((rd_T35 l0 (rd t165 x8_2)).f1) ((rd_T35 l0 (rd t165 x8_2)).f2) ((rd_T35 l0 (rd t165 x8_2)).f3) _ _ ((rd_T35 l0 (rd t165 x8_2)).f4) t182 _ ?side1 ?side2 A50.out).mono ?_
            (case side1 => repeat (first | exact (Kd.C_below HR174_4.out HB.out) | (with_reducible refine Kd.C_alloc ?_ _) | (with_reducible refine Kd.C_drewN ?_ _) | (with_reducible refine Kd.C_drew ?_)))
            (case side2 => exact HC174_4.out)
            rintro e w64 ⟨rfl, hb⟩
            have HS5_ := (hb.cell (World.block_lt_of_cell? _ _ (hHeld.2.2.2.2.2))).trans (hHeld.2.2.2.2.2)
            refine ⟨_, rfl, ?_⟩
            have n0_ := Aside0.mk (Kd.R_below (y7_ HO_6.out) hb)
            have n1_ := Aside0.mk (Kd.R_below (y7_ HO179.out) hb)
            have n2_ := Aside0.mk (blk_below (g := gb175) (o := .cells #[.int .i64 ((rd_T35 l0 (rd t165 x8_2)).f0), .int .i64 ((rd_T35 l0 (rd t165 x8_2)).f1), .string ((rd_T35 l0 (rd t165 x8_2)).f2), .string ((rd_T35 l0 (rd t165 x8_2)).f3), .slice A174_4 ((rd_T35 l0 (rd t165 x8_2)).f4).length c174_4] 35 (0, 0)) (y10_ BK175.out) hb)
            have n3_ := Aside0.mk (below_step (y17_ GE175.out) hb)
            clear HO_6
            clear HO179
            clear BK175
            clear HB
            have HO_6 := n0_
            have HO179 := n1_
            have BK175 := n2_
            have HB := n3_
            clear n0_ n1_ n2_ n3_
            (try clear hb)
            (try clear hb2)
            (try clear hk)
            (try clear hi)
            refine hK.out _ _ ⟨(blk_cell BK175.out 0).trans rfl, (blk_cell BK175.out 1).trans rfl, (blk_cell BK175.out 2).trans rfl, (blk_cell BK175.out 3).trans rfl, (blk_cell BK175.out 4).trans rfl, HS5_⟩ (fun hHeld => ?_)
            clear hK K
            refine norm_ (a' := ?_) ?_ ?_
            rotate_left
            ·show Act.put _ (some 74) _ = _
             simp only [Act.put, List.setIfInBounds_toArray, List.set_cons_zero, List.set_cons_succ, i64_w, i32_w]
             rfl
            refine one_ (i := 8) (N := some 80) #[true, true, true, true, true, true, true, true, true, false, false, true, true, false, false, false, false] rfl rfl (one_of HT_.out (by kernel_rfl)) (by decide) (fun K hK => ?_)
            refine goes_ Tryd.func10 (by kernel_rfl) rfl #[.slice (some ad174) l0.length c0, .int .i64 (rd t165 x8_2)] (by rfl) rfl rfl y14_ ?_
            with_reducible refine (ih kj18 (by have := HJ3.out; have := HK2.out; have := HJ18.out; omega) _ _ l0 (rd t165 x8_2) t184 _ ?side1 ?side2 A53.out).mono ?_
            (case side1 => repeat (first | exact (Kd.C_below HR0.out HB.out) | (with_reducible refine Kd.C_alloc ?_ _) | (with_reducible refine Kd.C_drewN ?_ _) | (with_reducible refine Kd.C_drew ?_)))
            (case side2 => exact HC0.out)
            rintro e w65 ⟨rfl, hb⟩
            have HS5_ := (hb.cell (World.block_lt_of_cell? _ _ (hHeld.2.2.2.2.2))).trans (hHeld.2.2.2.2.2)
            refine ⟨_, rfl, ?_⟩
            have n0_ := Aside0.mk (Kd.R_below (y7_ HO_6.out) hb)
            have n1_ := Aside0.mk (Kd.R_below (y7_ HO179.out) hb)
            have n2_ := Aside0.mk (blk_below (g := gb175) (o := .cells #[.int .i64 ((rd_T35 l0 (rd t165 x8_2)).f0), .int .i64 ((rd_T35 l0 (rd t165 x8_2)).f1), .string ((rd_T35 l0 (rd t165 x8_2)).f2), .string ((rd_T35 l0 (rd t165 x8_2)).f3), .slice A174_4 ((rd_T35 l0 (rd t165 x8_2)).f4).length c174_4] 35 (0, 0)) (y10_ BK175.out) hb)
            have n3_ := Aside0.mk (below_step (y17_ GE175.out) hb)
            clear HO_6
            clear HO179
            clear BK175
            clear HB
            have HO_6 := n0_
            have HO179 := n1_
            have BK175 := n2_
            have HB := n3_
            clear n0_ n1_ n2_ n3_
            (try clear hb)
            (try clear hb2)
            (try clear hk)
            (try clear hi)
            refine hK.out _ _ ⟨(blk_cell BK175.out 0).trans rfl, (blk_cell BK175.out 1).trans rfl, (blk_cell BK175.out 2).trans rfl, (blk_cell BK175.out 3).trans rfl, (blk_cell BK175.out 4).trans rfl, HS5_⟩ (fun hHeld => ?_)
            clear hK K
            refine norm_ (a' := ?_) ?_ ?_
            rotate_left
            ·show Act.put _ (some 80) _ = _
             simp only [Act.put, List.setIfInBounds_toArray, List.set_cons_zero, List.set_cons_succ, i64_w, i32_w]
             rfl
            refine pure_ (i := 9) (N := some 81) (v := ?_) (a' := ?_) #[true, true, true, true, true, true, true, true, true, true, false, true, true, false, false, false, false] rfl rfl (any_of HT_.out (by kernel_rfl)) (fun _ _ _ h => h) (Or.inl ⟨by rfl, ?_⟩) ?_ ?_
            rotate_left
            ·intro w'
             go_simp
             with_reducible rfl
            rotate_left
            ·simp only [Act.put, List.setIfInBounds_toArray, List.set_cons_zero, List.set_cons_succ, i64_w, i32_w]
             rfl
            refine pure_ (i := 10) (N := some 82) (v := ?_) (a' := ?_) #[true, true, true, true, true, true, true, true, true, true, true, true, true, false, false, false, false] rfl rfl (any_of HT_.out (by kernel_rfl)) (fun _ _ _ h => h) (Or.inl ⟨by rfl, ?_⟩) ?_ ?_
            rotate_left
            ·intro w'
             go_simp
             with_reducible rfl
            rotate_left
            ·simp only [Act.put, List.setIfInBounds_toArray, List.set_cons_zero, List.set_cons_succ, i64_w, i32_w]
             rfl
            refine pure_ (i := 13) (N := some 85) (v := ?_) (a' := ?_) #[true, true, true, true, true, true, true, true, true, true, true, true, true, true, false, false, false] rfl rfl (any_of HT_.out (by kernel_rfl)) (fun _ _ _ h => h) (Or.inl ⟨by rfl, ?_⟩) ?_ ?_
            rotate_left
            ·intro w'
             go_simp
             with_reducible rfl
            rotate_left
            ·simp only [Act.put, List.setIfInBounds_toArray, List.set_cons_zero, List.set_cons_succ, i64_w, i32_w]
             rfl
            refine pure_ (i := 14) (N := some 86) (v := ?_) (a' := ?_) #[true, true, true, true, true, true, true, true, true, true, true, true, true, true, true, false, false] rfl rfl (any_of HT_.out (by kernel_rfl)) (fun _ _ _ h => h) (Or.inl ⟨by rfl, ?_⟩) ?_ ?_
            rotate_left
            ·intro w'
             go_simp
             with_reducible rfl
            rotate_left
            ·simp only [Act.put, List.setIfInBounds_toArray, List.set_cons_zero, List.set_cons_succ, i64_w, i32_w]
             rfl
            refine pure_ (i := 15) (N := some 87) (v := ?_) (a' := ?_) #[true, true, true, true, true, true, true, true, true, true, true, true, true, true, true, true, false] rfl rfl (any_of HT_.out (by kernel_rfl)) (fun _ _ _ h => h) (Or.inl ⟨by rfl, ?_⟩) ?_ ?_
            rotate_left
            ·intro w'
             go_simp
             with_reducible rfl
            rotate_left
            ·simp only [Act.put, List.setIfInBounds_toArray, List.set_cons_zero, List.set_cons_succ, i64_w, i32_w]
             rfl
            refine pure_ (i := 16) (N := some 5) (v := ?_) (a' := ?_) #[true, true, true, true, true, true, true, true, true, true, true, true, true, true, true, true, true] rfl rfl (any_of HT_.out (by kernel_rfl)) (fun _ _ _ h => h) (Or.inl ⟨by rfl, ?_⟩) ?_ ?_
            rotate_left
            ·intro w'
             go_simp
             with_reducible rfl
            rotate_left
            ·simp only [Act.put, List.setIfInBounds_toArray, List.set_cons_zero, List.set_cons_succ, i64_w, i32_w]
             rfl
            refine done_ (done_of HT_.out (by kernel_rfl)) ?_
            try go_wp2
            go_roundg kj18
            case measure => have := HJ3.out; have := HK2.out; have := HJ18.out; omega
            case rel => exact ⟨(x5_2 ++ ((((t182 ++ t184) ++ (⟨#[60, 47]⟩ : ByteArray)) ++ ((rd_T35 l0 (rd t165 x8_2)).f2)) ++ (⟨#[62]⟩ : ByteArray))), (wrap64 (x8_2 + 1)), y4_, y4_, H', ⟨by have := HJ3.out; have := HK2.out; have := HJ18.out; omega⟩, ⟨by (with_reducible repeat (first | apply Kd.R_alloc | apply Kd.R_drewN | apply Kd.R_drew)); exact HO_6.out⟩, ⟨(y17_ GE175.out)⟩⟩
     ·rw [if_neg c15] at H
      have c15b0 : decide (x8_2 < (t165.length : Int)) = false := decide_eq_false c15
      clear c15
      obtain rfl := Option.some.inj H
      obtain ⟨Ao66, co66, eo66⟩ := Kd.R_slice HO_6.out
      subst eo66
      go_wp2
      go_ret
      exact ⟨y11_, y13_⟩
end Go.Proofs.YtpnhjipaeggcpaaDoor.X
end
section
namespace Go.Proofs.YtpnhjipaeggcpaaDoor.X
open Go.RowKit Go.Proofs.YtpnhjipaeggcpaaDoorW.PrintWords Go.Proofs.YtpnhjipaeggcpaaDoorW.PrintLast Go.Proofs.YtpnhjipaeggcpaaDoorW.PrintMore
attribute [local go_sem] max2_int min2_int max_two min_two max_three min_three max_four min_four
def boltingref08_Inside.f (k : Nat) (l0 : List (S35)) (a1 : Int) : Option (ByteArray) := if a1 < (-1) then (some (⟨#[]⟩ : ByteArray)) else (if a1 ≥ (l0.length : Int) then (some (⟨#[]⟩ : ByteArray)) else (if a1 ≥ 0 then (if 0 ≤ a1 then (if a1 < (l0.length : Int) then (if ((rd_T35 l0 a1).f1) = 0 then ((boltingref05_Void.f).bind fun t196 => ((boltingref02_Has.f k t196 ((rd_T35 l0 a1).f2)).bind fun t200 => (if t200 = true then (some (⟨#[]⟩ : ByteArray)) else ((boltingref08_Within.f k l0 a1).bind fun t201 => (some t201))))) else (some (⟨#[]⟩ : ByteArray))) else (none)) else (none)) else ((boltingref08_Within.f k l0 a1).bind fun t202 => (some t202))))
def boltingref08_Inside.T1 : Bool × List (List Nat × List Nat) := (true, [([], []), ([0], [0]), ([1], [1]), ([2], [2]), ([2], [2]), ([4, 2], [2, 4]), ([3, 5, 2], [2, 3, 5]), ([2, 6], [2, 6]), ([7, 2], [7]), ([8], [8]), ([9, 8], [8, 9]), ([10, 8, 8], [8, 10]), ([11], [11]), ([11], [11]), ([12, 13, 11], [11, 12, 13]), ([14, 11], [11, 14]), ([15, 11], [11, 15]), ([16, 11], [11, 16]), ([17, 11, 11], [11, 17]), ([18, 18], [18]), ([18], [18]), ([18], [18]), ([20, 21, 18], [18, 20, 21]), ([22, 18], [18, 22]), ([23, 18], [18, 23]), ([19, 24, 19, 18], [18, 19, 24]), ([18, 25, 11], [11, 18, 25]), ([11, 26, 8], [8, 11, 26]), ([8, 27], [8, 27])])
def boltingref08_Inside.B1 : List Nat := [0, 1, 3, 7, 7, 23, 63, 127, 255, 511, 1023, 2047, 4095, 4095, 16383, 32767, 65535, 131071, 262143, 524287, 524287, 524287, 3670015, 7864319, 16252927, 33554431, 67108863, 134217727, 268435455]
theorem boltingref08_Inside.tab1 : rtab .any (opsOf Tryd.f12 1) = boltingref08_Inside.T1 := by kernel_rfl
theorem boltingref08_Inside.bits1 : waitsOk boltingref08_Inside.T1.2 boltingref08_Inside.B1 = true := by kernel_rfl
set_option maxHeartbeats 8000000 in
set_option maxRecDepth 100000 in
theorem boltingref08_Inside.calls (k : Nat) (A0 : Option Addr) (c0 : Nat) (l0 : List (S35)) (a1 : Int) (r : ByteArray) (w : World) (hr0 : Kd.C k35 w A0 l0.length l0) (hc0 : l0.length ≤ c0) (h : boltingref08_Inside.f k l0 a1 = some r) :
  Calls Tryd.prog 12 #[.slice A0 l0.length c0, .int .i64 a1] w fun e w' => e = .returned (.string r) ∧ Below w.heap.size w w' := by
 have HR0 := Aside0.mk hr0
 have HC0 := Aside0.mk hc0
 clear hr0 hc0
 have HB := Aside0.mk (Below.refl w.heap.size w)
 have H : (if a1 < (-1) then (some (⟨#[]⟩ : ByteArray)) else (if a1 ≥ (l0.length : Int) then (some (⟨#[]⟩ : ByteArray)) else (if a1 ≥ 0 then (if 0 ≤ a1 then (if a1 < (l0.length : Int) then (if ((rd_T35 l0 a1).f1) = 0 then ((boltingref05_Void.f).bind fun t196 => ((boltingref02_Has.f k t196 ((rd_T35 l0 a1).f2)).bind fun t200 => (if t200 = true then (some (⟨#[]⟩ : ByteArray)) else ((boltingref08_Within.f k l0 a1).bind fun t201 => (some t201))))) else (some (⟨#[]⟩ : ByteArray))) else (none)) else (none)) else ((boltingref08_Within.f k l0 a1).bind fun t202 => (some t202))))) = some r := h
 clear h
 by_cases c3 : a1 < (-1)
 ·rw [if_pos c3] at H
  have c3b0 : decide (a1 < (-1)) = true := decide_eq_true c3
  clear c3
  obtain rfl := Option.some.inj H
  go_enter Tryd.func12, Tryd.ntmps12
  try go_wp2
  have n0_ := Aside0.mk (below_drew1 HB.out)
  clear HB
  have HB := n0_
  clear n0_
  refine start_ (n := 29) (S := fun w' => True) (ds := []) #[false, false, false, false, false, false, false, false, false, false, false, false, false, false, false, false, false, false, false, false, false, false, false, false, false, false, false, false, false] (by kernel_rfl) rfl rfl trivial (fun hHeld => ?_); refine with_tabW boltingref08_Inside.tab1 boltingref08_Inside.bits1 (fun HT_ HW_ => ?_)
  generalize w.drew = w4 at HB hHeld ⊢
  refine pure_ (i := 0) (N := some 5) (v := ?_) (a' := ?_) #[true, false, false, false, false, false, false, false, false, false, false, false, false, false, false, false, false, false, false, false, false, false, false, false, false, false, false, false, false] rfl rfl (any_of HT_.out (by kernel_rfl)) (fun _ _ _ h => h) (Or.inl ⟨by rfl, ?_⟩) ?_ ?_
  rotate_left
  ·intro w'
   go_simp
   with_reducible rfl
  rotate_left
  ·simp only [Act.put, List.setIfInBounds_toArray, List.set_cons_zero, List.set_cons_succ, i64_w, i32_w]
   rfl
  refine pure_ (i := 1) (N := some 6) (v := ?_) (a' := ?_) #[true, true, false, false, false, false, false, false, false, false, false, false, false, false, false, false, false, false, false, false, false, false, false, false, false, false, false, false, false] rfl rfl (any_of HT_.out (by kernel_rfl)) (fun _ _ _ h => h) (Or.inl ⟨by rfl, ?_⟩) ?_ ?_
  rotate_left
  ·intro w'
   go_simp
   with_reducible rfl
  rotate_left
  ·simp only [Act.put, List.setIfInBounds_toArray, List.set_cons_zero, List.set_cons_succ, i64_w, i32_w]
   rfl
  refine pure_ (i := 2) (N := some 7) (v := ?_) (a' := ?_) #[true, true, true, false, false, false, false, false, false, false, false, false, false, false, false, false, false, false, false, false, false, false, false, false, false, false, false, false, false] rfl rfl (any_of HT_.out (by kernel_rfl)) (fun _ _ _ h => h) (Or.inl ⟨by rfl, ?_⟩) ?_ ?_
  rotate_left
  ·intro w'
   go_simp
   with_reducible rfl
  rotate_left
  ·simp only [Act.put, List.setIfInBounds_toArray, List.set_cons_zero, List.set_cons_succ, i64_w, i32_w]
   rfl
  refine pure_ (i := 3) (N := some 8) (v := undef) (a' := ?_) #[true, true, true, true, false, false, false, false, false, false, false, false, false, false, false, false, false, false, false, false, false, false, false, false, false, false, false, false, false] rfl rfl (any_of HT_.out (by kernel_rfl)) (fun _ _ _ h => h) (Or.inr ⟨by rfl, rfl⟩) ?_ ?_
  rotate_left
  ·simp only [Act.put, List.setIfInBounds_toArray, List.set_cons_zero, List.set_cons_succ, i64_w, i32_w]
   rfl
  refine pure_ (i := 4) (N := some 9) (v := undef) (a' := ?_) #[true, true, true, true, true, false, false, false, false, false, false, false, false, false, false, false, false, false, false, false, false, false, false, false, false, false, false, false, false] rfl rfl (any_of HT_.out (by kernel_rfl)) (fun _ _ _ h => h) (Or.inr ⟨by rfl, rfl⟩) ?_ ?_
  rotate_left
  ·simp only [Act.put, List.setIfInBounds_toArray, List.set_cons_zero, List.set_cons_succ, i64_w, i32_w]
   rfl
  refine pure_ (i := 5) (N := some 10) (v := undef) (a' := ?_) #[true, true, true, true, true, true, false, false, false, false, false, false, false, false, false, false, false, false, false, false, false, false, false, false, false, false, false, false, false] rfl rfl (any_of HT_.out (by kernel_rfl)) (fun _ _ _ h => h) (Or.inr ⟨by rfl, rfl⟩) ?_ ?_
  rotate_left
  ·simp only [Act.put, List.setIfInBounds_toArray, List.set_cons_zero, List.set_cons_succ, i64_w, i32_w]
   rfl
  refine pure_ (i := 6) (N := some 11) (v := undef) (a' := ?_) #[true, true, true, true, true, true, true, false, false, false, false, false, false, false, false, false, false, false, false, false, false, false, false, false, false, false, false, false, false] rfl rfl (any_of HT_.out (by kernel_rfl)) (fun _ _ _ h => h) (Or.inr ⟨by rfl, rfl⟩) ?_ ?_
  rotate_left
  ·simp only [Act.put, List.setIfInBounds_toArray, List.set_cons_zero, List.set_cons_succ, i64_w, i32_w]
   rfl
  refine pure_ (i := 7) (N := some 12) (v := ?_) (a' := ?_) #[true, true, true, true, true, true, true, true, false, false, false, false, false, false, false, false, false, false, false, false, false, false, false, false, false, false, false, false, false] rfl rfl (any_of HT_.out (by kernel_rfl)) (fun _ _ _ h => h) (Or.inl ⟨by rfl, ?_⟩) ?_ ?_
  rotate_left
  ·intro w'
   go_simp
   with_reducible rfl
  rotate_left
  ·simp only [Act.put, List.setIfInBounds_toArray, List.set_cons_zero, List.set_cons_succ, i64_w, i32_w]
   rfl
  refine pure_ (i := 8) (N := some 13) (v := ?_) (a' := ?_) #[true, true, true, true, true, true, true, true, true, false, false, false, false, false, false, false, false, false, false, false, false, false, false, false, false, false, false, false, false] rfl rfl (any_of HT_.out (by kernel_rfl)) (fun _ _ _ h => h) (Or.inl ⟨by rfl, ?_⟩) ?_ ?_
  rotate_left
  ·intro w'
   go_simp
   with_reducible rfl
  rotate_left
  ·simp only [Act.put, List.setIfInBounds_toArray, List.set_cons_zero, List.set_cons_succ, i64_w, i32_w]
   rfl
  refine pure_ (i := 9) (N := some 14) (v := undef) (a' := ?_) #[true, true, true, true, true, true, true, true, true, true, false, false, false, false, false, false, false, false, false, false, false, false, false, false, false, false, false, false, false] rfl rfl (any_of HT_.out (by kernel_rfl)) (fun _ _ _ h => h) (Or.inr ⟨by rfl, rfl⟩) ?_ ?_
  rotate_left
  ·simp only [Act.put, List.setIfInBounds_toArray, List.set_cons_zero, List.set_cons_succ, i64_w, i32_w]
   rfl
  refine pure_ (i := 10) (N := some 15) (v := undef) (a' := ?_) #[true, true, true, true, true, true, true, true, true, true, true, false, false, false, false, false, false, false, false, false, false, false, false, false, false, false, false, false, false] rfl rfl (any_of HT_.out (by kernel_rfl)) (fun _ _ _ h => h) (Or.inr ⟨by rfl, rfl⟩) ?_ ?_
  rotate_left
  ·simp only [Act.put, List.setIfInBounds_toArray, List.set_cons_zero, List.set_cons_succ, i64_w, i32_w]
   rfl
  refine pure_ (i := 11) (N := some 16) (v := undef) (a' := ?_) #[true, true, true, true, true, true, true, true, true, true, true, true, false, false, false, false, false, false, false, false, false, false, false, false, false, false, false, false, false] rfl rfl (any_of HT_.out (by kernel_rfl)) (fun _ _ _ h => h) (Or.inr ⟨by rfl, rfl⟩) ?_ ?_
  rotate_left
  ·simp only [Act.put, List.setIfInBounds_toArray, List.set_cons_zero, List.set_cons_succ, i64_w, i32_w]
   rfl
  refine pure_ (i := 12) (N := some 17) (v := undef) (a' := ?_) #[true, true, true, true, true, true, true, true, true, true, true, true, true, false, false, false, false, false, false, false, false, false, false, false, false, false, false, false, false] rfl rfl (any_of HT_.out (by kernel_rfl)) (fun _ _ _ h => h) (Or.inr ⟨by rfl, rfl⟩) ?_ ?_
  rotate_left
  ·simp only [Act.put, List.setIfInBounds_toArray, List.set_cons_zero, List.set_cons_succ, i64_w, i32_w]
   rfl
  refine pure_ (i := 13) (N := some 18) (v := undef) (a' := ?_) #[true, true, true, true, true, true, true, true, true, true, true, true, true, true, false, false, false, false, false, false, false, false, false, false, false, false, false, false, false] rfl rfl (any_of HT_.out (by kernel_rfl)) (fun _ _ _ h => h) (Or.inr ⟨by rfl, rfl⟩) ?_ ?_
  rotate_left
  ·simp only [Act.put, List.setIfInBounds_toArray, List.set_cons_zero, List.set_cons_succ, i64_w, i32_w]
   rfl
  refine pure_ (i := 14) (N := some 19) (v := undef) (a' := ?_) #[true, true, true, true, true, true, true, true, true, true, true, true, true, true, true, false, false, false, false, false, false, false, false, false, false, false, false, false, false] rfl rfl (any_of HT_.out (by kernel_rfl)) (fun _ _ _ h => h) (Or.inr ⟨by rfl, rfl⟩) ?_ ?_
  rotate_left
  ·simp only [Act.put, List.setIfInBounds_toArray, List.set_cons_zero, List.set_cons_succ, i64_w, i32_w]
   rfl
  refine pure_ (i := 15) (N := some 20) (v := undef) (a' := ?_) #[true, true, true, true, true, true, true, true, true, true, true, true, true, true, true, true, false, false, false, false, false, false, false, false, false, false, false, false, false] rfl rfl (any_of HT_.out (by kernel_rfl)) (fun _ _ _ h => h) (Or.inr ⟨by rfl, rfl⟩) ?_ ?_
  rotate_left
  ·simp only [Act.put, List.setIfInBounds_toArray, List.set_cons_zero, List.set_cons_succ, i64_w, i32_w]
   rfl
  refine pure_ (i := 16) (N := some 21) (v := undef) (a' := ?_) #[true, true, true, true, true, true, true, true, true, true, true, true, true, true, true, true, true, false, false, false, false, false, false, false, false, false, false, false, false] rfl rfl (any_of HT_.out (by kernel_rfl)) (fun _ _ _ h => h) (Or.inr ⟨by rfl, rfl⟩) ?_ ?_
  rotate_left
  ·simp only [Act.put, List.setIfInBounds_toArray, List.set_cons_zero, List.set_cons_succ, i64_w, i32_w]
   rfl
  refine pure_ (i := 17) (N := some 22) (v := undef) (a' := ?_) #[true, true, true, true, true, true, true, true, true, true, true, true, true, true, true, true, true, true, false, false, false, false, false, false, false, false, false, false, false] rfl rfl (any_of HT_.out (by kernel_rfl)) (fun _ _ _ h => h) (Or.inr ⟨by rfl, rfl⟩) ?_ ?_
  rotate_left
  ·simp only [Act.put, List.setIfInBounds_toArray, List.set_cons_zero, List.set_cons_succ, i64_w, i32_w]
   rfl
  refine pure_ (i := 18) (N := some 23) (v := undef) (a' := ?_) #[true, true, true, true, true, true, true, true, true, true, true, true, true, true, true, true, true, true, true, false, false, false, false, false, false, false, false, false, false] rfl rfl (any_of HT_.out (by kernel_rfl)) (fun _ _ _ h => h) (Or.inr ⟨by rfl, rfl⟩) ?_ ?_
  rotate_left
  ·simp only [Act.put, List.setIfInBounds_toArray, List.set_cons_zero, List.set_cons_succ, i64_w, i32_w]
   rfl
  refine pure_ (i := 19) (N := some 24) (v := undef) (a' := ?_) #[true, true, true, true, true, true, true, true, true, true, true, true, true, true, true, true, true, true, true, true, false, false, false, false, false, false, false, false, false] rfl rfl (any_of HT_.out (by kernel_rfl)) (fun _ _ _ h => h) (Or.inr ⟨by rfl, rfl⟩) ?_ ?_
  rotate_left
  ·simp only [Act.put, List.setIfInBounds_toArray, List.set_cons_zero, List.set_cons_succ, i64_w, i32_w]
   rfl
  refine pure_ (i := 20) (N := some 25) (v := undef) (a' := ?_) #[true, true, true, true, true, true, true, true, true, true, true, true, true, true, true, true, true, true, true, true, true, false, false, false, false, false, false, false, false] rfl rfl (any_of HT_.out (by kernel_rfl)) (fun _ _ _ h => h) (Or.inr ⟨by rfl, rfl⟩) ?_ ?_
  rotate_left
  ·simp only [Act.put, List.setIfInBounds_toArray, List.set_cons_zero, List.set_cons_succ, i64_w, i32_w]
   rfl
  refine pure_ (i := 21) (N := some 26) (v := undef) (a' := ?_) #[true, true, true, true, true, true, true, true, true, true, true, true, true, true, true, true, true, true, true, true, true, true, false, false, false, false, false, false, false] rfl rfl (any_of HT_.out (by kernel_rfl)) (fun _ _ _ h => h) (Or.inr ⟨by rfl, rfl⟩) ?_ ?_
  rotate_left
  ·simp only [Act.put, List.setIfInBounds_toArray, List.set_cons_zero, List.set_cons_succ, i64_w, i32_w]
   rfl
  refine pure_ (i := 22) (N := some 27) (v := undef) (a' := ?_) #[true, true, true, true, true, true, true, true, true, true, true, true, true, true, true, true, true, true, true, true, true, true, true, false, false, false, false, false, false] rfl rfl (any_of HT_.out (by kernel_rfl)) (fun _ _ _ h => h) (Or.inr ⟨by rfl, rfl⟩) ?_ ?_
  rotate_left
  ·simp only [Act.put, List.setIfInBounds_toArray, List.set_cons_zero, List.set_cons_succ, i64_w, i32_w]
   rfl
  refine pure_ (i := 23) (N := some 28) (v := undef) (a' := ?_) #[true, true, true, true, true, true, true, true, true, true, true, true, true, true, true, true, true, true, true, true, true, true, true, true, false, false, false, false, false] rfl rfl (any_of HT_.out (by kernel_rfl)) (fun _ _ _ h => h) (Or.inr ⟨by rfl, rfl⟩) ?_ ?_
  rotate_left
  ·simp only [Act.put, List.setIfInBounds_toArray, List.set_cons_zero, List.set_cons_succ, i64_w, i32_w]
   rfl
  refine pure_ (i := 24) (N := some 29) (v := undef) (a' := ?_) #[true, true, true, true, true, true, true, true, true, true, true, true, true, true, true, true, true, true, true, true, true, true, true, true, true, false, false, false, false] rfl rfl (any_of HT_.out (by kernel_rfl)) (fun _ _ _ h => h) (Or.inr ⟨by rfl, rfl⟩) ?_ ?_
  rotate_left
  ·simp only [Act.put, List.setIfInBounds_toArray, List.set_cons_zero, List.set_cons_succ, i64_w, i32_w]
   rfl
  refine pure_ (i := 25) (N := some 30) (v := undef) (a' := ?_) #[true, true, true, true, true, true, true, true, true, true, true, true, true, true, true, true, true, true, true, true, true, true, true, true, true, true, false, false, false] rfl rfl (any_of HT_.out (by kernel_rfl)) (fun _ _ _ h => h) (Or.inr ⟨by rfl, rfl⟩) ?_ ?_
  rotate_left
  ·simp only [Act.put, List.setIfInBounds_toArray, List.set_cons_zero, List.set_cons_succ, i64_w, i32_w]
   rfl
  refine pure_ (i := 26) (N := some 31) (v := undef) (a' := ?_) #[true, true, true, true, true, true, true, true, true, true, true, true, true, true, true, true, true, true, true, true, true, true, true, true, true, true, true, false, false] rfl rfl (any_of HT_.out (by kernel_rfl)) (fun _ _ _ h => h) (Or.inr ⟨by rfl, rfl⟩) ?_ ?_
  rotate_left
  ·simp only [Act.put, List.setIfInBounds_toArray, List.set_cons_zero, List.set_cons_succ, i64_w, i32_w]
   rfl
  refine pure_ (i := 27) (N := some 32) (v := undef) (a' := ?_) #[true, true, true, true, true, true, true, true, true, true, true, true, true, true, true, true, true, true, true, true, true, true, true, true, true, true, true, true, false] rfl rfl (any_of HT_.out (by kernel_rfl)) (fun _ _ _ h => h) (Or.inr ⟨by rfl, rfl⟩) ?_ ?_
  rotate_left
  ·simp only [Act.put, List.setIfInBounds_toArray, List.set_cons_zero, List.set_cons_succ, i64_w, i32_w]
   rfl
  refine pure_ (i := 28) (N := some 33) (v := ?_) (a' := ?_) #[true, true, true, true, true, true, true, true, true, true, true, true, true, true, true, true, true, true, true, true, true, true, true, true, true, true, true, true, true] rfl rfl (any_of HT_.out (by kernel_rfl)) (fun _ _ _ h => h) (Or.inl ⟨by rfl, ?_⟩) ?_ ?_
  rotate_left
  ·intro w'
   go_simp
   with_reducible rfl
  rotate_left
  ·simp only [Act.put, List.setIfInBounds_toArray, List.set_cons_zero, List.set_cons_succ, i64_w, i32_w]
   rfl
  refine done_ (done_of HT_.out (by kernel_rfl)) ?_
  try go_wp2
  go_ret
  exact ⟨y11_, y13_⟩
 ·rw [if_neg c3] at H
  have c3b0 : decide (a1 < (-1)) = false := decide_eq_false c3
  clear c3
  by_cases c5 : a1 ≥ (l0.length : Int)
  ·rw [if_pos c5] at H
   have c5b0 : decide ((l0.length : Int) ≤ a1) = true := decide_eq_true c5
   clear c5
   obtain rfl := Option.some.inj H
   go_enter Tryd.func12, Tryd.ntmps12
   try go_wp2
   have n0_ := Aside0.mk (below_drew1 HB.out)
   clear HB
   have HB := n0_
   clear n0_
   refine start_ (n := 29) (S := fun w' => True) (ds := []) #[false, false, false, false, false, false, false, false, false, false, false, false, false, false, false, false, false, false, false, false, false, false, false, false, false, false, false, false, false] (by kernel_rfl) rfl rfl trivial (fun hHeld => ?_); refine with_tabW boltingref08_Inside.tab1 boltingref08_Inside.bits1 (fun HT_ HW_ => ?_)
   generalize w.drew = w6 at HB hHeld ⊢
   refine pure_ (i := 0) (N := some 5) (v := ?_) (a' := ?_) #[true, false, false, false, false, false, false, false, false, false, false, false, false, false, false, false, false, false, false, false, false, false, false, false, false, false, false, false, false] rfl rfl (any_of HT_.out (by kernel_rfl)) (fun _ _ _ h => h) (Or.inl ⟨by rfl, ?_⟩) ?_ ?_
   rotate_left
   ·intro w'
    go_simp
    with_reducible rfl
   rotate_left
   ·simp only [Act.put, List.setIfInBounds_toArray, List.set_cons_zero, List.set_cons_succ, i64_w, i32_w]
    rfl
   refine pure_ (i := 1) (N := some 6) (v := ?_) (a' := ?_) #[true, true, false, false, false, false, false, false, false, false, false, false, false, false, false, false, false, false, false, false, false, false, false, false, false, false, false, false, false] rfl rfl (any_of HT_.out (by kernel_rfl)) (fun _ _ _ h => h) (Or.inl ⟨by rfl, ?_⟩) ?_ ?_
   rotate_left
   ·intro w'
    go_simp
    with_reducible rfl
   rotate_left
   ·simp only [Act.put, List.setIfInBounds_toArray, List.set_cons_zero, List.set_cons_succ, i64_w, i32_w]
    rfl
   refine pure_ (i := 2) (N := some 7) (v := ?_) (a' := ?_) #[true, true, true, false, false, false, false, false, false, false, false, false, false, false, false, false, false, false, false, false, false, false, false, false, false, false, false, false, false] rfl rfl (any_of HT_.out (by kernel_rfl)) (fun _ _ _ h => h) (Or.inl ⟨by rfl, ?_⟩) ?_ ?_
   rotate_left
   ·intro w'
    go_simp
    with_reducible rfl
   rotate_left
   ·simp only [Act.put, List.setIfInBounds_toArray, List.set_cons_zero, List.set_cons_succ, i64_w, i32_w]
    rfl
   refine pure_ (i := 3) (N := some 8) (v := ?_) (a' := ?_) #[true, true, true, true, false, false, false, false, false, false, false, false, false, false, false, false, false, false, false, false, false, false, false, false, false, false, false, false, false] rfl rfl (any_of HT_.out (by kernel_rfl)) (fun _ _ _ h => h) (Or.inl ⟨by rfl, ?_⟩) ?_ ?_
   rotate_left
   ·intro w'
    go_simp
    with_reducible rfl
   rotate_left
   ·simp only [Act.put, List.setIfInBounds_toArray, List.set_cons_zero, List.set_cons_succ, i64_w, i32_w]
    rfl
   refine pure_ (i := 4) (N := some 9) (v := ?_) (a' := ?_) #[true, true, true, true, true, false, false, false, false, false, false, false, false, false, false, false, false, false, false, false, false, false, false, false, false, false, false, false, false] rfl rfl (any_of HT_.out (by kernel_rfl)) (fun _ _ _ h => h) (Or.inl ⟨by rfl, ?_⟩) ?_ ?_
   rotate_left
   ·intro w'
    go_simp
    with_reducible rfl
   rotate_left
   ·simp only [Act.put, List.setIfInBounds_toArray, List.set_cons_zero, List.set_cons_succ, i64_w, i32_w]
    rfl
   refine pure_ (i := 5) (N := some 10) (v := ?_) (a' := ?_) #[true, true, true, true, true, true, false, false, false, false, false, false, false, false, false, false, false, false, false, false, false, false, false, false, false, false, false, false, false] rfl rfl (any_of HT_.out (by kernel_rfl)) (fun _ _ _ h => h) (Or.inl ⟨by rfl, ?_⟩) ?_ ?_
   rotate_left
   ·intro w'
    go_simp
    with_reducible rfl
   rotate_left
   ·simp only [Act.put, List.setIfInBounds_toArray, List.set_cons_zero, List.set_cons_succ, i64_w, i32_w]
    rfl
   refine pure_ (i := 6) (N := some 11) (v := ?_) (a' := ?_) #[true, true, true, true, true, true, true, false, false, false, false, false, false, false, false, false, false, false, false, false, false, false, false, false, false, false, false, false, false] rfl rfl (any_of HT_.out (by kernel_rfl)) (fun _ _ _ h => h) (Or.inl ⟨by rfl, ?_⟩) ?_ ?_
   rotate_left
   ·intro w'
    go_simp
    with_reducible rfl
   rotate_left
   ·simp only [Act.put, List.setIfInBounds_toArray, List.set_cons_zero, List.set_cons_succ, i64_w, i32_w]
    rfl
   refine pure_ (i := 7) (N := some 12) (v := ?_) (a' := ?_) #[true, true, true, true, true, true, true, true, false, false, false, false, false, false, false, false, false, false, false, false, false, false, false, false, false, false, false, false, false] rfl rfl (any_of HT_.out (by kernel_rfl)) (fun _ _ _ h => h) (Or.inl ⟨by rfl, ?_⟩) ?_ ?_
   rotate_left
   ·intro w'
    go_simp
    with_reducible rfl
   rotate_left
   ·simp only [Act.put, List.setIfInBounds_toArray, List.set_cons_zero, List.set_cons_succ, i64_w, i32_w]
    rfl
   refine pure_ (i := 8) (N := some 13) (v := ?_) (a' := ?_) #[true, true, true, true, true, true, true, true, true, false, false, false, false, false, false, false, false, false, false, false, false, false, false, false, false, false, false, false, false] rfl rfl (any_of HT_.out (by kernel_rfl)) (fun _ _ _ h => h) (Or.inl ⟨by rfl, ?_⟩) ?_ ?_
   rotate_left
   ·intro w'
    go_simp
    with_reducible rfl
   rotate_left
   ·simp only [Act.put, List.setIfInBounds_toArray, List.set_cons_zero, List.set_cons_succ, i64_w, i32_w]
    rfl
   refine pure_ (i := 9) (N := some 14) (v := undef) (a' := ?_) #[true, true, true, true, true, true, true, true, true, true, false, false, false, false, false, false, false, false, false, false, false, false, false, false, false, false, false, false, false] rfl rfl (any_of HT_.out (by kernel_rfl)) (fun _ _ _ h => h) (Or.inr ⟨by rfl, rfl⟩) ?_ ?_
   rotate_left
   ·simp only [Act.put, List.setIfInBounds_toArray, List.set_cons_zero, List.set_cons_succ, i64_w, i32_w]
    rfl
   refine pure_ (i := 10) (N := some 15) (v := undef) (a' := ?_) #[true, true, true, true, true, true, true, true, true, true, true, false, false, false, false, false, false, false, false, false, false, false, false, false, false, false, false, false, false] rfl rfl (any_of HT_.out (by kernel_rfl)) (fun _ _ _ h => h) (Or.inr ⟨by rfl, rfl⟩) ?_ ?_
   rotate_left
   ·simp only [Act.put, List.setIfInBounds_toArray, List.set_cons_zero, List.set_cons_succ, i64_w, i32_w]
    rfl
   refine pure_ (i := 11) (N := some 16) (v := undef) (a' := ?_) #[true, true, true, true, true, true, true, true, true, true, true, true, false, false, false, false, false, false, false, false, false, false, false, false, false, false, false, false, false] rfl rfl (any_of HT_.out (by kernel_rfl)) (fun _ _ _ h => h) (Or.inr ⟨by rfl, rfl⟩) ?_ ?_
   rotate_left
   ·simp only [Act.put, List.setIfInBounds_toArray, List.set_cons_zero, List.set_cons_succ, i64_w, i32_w]
    rfl
   refine pure_ (i := 12) (N := some 17) (v := undef) (a' := ?_) #[true, true, true, true, true, true, true, true, true, true, true, true, true, false, false, false, false, false, false, false, false, false, false, false, false, false, false, false, false] rfl rfl (any_of HT_.out (by kernel_rfl)) (fun _ _ _ h => h) (Or.inr ⟨by rfl, rfl⟩) ?_ ?_
   rotate_left
   ·simp only [Act.put, List.setIfInBounds_toArray, List.set_cons_zero, List.set_cons_succ, i64_w, i32_w]
    rfl
   refine pure_ (i := 13) (N := some 18) (v := undef) (a' := ?_) #[true, true, true, true, true, true, true, true, true, true, true, true, true, true, false, false, false, false, false, false, false, false, false, false, false, false, false, false, false] rfl rfl (any_of HT_.out (by kernel_rfl)) (fun _ _ _ h => h) (Or.inr ⟨by rfl, rfl⟩) ?_ ?_
   rotate_left
   ·simp only [Act.put, List.setIfInBounds_toArray, List.set_cons_zero, List.set_cons_succ, i64_w, i32_w]
    rfl
   refine pure_ (i := 14) (N := some 19) (v := undef) (a' := ?_) #[true, true, true, true, true, true, true, true, true, true, true, true, true, true, true, false, false, false, false, false, false, false, false, false, false, false, false, false, false] rfl rfl (any_of HT_.out (by kernel_rfl)) (fun _ _ _ h => h) (Or.inr ⟨by rfl, rfl⟩) ?_ ?_
   rotate_left
   ·simp only [Act.put, List.setIfInBounds_toArray, List.set_cons_zero, List.set_cons_succ, i64_w, i32_w]
    rfl
   refine pure_ (i := 15) (N := some 20) (v := undef) (a' := ?_) #[true, true, true, true, true, true, true, true, true, true, true, true, true, true, true, true, false, false, false, false, false, false, false, false, false, false, false, false, false] rfl rfl (any_of HT_.out (by kernel_rfl)) (fun _ _ _ h => h) (Or.inr ⟨by rfl, rfl⟩) ?_ ?_
   rotate_left
   ·simp only [Act.put, List.setIfInBounds_toArray, List.set_cons_zero, List.set_cons_succ, i64_w, i32_w]
    rfl
   refine pure_ (i := 16) (N := some 21) (v := undef) (a' := ?_) #[true, true, true, true, true, true, true, true, true, true, true, true, true, true, true, true, true, false, false, false, false, false, false, false, false, false, false, false, false] rfl rfl (any_of HT_.out (by kernel_rfl)) (fun _ _ _ h => h) (Or.inr ⟨by rfl, rfl⟩) ?_ ?_
   rotate_left
   ·simp only [Act.put, List.setIfInBounds_toArray, List.set_cons_zero, List.set_cons_succ, i64_w, i32_w]
    rfl
   refine pure_ (i := 17) (N := some 22) (v := undef) (a' := ?_) #[true, true, true, true, true, true, true, true, true, true, true, true, true, true, true, true, true, true, false, false, false, false, false, false, false, false, false, false, false] rfl rfl (any_of HT_.out (by kernel_rfl)) (fun _ _ _ h => h) (Or.inr ⟨by rfl, rfl⟩) ?_ ?_
   rotate_left
   ·simp only [Act.put, List.setIfInBounds_toArray, List.set_cons_zero, List.set_cons_succ, i64_w, i32_w]
    rfl
   refine pure_ (i := 18) (N := some 23) (v := undef) (a' := ?_) #[true, true, true, true, true, true, true, true, true, true, true, true, true, true, true, true, true, true, true, false, false, false, false, false, false, false, false, false, false] rfl rfl (any_of HT_.out (by kernel_rfl)) (fun _ _ _ h => h) (Or.inr ⟨by rfl, rfl⟩) ?_ ?_
   rotate_left
   ·simp only [Act.put, List.setIfInBounds_toArray, List.set_cons_zero, List.set_cons_succ, i64_w, i32_w]
    rfl
   refine pure_ (i := 19) (N := some 24) (v := undef) (a' := ?_) #[true, true, true, true, true, true, true, true, true, true, true, true, true, true, true, true, true, true, true, true, false, false, false, false, false, false, false, false, false] rfl rfl (any_of HT_.out (by kernel_rfl)) (fun _ _ _ h => h) (Or.inr ⟨by rfl, rfl⟩) ?_ ?_
   rotate_left
   ·simp only [Act.put, List.setIfInBounds_toArray, List.set_cons_zero, List.set_cons_succ, i64_w, i32_w]
    rfl
   refine pure_ (i := 20) (N := some 25) (v := undef) (a' := ?_) #[true, true, true, true, true, true, true, true, true, true, true, true, true, true, true, true, true, true, true, true, true, false, false, false, false, false, false, false, false] rfl rfl (any_of HT_.out (by kernel_rfl)) (fun _ _ _ h => h) (Or.inr ⟨by rfl, rfl⟩) ?_ ?_
   rotate_left
   ·simp only [Act.put, List.setIfInBounds_toArray, List.set_cons_zero, List.set_cons_succ, i64_w, i32_w]
    rfl
   refine pure_ (i := 21) (N := some 26) (v := undef) (a' := ?_) #[true, true, true, true, true, true, true, true, true, true, true, true, true, true, true, true, true, true, true, true, true, true, false, false, false, false, false, false, false] rfl rfl (any_of HT_.out (by kernel_rfl)) (fun _ _ _ h => h) (Or.inr ⟨by rfl, rfl⟩) ?_ ?_
   rotate_left
   ·simp only [Act.put, List.setIfInBounds_toArray, List.set_cons_zero, List.set_cons_succ, i64_w, i32_w]
    rfl
   refine pure_ (i := 22) (N := some 27) (v := undef) (a' := ?_) #[true, true, true, true, true, true, true, true, true, true, true, true, true, true, true, true, true, true, true, true, true, true, true, false, false, false, false, false, false] rfl rfl (any_of HT_.out (by kernel_rfl)) (fun _ _ _ h => h) (Or.inr ⟨by rfl, rfl⟩) ?_ ?_
   rotate_left
   ·simp only [Act.put, List.setIfInBounds_toArray, List.set_cons_zero, List.set_cons_succ, i64_w, i32_w]
    rfl
   refine pure_ (i := 23) (N := some 28) (v := undef) (a' := ?_) #[true, true, true, true, true, true, true, true, true, true, true, true, true, true, true, true, true, true, true, true, true, true, true, true, false, false, false, false, false] rfl rfl (any_of HT_.out (by kernel_rfl)) (fun _ _ _ h => h) (Or.inr ⟨by rfl, rfl⟩) ?_ ?_
   rotate_left
   ·simp only [Act.put, List.setIfInBounds_toArray, List.set_cons_zero, List.set_cons_succ, i64_w, i32_w]
    rfl
   refine pure_ (i := 24) (N := some 29) (v := undef) (a' := ?_) #[true, true, true, true, true, true, true, true, true, true, true, true, true, true, true, true, true, true, true, true, true, true, true, true, true, false, false, false, false] rfl rfl (any_of HT_.out (by kernel_rfl)) (fun _ _ _ h => h) (Or.inr ⟨by rfl, rfl⟩) ?_ ?_
   rotate_left
   ·simp only [Act.put, List.setIfInBounds_toArray, List.set_cons_zero, List.set_cons_succ, i64_w, i32_w]
    rfl
   refine pure_ (i := 25) (N := some 30) (v := undef) (a' := ?_) #[true, true, true, true, true, true, true, true, true, true, true, true, true, true, true, true, true, true, true, true, true, true, true, true, true, true, false, false, false] rfl rfl (any_of HT_.out (by kernel_rfl)) (fun _ _ _ h => h) (Or.inr ⟨by rfl, rfl⟩) ?_ ?_
   rotate_left
   ·simp only [Act.put, List.setIfInBounds_toArray, List.set_cons_zero, List.set_cons_succ, i64_w, i32_w]
    rfl
   refine pure_ (i := 26) (N := some 31) (v := undef) (a' := ?_) #[true, true, true, true, true, true, true, true, true, true, true, true, true, true, true, true, true, true, true, true, true, true, true, true, true, true, true, false, false] rfl rfl (any_of HT_.out (by kernel_rfl)) (fun _ _ _ h => h) (Or.inr ⟨by rfl, rfl⟩) ?_ ?_
   rotate_left
   ·simp only [Act.put, List.setIfInBounds_toArray, List.set_cons_zero, List.set_cons_succ, i64_w, i32_w]
    rfl
   refine pure_ (i := 27) (N := some 32) (v := undef) (a' := ?_) #[true, true, true, true, true, true, true, true, true, true, true, true, true, true, true, true, true, true, true, true, true, true, true, true, true, true, true, true, false] rfl rfl (any_of HT_.out (by kernel_rfl)) (fun _ _ _ h => h) (Or.inr ⟨by rfl, rfl⟩) ?_ ?_
   rotate_left
   ·simp only [Act.put, List.setIfInBounds_toArray, List.set_cons_zero, List.set_cons_succ, i64_w, i32_w]
    rfl
   refine pure_ (i := 28) (N := some 33) (v := ?_) (a' := ?_) #[true, true, true, true, true, true, true, true, true, true, true, true, true, true, true, true, true, true, true, true, true, true, true, true, true, true, true, true, true] rfl rfl (any_of HT_.out (by kernel_rfl)) (fun _ _ _ h => h) (Or.inl ⟨by rfl, ?_⟩) ?_ ?_
   rotate_left
   ·intro w'
    go_simp
    with_reducible rfl
   rotate_left
   ·simp only [Act.put, List.setIfInBounds_toArray, List.set_cons_zero, List.set_cons_succ, i64_w, i32_w]
    rfl
   refine done_ (done_of HT_.out (by kernel_rfl)) ?_
   try go_wp2
   go_ret
   exact ⟨y11_, y13_⟩
  ·rw [if_neg c5] at H
   have c5b0 : decide ((l0.length : Int) ≤ a1) = false := decide_eq_false c5
   clear c5
   by_cases c7 : a1 ≥ 0
   ·rw [if_pos c7] at H
    have c7b0 : decide (0 ≤ a1) = true := decide_eq_true c7
    clear c7
    by_cases c8 : 0 ≤ a1
    rotate_left
    ·rw [if_neg c8] at H
     exact absurd H (by simp)
    rw [if_pos c8] at H
    have c8b0 : decide (0 ≤ a1) = true := decide_eq_true c8
    clear c8
    by_cases c9 : a1 < (l0.length : Int)
    rotate_left
    ·rw [if_neg c9] at H
     exact absurd H (by simp)
    rw [if_pos c9] at H
    have c9b0 : decide (a1 < (l0.length : Int)) = true := decide_eq_true c9
    clear c9
    by_cases c10 : ((rd_T35 l0 a1).f1) = 0
    ·rw [if_pos c10] at H
     have c10b0 : (((rd_T35 l0 a1).f1) == 0) = true := beq_iff_eq.mpr c10
     have c10b1 : (((rd_T35 l0 a1).f1) != 0) = false := bne_eq_false_iff_eq.mpr c10
     clear c10
     replace H := Option.bind_eq_some_iff.mp H
     obtain ⟨t196, A110, H⟩ := H
     have A11 := Aside0.mk A110
     clear A110
     replace H := Option.bind_eq_some_iff.mp H
     obtain ⟨t200, A120, H⟩ := H
     have A12 := Aside0.mk A120
     clear A120
     by_cases c13 : t200 = true
     ·subst c13
      rw [if_pos rfl] at H
      obtain rfl := Option.some.inj H
      go_enter Tryd.func12, Tryd.ntmps12
      try go_wp2
      have n0_ := Aside0.mk (below_drew1 HB.out)
      clear HB
      have HB := n0_
      clear n0_
      have p195 : 0 ≤ (a1 : Int) := of_decide_eq_true y2_
      have q195 : a1 < (l0.length : Int) := of_decide_eq_true y2_
      obtain ⟨ad195, A195_4, c195_4, e195, hx195_0, hx195_1, hx195_2, hx195_3, hx195_4, hl195_4, hi195_4⟩ := at_T35 HR0.out a1 p195 q195
      have hw195_4 := hx195_4
      have hw195_3 := hx195_3
      have hw195_2 := hx195_2
      have hw195_1 := hx195_1
      have hw195_0 := hx195_0
      cases e195
      replace hx195_0 := (HB.out.cell (World.block_lt_of_cell? w _ hx195_0)).trans hx195_0
      replace hx195_1 := (HB.out.cell (World.block_lt_of_cell? w _ hx195_1)).trans hx195_1
      replace hx195_2 := (HB.out.cell (World.block_lt_of_cell? w _ hx195_2)).trans hx195_2
      replace hx195_3 := (HB.out.cell (World.block_lt_of_cell? w _ hx195_3)).trans hx195_3
      replace hx195_4 := (HB.out.cell (World.block_lt_of_cell? w _ hx195_4)).trans hx195_4
      have HR195_4 := Aside0.mk hi195_4
      have HC195_4 := Aside0.mk hl195_4
      clear hi195_4 hl195_4
      replace p195 := eq_true p195
      replace q195 := eq_true q195
      have p199 : 0 ≤ (a1 : Int) := of_decide_eq_true y2_
      have q199 : a1 < (l0.length : Int) := of_decide_eq_true y2_
      obtain ⟨ad199, A199_4, c199_4, e199, hx199_0, hx199_1, hx199_2, hx199_3, hx199_4, hl199_4, hi199_4⟩ := at_T35 HR0.out a1 p199 q199
      have hw199_4 := hx199_4
      have hw199_3 := hx199_3
      have hw199_2 := hx199_2
      have hw199_1 := hx199_1
      have hw199_0 := hx199_0
      obtain rfl : ad195 = ad199 := (by injection e199)
      replace hx199_0 := (HB.out.cell (World.block_lt_of_cell? w _ hx199_0)).trans hx199_0
      replace hx199_1 := (HB.out.cell (World.block_lt_of_cell? w _ hx199_1)).trans hx199_1
      replace hx199_2 := (HB.out.cell (World.block_lt_of_cell? w _ hx199_2)).trans hx199_2
      replace hx199_3 := (HB.out.cell (World.block_lt_of_cell? w _ hx199_3)).trans hx199_3
      replace hx199_4 := (HB.out.cell (World.block_lt_of_cell? w _ hx199_4)).trans hx199_4
      have HR199_4 := Aside0.mk hi199_4
      have HC199_4 := Aside0.mk hl199_4
      clear hi199_4 hl199_4
      replace p199 := eq_true p199
      replace q199 := eq_true q199
      have ea_ := Option.some.inj (hx195_4.symm.trans hx199_4)
      injection ea_ with ea_ en_ ec_
      subst ea_
      subst ec_
      clear en_
      refine start_ (n := 29) (S := fun w' => w'.cell? (ad195.add ((a1).toNat * 5)) = some (.int .i64 ((rd_T35 l0 a1).f0)) ∧ w'.cell? ⟨(ad195.add ((a1).toNat * 5)).block, (ad195.add ((a1).toNat * 5)).off + 1, none⟩ = some (.int .i64 ((rd_T35 l0 a1).f1)) ∧ w'.cell? ⟨(ad195.add ((a1).toNat * 5)).block, (ad195.add ((a1).toNat * 5)).off + 2, none⟩ = some (.string ((rd_T35 l0 a1).f2)) ∧ w'.cell? ⟨(ad195.add ((a1).toNat * 5)).block, (ad195.add ((a1).toNat * 5)).off + 3, none⟩ = some (.string ((rd_T35 l0 a1).f3)) ∧ w'.cell? ⟨(ad195.add ((a1).toNat * 5)).block, (ad195.add ((a1).toNat * 5)).off + 4, none⟩ = some (.slice A195_4 ((rd_T35 l0 a1).f4).length c195_4) ∧ w'.cell? (ad195.add ((a1).toNat * 5)) = some (.int .i64 ((rd_T35 l0 a1).f0)) ∧ w'.cell? ⟨(ad195.add ((a1).toNat * 5)).block, (ad195.add ((a1).toNat * 5)).off + 1, none⟩ = some (.int .i64 ((rd_T35 l0 a1).f1)) ∧ w'.cell? ⟨(ad195.add ((a1).toNat * 5)).block, (ad195.add ((a1).toNat * 5)).off + 2, none⟩ = some (.string ((rd_T35 l0 a1).f2)) ∧ w'.cell? ⟨(ad195.add ((a1).toNat * 5)).block, (ad195.add ((a1).toNat * 5)).off + 3, none⟩ = some (.string ((rd_T35 l0 a1).f3)) ∧ w'.cell? ⟨(ad195.add ((a1).toNat * 5)).block, (ad195.add ((a1).toNat * 5)).off + 4, none⟩ = some (.slice A195_4 ((rd_T35 l0 a1).f4).length c195_4)) (ds := []) #[false, false, false, false, false, false, false, false, false, false, false, false, false, false, false, false, false, false, false, false, false, false, false, false, false, false, false, false, false] (by kernel_rfl) rfl rfl ⟨((HB.out.cell (World.block_lt_of_cell? w _ hw195_0)).trans hw195_0), ((HB.out.cell (World.block_lt_of_cell? w _ hw195_1)).trans hw195_1), ((HB.out.cell (World.block_lt_of_cell? w _ hw195_2)).trans hw195_2), ((HB.out.cell (World.block_lt_of_cell? w _ hw195_3)).trans hw195_3), ((HB.out.cell (World.block_lt_of_cell? w _ hw195_4)).trans hw195_4), ((HB.out.cell (World.block_lt_of_cell? w _ hw199_0)).trans hw199_0), ((HB.out.cell (World.block_lt_of_cell? w _ hw199_1)).trans hw199_1), ((HB.out.cell (World.block_lt_of_cell? w _ hw199_2)).trans hw199_2), ((HB.out.cell (World.block_lt_of_cell? w _ hw199_3)).trans hw199_3), ((HB.out.cell (World.block_lt_of_cell? w _ hw199_4)).trans hw199_4)⟩ (fun hHeld => ?_); refine with_tabW boltingref08_Inside.tab1 boltingref08_Inside.bits1 (fun HT_ HW_ => ?_)
      generalize w.drew = w14 at HB HR195_4 HR199_4 hx195_0 hx195_1 hx195_2 hx195_3 hx195_4 hx199_0 hx199_1 hx199_2 hx199_3 hx199_4 hHeld ⊢
      refine pure_ (i := 0) (N := some 5) (v := ?_) (a' := ?_) #[true, false, false, false, false, false, false, false, false, false, false, false, false, false, false, false, false, false, false, false, false, false, false, false, false, false, false, false, false] rfl rfl (any_of HT_.out (by kernel_rfl)) (fun _ _ _ h => h) (Or.inl ⟨by rfl, ?_⟩) ?_ ?_
      rotate_left
      ·intro w'
       go_simp
       with_reducible rfl
      rotate_left
      ·simp only [Act.put, List.setIfInBounds_toArray, List.set_cons_zero, List.set_cons_succ, i64_w, i32_w]
       rfl
      refine pure_ (i := 1) (N := some 6) (v := ?_) (a' := ?_) #[true, true, false, false, false, false, false, false, false, false, false, false, false, false, false, false, false, false, false, false, false, false, false, false, false, false, false, false, false] rfl rfl (any_of HT_.out (by kernel_rfl)) (fun _ _ _ h => h) (Or.inl ⟨by rfl, ?_⟩) ?_ ?_
      rotate_left
      ·intro w'
       go_simp
       with_reducible rfl
      rotate_left
      ·simp only [Act.put, List.setIfInBounds_toArray, List.set_cons_zero, List.set_cons_succ, i64_w, i32_w]
       rfl
      refine pure_ (i := 2) (N := some 7) (v := ?_) (a' := ?_) #[true, true, true, false, false, false, false, false, false, false, false, false, false, false, false, false, false, false, false, false, false, false, false, false, false, false, false, false, false] rfl rfl (any_of HT_.out (by kernel_rfl)) (fun _ _ _ h => h) (Or.inl ⟨by rfl, ?_⟩) ?_ ?_
      rotate_left
      ·intro w'
       go_simp
       with_reducible rfl
      rotate_left
      ·simp only [Act.put, List.setIfInBounds_toArray, List.set_cons_zero, List.set_cons_succ, i64_w, i32_w]
       rfl
      refine pure_ (i := 3) (N := some 8) (v := ?_) (a' := ?_) #[true, true, true, true, false, false, false, false, false, false, false, false, false, false, false, false, false, false, false, false, false, false, false, false, false, false, false, false, false] rfl rfl (any_of HT_.out (by kernel_rfl)) (fun _ _ _ h => h) (Or.inl ⟨by rfl, ?_⟩) ?_ ?_
      rotate_left
      ·intro w'
       go_simp
       with_reducible rfl
      rotate_left
      ·simp only [Act.put, List.setIfInBounds_toArray, List.set_cons_zero, List.set_cons_succ, i64_w, i32_w]
       rfl
      refine pure_ (i := 4) (N := some 9) (v := ?_) (a' := ?_) #[true, true, true, true, true, false, false, false, false, false, false, false, false, false, false, false, false, false, false, false, false, false, false, false, false, false, false, false, false] rfl rfl (any_of HT_.out (by kernel_rfl)) (fun _ _ _ h => h) (Or.inl ⟨by rfl, ?_⟩) ?_ ?_
      rotate_left
      ·intro w'
       go_simp
       with_reducible rfl
      rotate_left
      ·simp only [Act.put, List.setIfInBounds_toArray, List.set_cons_zero, List.set_cons_succ, i64_w, i32_w]
       rfl
      refine pure_ (i := 5) (N := some 10) (v := ?_) (a' := ?_) #[true, true, true, true, true, true, false, false, false, false, false, false, false, false, false, false, false, false, false, false, false, false, false, false, false, false, false, false, false] rfl rfl (any_of HT_.out (by kernel_rfl)) (fun _ _ _ h => h) (Or.inl ⟨by rfl, ?_⟩) ?_ ?_
      rotate_left
      ·intro w'
       go_simp
       with_reducible rfl
      rotate_left
      ·simp only [Act.put, List.setIfInBounds_toArray, List.set_cons_zero, List.set_cons_succ, i64_w, i32_w]
       rfl
      refine pure_ (i := 6) (N := some 11) (v := ?_) (a' := ?_) #[true, true, true, true, true, true, true, false, false, false, false, false, false, false, false, false, false, false, false, false, false, false, false, false, false, false, false, false, false] rfl rfl (any_of HT_.out (by kernel_rfl)) (fun _ _ _ h => h) (Or.inl ⟨by rfl, ?_⟩) ?_ ?_
      rotate_left
      ·intro w'
       go_simp
       with_reducible rfl
      rotate_left
      ·simp only [Act.put, List.setIfInBounds_toArray, List.set_cons_zero, List.set_cons_succ, i64_w, i32_w]
       rfl
      refine pure_ (i := 7) (N := some 12) (v := ?_) (a' := ?_) #[true, true, true, true, true, true, true, true, false, false, false, false, false, false, false, false, false, false, false, false, false, false, false, false, false, false, false, false, false] rfl rfl (any_of HT_.out (by kernel_rfl)) (fun _ _ _ h => h) (Or.inl ⟨by rfl, ?_⟩) ?_ ?_
      rotate_left
      ·intro w'
       go_simp
       with_reducible rfl
      rotate_left
      ·simp only [Act.put, List.setIfInBounds_toArray, List.set_cons_zero, List.set_cons_succ, i64_w, i32_w]
       rfl
      refine pure_ (i := 8) (N := some 13) (v := ?_) (a' := ?_) #[true, true, true, true, true, true, true, true, true, false, false, false, false, false, false, false, false, false, false, false, false, false, false, false, false, false, false, false, false] rfl rfl (any_of HT_.out (by kernel_rfl)) (fun _ _ _ h => h) (Or.inl ⟨by rfl, ?_⟩) ?_ ?_
      rotate_left
      ·intro w'
       go_simp
       with_reducible rfl
      rotate_left
      ·simp only [Act.put, List.setIfInBounds_toArray, List.set_cons_zero, List.set_cons_succ, i64_w, i32_w]
       rfl
      refine pure_ (i := 9) (N := some 14) (v := ?_) (a' := ?_) #[true, true, true, true, true, true, true, true, true, true, false, false, false, false, false, false, false, false, false, false, false, false, false, false, false, false, false, false, false] rfl rfl (any_of HT_.out (by kernel_rfl)) (fun _ _ _ h => h) (Or.inl ⟨by rfl, ?_⟩) ?_ ?_
      rotate_left
      ·intro w'
       go_simp
       with_reducible rfl
      rotate_left
      ·simp only [Act.put, List.setIfInBounds_toArray, List.set_cons_zero, List.set_cons_succ, i64_w, i32_w]
       rfl
      refine pure_ (i := 10) (N := some 15) (v := ?_) (a' := ?_) #[true, true, true, true, true, true, true, true, true, true, true, false, false, false, false, false, false, false, false, false, false, false, false, false, false, false, false, false, false] rfl rfl (any_of HT_.out (by kernel_rfl)) (fun _ _ _ h => h) (Or.inl ⟨by rfl, ?_⟩) ?_ ?_
      rotate_left
      ·intro w'
       go_simp
       with_reducible rfl
      rotate_left
      ·simp only [Act.put, List.setIfInBounds_toArray, List.set_cons_zero, List.set_cons_succ, i64_w, i32_w]
       rfl
      refine pure_ (i := 11) (N := some 16) (v := ?_) (a' := ?_) #[true, true, true, true, true, true, true, true, true, true, true, true, false, false, false, false, false, false, false, false, false, false, false, false, false, false, false, false, false] rfl rfl (any_of HT_.out (by kernel_rfl)) (fun _ _ _ h => h) (Or.inl ⟨by rfl, ?_⟩) ?_ ?_
      rotate_left
      ·intro w'
       go_simp
       with_reducible rfl
      rotate_left
      ·simp only [Act.put, List.setIfInBounds_toArray, List.set_cons_zero, List.set_cons_succ, i64_w, i32_w]
       rfl
      refine pure_ (i := 12) (N := some 17) (v := ?_) (a' := ?_) #[true, true, true, true, true, true, true, true, true, true, true, true, true, false, false, false, false, false, false, false, false, false, false, false, false, false, false, false, false] rfl rfl (any_of HT_.out (by kernel_rfl)) (fun _ _ _ h => h) (Or.inl ⟨by rfl, ?_⟩) ?_ ?_
      rotate_left
      ·intro w'
       go_simp
       with_reducible rfl
      rotate_left
      ·simp only [Act.put, List.setIfInBounds_toArray, List.set_cons_zero, List.set_cons_succ, i64_w, i32_w]
       rfl
      refine pure_ (i := 13) (N := some 18) (v := ?_) (a' := ?_) #[true, true, true, true, true, true, true, true, true, true, true, true, true, true, false, false, false, false, false, false, false, false, false, false, false, false, false, false, false] rfl rfl (any_of HT_.out (by kernel_rfl)) (fun _ _ _ h => h) (Or.inl ⟨by rfl, ?_⟩) ?_ ?_
      rotate_left
      ·intro w'
       go_simp
       with_reducible rfl
      rotate_left
      ·simp only [Act.put, List.setIfInBounds_toArray, List.set_cons_zero, List.set_cons_succ, i64_w, i32_w]
       rfl
      refine pure_ (i := 14) (N := some 19) (v := ?_) (a' := ?_) #[true, true, true, true, true, true, true, true, true, true, true, true, true, true, true, false, false, false, false, false, false, false, false, false, false, false, false, false, false] rfl rfl (any_of HT_.out (by kernel_rfl)) (fun _ _ _ h => h) (Or.inl ⟨by rfl, ?_⟩) ?_ ?_
      rotate_left
      ·intro w'
       go_simp
       with_reducible rfl
      rotate_left
      ·simp only [Act.put, List.setIfInBounds_toArray, List.set_cons_zero, List.set_cons_succ, i64_w, i32_w]
       rfl
      refine pure_ (i := 15) (N := some 20) (v := ?_) (a' := ?_) #[true, true, true, true, true, true, true, true, true, true, true, true, true, true, true, true, false, false, false, false, false, false, false, false, false, false, false, false, false] rfl rfl (any_of HT_.out (by kernel_rfl)) (fun _ _ _ h => h) (Or.inl ⟨by rfl, ?_⟩) ?_ ?_
      rotate_left
      ·intro w'
       go_simp
       with_reducible rfl
      rotate_left
      ·simp only [Act.put, List.setIfInBounds_toArray, List.set_cons_zero, List.set_cons_succ, i64_w, i32_w]
       rfl
      refine take_ (i := 16) (N := some 21) (v := ?_) (a' := ?_) #[true, true, true, true, true, true, true, true, true, true, true, true, true, true, true, true, true, false, false, false, false, false, false, false, false, false, false, false, false] rfl rfl (take_ofW HT_.out HW_.out (by kernel_rfl)) (fun _ _ _ h => h) (Or.inl ⟨by rfl, ?_⟩) hHeld ?_ ?_
      rotate_left
      ·rintro w' ⟨s0, s1, s2, s3, s4, s5, s6, s7, s8, s9⟩
       go_simp
       with_reducible rfl
      rotate_left
      ·simp only [Act.put, List.setIfInBounds_toArray, List.set_cons_zero, List.set_cons_succ, i64_w, i32_w]
       rfl
      refine pure_ (i := 17) (N := some 22) (v := ?_) (a' := ?_) #[true, true, true, true, true, true, true, true, true, true, true, true, true, true, true, true, true, true, false, false, false, false, false, false, false, false, false, false, false] rfl rfl (any_of HT_.out (by kernel_rfl)) (fun _ _ _ h => h) (Or.inl ⟨by rfl, ?_⟩) ?_ ?_
      rotate_left
      ·intro w'
       go_simp
       with_reducible rfl
      rotate_left
      ·simp only [Act.put, List.setIfInBounds_toArray, List.set_cons_zero, List.set_cons_succ, i64_w, i32_w]
       rfl
      refine pure_ (i := 18) (N := some 23) (v := ?_) (a' := ?_) #[true, true, true, true, true, true, true, true, true, true, true, true, true, true, true, true, true, true, true, false, false, false, false, false, false, false, false, false, false] rfl rfl (any_of HT_.out (by kernel_rfl)) (fun _ _ _ h => h) (Or.inl ⟨by rfl, ?_⟩) ?_ ?_
      rotate_left
      ·intro w'
       go_simp
       with_reducible rfl
      rotate_left
      ·simp only [Act.put, List.setIfInBounds_toArray, List.set_cons_zero, List.set_cons_succ, i64_w, i32_w]
       rfl
      refine pure_ (i := 20) (N := some 25) (v := ?_) (a' := ?_) #[true, true, true, true, true, true, true, true, true, true, true, true, true, true, true, true, true, true, true, false, true, false, false, false, false, false, false, false, false] rfl rfl (any_of HT_.out (by kernel_rfl)) (fun _ _ _ h => h) (Or.inl ⟨by rfl, ?_⟩) ?_ ?_
      rotate_left
      ·intro w'
       go_simp
       with_reducible rfl
      rotate_left
      ·simp only [Act.put, List.setIfInBounds_toArray, List.set_cons_zero, List.set_cons_succ, i64_w, i32_w]
       rfl
      refine pure_ (i := 21) (N := some 26) (v := ?_) (a' := ?_) #[true, true, true, true, true, true, true, true, true, true, true, true, true, true, true, true, true, true, true, false, true, true, false, false, false, false, false, false, false] rfl rfl (any_of HT_.out (by kernel_rfl)) (fun _ _ _ h => h) (Or.inl ⟨by rfl, ?_⟩) ?_ ?_
      rotate_left
      ·intro w'
       go_simp
       with_reducible rfl
      rotate_left
      ·simp only [Act.put, List.setIfInBounds_toArray, List.set_cons_zero, List.set_cons_succ, i64_w, i32_w]
       rfl
      refine pure_ (i := 22) (N := some 27) (v := ?_) (a' := ?_) #[true, true, true, true, true, true, true, true, true, true, true, true, true, true, true, true, true, true, true, false, true, true, true, false, false, false, false, false, false] rfl rfl (any_of HT_.out (by kernel_rfl)) (fun _ _ _ h => h) (Or.inl ⟨by rfl, ?_⟩) ?_ ?_
      rotate_left
      ·intro w'
       go_simp
       with_reducible rfl
      rotate_left
      ·simp only [Act.put, List.setIfInBounds_toArray, List.set_cons_zero, List.set_cons_succ, i64_w, i32_w]
       rfl
      refine pure_ (i := 23) (N := some 28) (v := ?_) (a' := ?_) #[true, true, true, true, true, true, true, true, true, true, true, true, true, true, true, true, true, true, true, false, true, true, true, true, false, false, false, false, false] rfl rfl (any_of HT_.out (by kernel_rfl)) (fun _ _ _ h => h) (Or.inl ⟨by rfl, ?_⟩) ?_ ?_
      rotate_left
      ·intro w'
       go_simp
       with_reducible rfl
      rotate_left
      ·simp only [Act.put, List.setIfInBounds_toArray, List.set_cons_zero, List.set_cons_succ, i64_w, i32_w]
       rfl
      refine take_ (i := 24) (N := some 29) (v := ?_) (a' := ?_) #[true, true, true, true, true, true, true, true, true, true, true, true, true, true, true, true, true, true, true, false, true, true, true, true, true, false, false, false, false] rfl rfl (take_ofW HT_.out HW_.out (by kernel_rfl)) (fun _ _ _ h => h) (Or.inl ⟨by rfl, ?_⟩) hHeld ?_ ?_
      rotate_left
      ·rintro w' ⟨s0, s1, s2, s3, s4, s5, s6, s7, s8, s9⟩
       go_simp
       with_reducible rfl
      rotate_left
      ·simp only [Act.put, List.setIfInBounds_toArray, List.set_cons_zero, List.set_cons_succ, i64_w, i32_w]
       rfl
      refine one_ (i := 19) (N := some 24) #[true, true, true, true, true, true, true, true, true, true, true, true, true, true, true, true, true, true, true, true, true, true, true, true, true, false, false, false, false] rfl rfl (one_of HT_.out (by kernel_rfl)) (by decide) (fun K hK => ?_)
      refine goes_ Tryd.func24 (by kernel_rfl) rfl #[] (by rfl) rfl rfl y14_ ?_
      with_reducible refine (boltingref05_Void.calls  t196 _ A11.out).mono ?_
      rintro e w15 ⟨v197, rfl, ho0, hb⟩
      refine ⟨_, rfl, ?_⟩
      have n0_ := Aside0.mk (Kd.R_lower ho0 (below_size y13_))
      have n1_ := Aside0.mk (below_step y13_ hb)
      clear HB
      have HO198 := n0_
      have HB := n1_
      clear n0_ n1_
      (try clear hb)
      (try clear hb2)
      (try clear hk)
      (try clear hi)
      (try clear ho0)
      obtain ⟨Ao16, co16, eo16⟩ := Kd.R_slice HO198.out
      (first | subst eo16 | (injection eo16 with f1_ f2_ f3_; have f4_ := f1_.symm; have f5_ := f3_.symm; clear f1_ f2_ f3_; subst f4_; subst f5_))
      refine hK.out _ _ ⟨((HB.out.cell (World.block_lt_of_cell? w _ hw195_0)).trans hw195_0), ((HB.out.cell (World.block_lt_of_cell? w _ hw195_1)).trans hw195_1), ((HB.out.cell (World.block_lt_of_cell? w _ hw195_2)).trans hw195_2), ((HB.out.cell (World.block_lt_of_cell? w _ hw195_3)).trans hw195_3), ((HB.out.cell (World.block_lt_of_cell? w _ hw195_4)).trans hw195_4), ((HB.out.cell (World.block_lt_of_cell? w _ hw199_0)).trans hw199_0), ((HB.out.cell (World.block_lt_of_cell? w _ hw199_1)).trans hw199_1), ((HB.out.cell (World.block_lt_of_cell? w _ hw199_2)).trans hw199_2), ((HB.out.cell (World.block_lt_of_cell? w _ hw199_3)).trans hw199_3), ((HB.out.cell (World.block_lt_of_cell? w _ hw199_4)).trans hw199_4)⟩ (fun hHeld => ?_)
      clear hK K
      refine norm_ (a' := ?_) ?_ ?_
      rotate_left
      ·show Act.put _ (some 24) _ = _
       simp only [Act.put, List.setIfInBounds_toArray, List.set_cons_zero, List.set_cons_succ, i64_w, i32_w]
       rfl
      refine one_ (i := 25) (N := some 30) #[true, true, true, true, true, true, true, true, true, true, true, true, true, true, true, true, true, true, true, true, true, true, true, true, true, true, false, false, false] rfl rfl (one_of HT_.out (by kernel_rfl)) (by decide) (fun K hK => ?_)
      refine goes_ Tryd.func21 (by kernel_rfl) rfl #[.slice Ao16 t196.length co16, .string ((rd_T35 l0 a1).f2)] (by rfl) rfl rfl y14_ ?_
      with_reducible refine (boltingref02_Has.calls k _ _ t196 ((rd_T35 l0 a1).f2) true _ ?side1 ?side2 A12.out).mono ?_
      (case side1 => repeat (first | exact (Kd.R_reads' HO198.out).2.2 | (with_reducible refine Kd.C_alloc ?_ _) | (with_reducible refine Kd.C_drewN ?_ _) | (with_reducible refine Kd.C_drew ?_)))
      (case side2 => exact (Kd.R_reads' HO198.out).2.1)
      rintro e w' ⟨rfl, ⟨nd, rfl⟩⟩
      refine ⟨_, rfl, ?_⟩
      refine hK.out _ _ ⟨((HB.out.cell (World.block_lt_of_cell? w _ hw195_0)).trans hw195_0), ((HB.out.cell (World.block_lt_of_cell? w _ hw195_1)).trans hw195_1), ((HB.out.cell (World.block_lt_of_cell? w _ hw195_2)).trans hw195_2), ((HB.out.cell (World.block_lt_of_cell? w _ hw195_3)).trans hw195_3), ((HB.out.cell (World.block_lt_of_cell? w _ hw195_4)).trans hw195_4), ((HB.out.cell (World.block_lt_of_cell? w _ hw199_0)).trans hw199_0), ((HB.out.cell (World.block_lt_of_cell? w _ hw199_1)).trans hw199_1), ((HB.out.cell (World.block_lt_of_cell? w _ hw199_2)).trans hw199_2), ((HB.out.cell (World.block_lt_of_cell? w _ hw199_3)).trans hw199_3), ((HB.out.cell (World.block_lt_of_cell? w _ hw199_4)).trans hw199_4)⟩ (fun hHeld => ?_)
      clear hK K
      refine norm_ (a' := ?_) ?_ ?_
      rotate_left
      ·show Act.put _ (some 30) _ = _
       simp only [Act.put, List.setIfInBounds_toArray, List.set_cons_zero, List.set_cons_succ, i64_w, i32_w]
       rfl
      refine pure_ (i := 26) (N := some 31) (v := ?_) (a' := ?_) #[true, true, true, true, true, true, true, true, true, true, true, true, true, true, true, true, true, true, true, true, true, true, true, true, true, true, true, false, false] rfl rfl (any_of HT_.out (by kernel_rfl)) (fun _ _ _ h => h) (Or.inl ⟨by rfl, ?_⟩) ?_ ?_
      rotate_left
      ·intro w'
       go_simp
       with_reducible rfl
      rotate_left
      ·simp only [Act.put, List.setIfInBounds_toArray, List.set_cons_zero, List.set_cons_succ, i64_w, i32_w]
       rfl
      refine pure_ (i := 27) (N := some 32) (v := ?_) (a' := ?_) #[true, true, true, true, true, true, true, true, true, true, true, true, true, true, true, true, true, true, true, true, true, true, true, true, true, true, true, true, false] rfl rfl (any_of HT_.out (by kernel_rfl)) (fun _ _ _ h => h) (Or.inl ⟨by rfl, ?_⟩) ?_ ?_
      rotate_left
      ·intro w'
       go_simp
       with_reducible rfl
      rotate_left
      ·simp only [Act.put, List.setIfInBounds_toArray, List.set_cons_zero, List.set_cons_succ, i64_w, i32_w]
       rfl
      refine pure_ (i := 28) (N := some 33) (v := ?_) (a' := ?_) #[true, true, true, true, true, true, true, true, true, true, true, true, true, true, true, true, true, true, true, true, true, true, true, true, true, true, true, true, true] rfl rfl (any_of HT_.out (by kernel_rfl)) (fun _ _ _ h => h) (Or.inl ⟨by rfl, ?_⟩) ?_ ?_
      rotate_left
      ·intro w'
       go_simp
       with_reducible rfl
      rotate_left
      ·simp only [Act.put, List.setIfInBounds_toArray, List.set_cons_zero, List.set_cons_succ, i64_w, i32_w]
       rfl
      refine done_ (done_of HT_.out (by kernel_rfl)) ?_
      try go_wp2
      go_ret
      exact ⟨y11_, y13_⟩
     ·replace c13 := Bool.eq_false_iff.mpr c13
      subst c13
      rw [if_neg (show ¬ (false = true) by decide)] at H
      replace H := Option.bind_eq_some_iff.mp H
      obtain ⟨t201, A170, H⟩ := H
      have A17 := Aside0.mk A170
      clear A170
      obtain rfl := Option.some.inj H
      go_enter Tryd.func12, Tryd.ntmps12
      try go_wp2
      have n0_ := Aside0.mk (below_drew1 HB.out)
      clear HB
      have HB := n0_
      clear n0_
      have p195 : 0 ≤ (a1 : Int) := of_decide_eq_true y2_
      have q195 : a1 < (l0.length : Int) := of_decide_eq_true y2_
      obtain ⟨ad195, A195_4, c195_4, e195, hx195_0, hx195_1, hx195_2, hx195_3, hx195_4, hl195_4, hi195_4⟩ := at_T35 HR0.out a1 p195 q195
      have hw195_4 := hx195_4
      have hw195_3 := hx195_3
      have hw195_2 := hx195_2
      have hw195_1 := hx195_1
      have hw195_0 := hx195_0
      cases e195
      replace hx195_0 := (HB.out.cell (World.block_lt_of_cell? w _ hx195_0)).trans hx195_0
      replace hx195_1 := (HB.out.cell (World.block_lt_of_cell? w _ hx195_1)).trans hx195_1
      replace hx195_2 := (HB.out.cell (World.block_lt_of_cell? w _ hx195_2)).trans hx195_2
      replace hx195_3 := (HB.out.cell (World.block_lt_of_cell? w _ hx195_3)).trans hx195_3
      replace hx195_4 := (HB.out.cell (World.block_lt_of_cell? w _ hx195_4)).trans hx195_4
      have HR195_4 := Aside0.mk hi195_4
      have HC195_4 := Aside0.mk hl195_4
      clear hi195_4 hl195_4
      replace p195 := eq_true p195
      replace q195 := eq_true q195
      have p199 : 0 ≤ (a1 : Int) := of_decide_eq_true y2_
      have q199 : a1 < (l0.length : Int) := of_decide_eq_true y2_
      obtain ⟨ad199, A199_4, c199_4, e199, hx199_0, hx199_1, hx199_2, hx199_3, hx199_4, hl199_4, hi199_4⟩ := at_T35 HR0.out a1 p199 q199
      have hw199_4 := hx199_4
      have hw199_3 := hx199_3
      have hw199_2 := hx199_2
      have hw199_1 := hx199_1
      have hw199_0 := hx199_0
      obtain rfl : ad195 = ad199 := (by injection e199)
      replace hx199_0 := (HB.out.cell (World.block_lt_of_cell? w _ hx199_0)).trans hx199_0
      replace hx199_1 := (HB.out.cell (World.block_lt_of_cell? w _ hx199_1)).trans hx199_1
      replace hx199_2 := (HB.out.cell (World.block_lt_of_cell? w _ hx199_2)).trans hx199_2
      replace hx199_3 := (HB.out.cell (World.block_lt_of_cell? w _ hx199_3)).trans hx199_3
      replace hx199_4 := (HB.out.cell (World.block_lt_of_cell? w _ hx199_4)).trans hx199_4
      have HR199_4 := Aside0.mk hi199_4
      have HC199_4 := Aside0.mk hl199_4
      clear hi199_4 hl199_4
      replace p199 := eq_true p199
      replace q199 := eq_true q199
      have ea_ := Option.some.inj (hx195_4.symm.trans hx199_4)
      injection ea_ with ea_ en_ ec_
      subst ea_
      subst ec_
      clear en_
      refine start_ (n := 29) (S := fun w' => w'.cell? (ad195.add ((a1).toNat * 5)) = some (.int .i64 ((rd_T35 l0 a1).f0)) ∧ w'.cell? ⟨(ad195.add ((a1).toNat * 5)).block, (ad195.add ((a1).toNat * 5)).off + 1, none⟩ = some (.int .i64 ((rd_T35 l0 a1).f1)) ∧ w'.cell? ⟨(ad195.add ((a1).toNat * 5)).block, (ad195.add ((a1).toNat * 5)).off + 2, none⟩ = some (.string ((rd_T35 l0 a1).f2)) ∧ w'.cell? ⟨(ad195.add ((a1).toNat * 5)).block, (ad195.add ((a1).toNat * 5)).off + 3, none⟩ = some (.string ((rd_T35 l0 a1).f3)) ∧ w'.cell? ⟨(ad195.add ((a1).toNat * 5)).block, (ad195.add ((a1).toNat * 5)).off + 4, none⟩ = some (.slice A195_4 ((rd_T35 l0 a1).f4).length c195_4) ∧ w'.cell? (ad195.add ((a1).toNat * 5)) = some (.int .i64 ((rd_T35 l0 a1).f0)) ∧ w'.cell? ⟨(ad195.add ((a1).toNat * 5)).block, (ad195.add ((a1).toNat * 5)).off + 1, none⟩ = some (.int .i64 ((rd_T35 l0 a1).f1)) ∧ w'.cell? ⟨(ad195.add ((a1).toNat * 5)).block, (ad195.add ((a1).toNat * 5)).off + 2, none⟩ = some (.string ((rd_T35 l0 a1).f2)) ∧ w'.cell? ⟨(ad195.add ((a1).toNat * 5)).block, (ad195.add ((a1).toNat * 5)).off + 3, none⟩ = some (.string ((rd_T35 l0 a1).f3)) ∧ w'.cell? ⟨(ad195.add ((a1).toNat * 5)).block, (ad195.add ((a1).toNat * 5)).off + 4, none⟩ = some (.slice A195_4 ((rd_T35 l0 a1).f4).length c195_4)) (ds := []) #[false, false, false, false, false, false, false, false, false, false, false, false, false, false, false, false, false, false, false, false, false, false, false, false, false, false, false, false, false] (by kernel_rfl) rfl rfl ⟨((HB.out.cell (World.block_lt_of_cell? w _ hw195_0)).trans hw195_0), ((HB.out.cell (World.block_lt_of_cell? w _ hw195_1)).trans hw195_1), ((HB.out.cell (World.block_lt_of_cell? w _ hw195_2)).trans hw195_2), ((HB.out.cell (World.block_lt_of_cell? w _ hw195_3)).trans hw195_3), ((HB.out.cell (World.block_lt_of_cell? w _ hw195_4)).trans hw195_4), ((HB.out.cell (World.block_lt_of_cell? w _ hw199_0)).trans hw199_0), ((HB.out.cell (World.block_lt_of_cell? w _ hw199_1)).trans hw199_1), ((HB.out.cell (World.block_lt_of_cell? w _ hw199_2)).trans hw199_2), ((HB.out.cell (World.block_lt_of_cell? w _ hw199_3)).trans hw199_3), ((HB.out.cell (World.block_lt_of_cell? w _ hw199_4)).trans hw199_4)⟩ (fun hHeld => ?_); refine with_tabW boltingref08_Inside.tab1 boltingref08_Inside.bits1 (fun HT_ HW_ => ?_)
      generalize w.drew = w18 at HB HR195_4 HR199_4 hx195_0 hx195_1 hx195_2 hx195_3 hx195_4 hx199_0 hx199_1 hx199_2 hx199_3 hx199_4 hHeld ⊢
      refine pure_ (i := 0) (N := some 5) (v := ?_) (a' := ?_) #[true, false, false, false, false, false, false, false, false, false, false, false, false, false, false, false, false, false, false, false, false, false, false, false, false, false, false, false, false] rfl rfl (any_of HT_.out (by kernel_rfl)) (fun _ _ _ h => h) (Or.inl ⟨by rfl, ?_⟩) ?_ ?_
      rotate_left
      ·intro w'
       go_simp
       with_reducible rfl
      rotate_left
      ·simp only [Act.put, List.setIfInBounds_toArray, List.set_cons_zero, List.set_cons_succ, i64_w, i32_w]
       rfl
      refine pure_ (i := 1) (N := some 6) (v := ?_) (a' := ?_) #[true, true, false, false, false, false, false, false, false, false, false, false, false, false, false, false, false, false, false, false, false, false, false, false, false, false, false, false, false] rfl rfl (any_of HT_.out (by kernel_rfl)) (fun _ _ _ h => h) (Or.inl ⟨by rfl, ?_⟩) ?_ ?_
      rotate_left
      ·intro w'
       go_simp
       with_reducible rfl
      rotate_left
      ·simp only [Act.put, List.setIfInBounds_toArray, List.set_cons_zero, List.set_cons_succ, i64_w, i32_w]
       rfl
      refine pure_ (i := 2) (N := some 7) (v := ?_) (a' := ?_) #[true, true, true, false, false, false, false, false, false, false, false, false, false, false, false, false, false, false, false, false, false, false, false, false, false, false, false, false, false] rfl rfl (any_of HT_.out (by kernel_rfl)) (fun _ _ _ h => h) (Or.inl ⟨by rfl, ?_⟩) ?_ ?_
      rotate_left
      ·intro w'
       go_simp
       with_reducible rfl
      rotate_left
      ·simp only [Act.put, List.setIfInBounds_toArray, List.set_cons_zero, List.set_cons_succ, i64_w, i32_w]
       rfl
      refine pure_ (i := 3) (N := some 8) (v := ?_) (a' := ?_) #[true, true, true, true, false, false, false, false, false, false, false, false, false, false, false, false, false, false, false, false, false, false, false, false, false, false, false, false, false] rfl rfl (any_of HT_.out (by kernel_rfl)) (fun _ _ _ h => h) (Or.inl ⟨by rfl, ?_⟩) ?_ ?_
      rotate_left
      ·intro w'
       go_simp
       with_reducible rfl
      rotate_left
      ·simp only [Act.put, List.setIfInBounds_toArray, List.set_cons_zero, List.set_cons_succ, i64_w, i32_w]
       rfl
      refine pure_ (i := 4) (N := some 9) (v := ?_) (a' := ?_) #[true, true, true, true, true, false, false, false, false, false, false, false, false, false, false, false, false, false, false, false, false, false, false, false, false, false, false, false, false] rfl rfl (any_of HT_.out (by kernel_rfl)) (fun _ _ _ h => h) (Or.inl ⟨by rfl, ?_⟩) ?_ ?_
      rotate_left
      ·intro w'
       go_simp
       with_reducible rfl
      rotate_left
      ·simp only [Act.put, List.setIfInBounds_toArray, List.set_cons_zero, List.set_cons_succ, i64_w, i32_w]
       rfl
      refine pure_ (i := 5) (N := some 10) (v := ?_) (a' := ?_) #[true, true, true, true, true, true, false, false, false, false, false, false, false, false, false, false, false, false, false, false, false, false, false, false, false, false, false, false, false] rfl rfl (any_of HT_.out (by kernel_rfl)) (fun _ _ _ h => h) (Or.inl ⟨by rfl, ?_⟩) ?_ ?_
      rotate_left
      ·intro w'
       go_simp
       with_reducible rfl
      rotate_left
      ·simp only [Act.put, List.setIfInBounds_toArray, List.set_cons_zero, List.set_cons_succ, i64_w, i32_w]
       rfl
      refine pure_ (i := 6) (N := some 11) (v := ?_) (a' := ?_) #[true, true, true, true, true, true, true, false, false, false, false, false, false, false, false, false, false, false, false, false, false, false, false, false, false, false, false, false, false] rfl rfl (any_of HT_.out (by kernel_rfl)) (fun _ _ _ h => h) (Or.inl ⟨by rfl, ?_⟩) ?_ ?_
      rotate_left
      ·intro w'
       go_simp
       with_reducible rfl
      rotate_left
      ·simp only [Act.put, List.setIfInBounds_toArray, List.set_cons_zero, List.set_cons_succ, i64_w, i32_w]
       rfl
      refine pure_ (i := 7) (N := some 12) (v := ?_) (a' := ?_) #[true, true, true, true, true, true, true, true, false, false, false, false, false, false, false, false, false, false, false, false, false, false, false, false, false, false, false, false, false] rfl rfl (any_of HT_.out (by kernel_rfl)) (fun _ _ _ h => h) (Or.inl ⟨by rfl, ?_⟩) ?_ ?_
      rotate_left
      ·intro w'
       go_simp
       with_reducible rfl
      rotate_left
      ·simp only [Act.put, List.setIfInBounds_toArray, List.set_cons_zero, List.set_cons_succ, i64_w, i32_w]
       rfl
      refine pure_ (i := 8) (N := some 13) (v := ?_) (a' := ?_) #[true, true, true, true, true, true, true, true, true, false, false, false, false, false, false, false, false, false, false, false, false, false, false, false, false, false, false, false, false] rfl rfl (any_of HT_.out (by kernel_rfl)) (fun _ _ _ h => h) (Or.inl ⟨by rfl, ?_⟩) ?_ ?_
      rotate_left
      ·intro w'
       go_simp
       with_reducible rfl
      rotate_left
      ·simp only [Act.put, List.setIfInBounds_toArray, List.set_cons_zero, List.set_cons_succ, i64_w, i32_w]
       rfl
      refine pure_ (i := 9) (N := some 14) (v := ?_) (a' := ?_) #[true, true, true, true, true, true, true, true, true, true, false, false, false, false, false, false, false, false, false, false, false, false, false, false, false, false, false, false, false] rfl rfl (any_of HT_.out (by kernel_rfl)) (fun _ _ _ h => h) (Or.inl ⟨by rfl, ?_⟩) ?_ ?_
      rotate_left
      ·intro w'
       go_simp
       with_reducible rfl
      rotate_left
      ·simp only [Act.put, List.setIfInBounds_toArray, List.set_cons_zero, List.set_cons_succ, i64_w, i32_w]
       rfl
      refine pure_ (i := 10) (N := some 15) (v := ?_) (a' := ?_) #[true, true, true, true, true, true, true, true, true, true, true, false, false, false, false, false, false, false, false, false, false, false, false, false, false, false, false, false, false] rfl rfl (any_of HT_.out (by kernel_rfl)) (fun _ _ _ h => h) (Or.inl ⟨by rfl, ?_⟩) ?_ ?_
      rotate_left
      ·intro w'
       go_simp
       with_reducible rfl
      rotate_left
      ·simp only [Act.put, List.setIfInBounds_toArray, List.set_cons_zero, List.set_cons_succ, i64_w, i32_w]
       rfl
      refine pure_ (i := 11) (N := some 16) (v := ?_) (a' := ?_) #[true, true, true, true, true, true, true, true, true, true, true, true, false, false, false, false, false, false, false, false, false, false, false, false, false, false, false, false, false] rfl rfl (any_of HT_.out (by kernel_rfl)) (fun _ _ _ h => h) (Or.inl ⟨by rfl, ?_⟩) ?_ ?_
      rotate_left
      ·intro w'
       go_simp
       with_reducible rfl
      rotate_left
      ·simp only [Act.put, List.setIfInBounds_toArray, List.set_cons_zero, List.set_cons_succ, i64_w, i32_w]
       rfl
      refine pure_ (i := 12) (N := some 17) (v := ?_) (a' := ?_) #[true, true, true, true, true, true, true, true, true, true, true, true, true, false, false, false, false, false, false, false, false, false, false, false, false, false, false, false, false] rfl rfl (any_of HT_.out (by kernel_rfl)) (fun _ _ _ h => h) (Or.inl ⟨by rfl, ?_⟩) ?_ ?_
      rotate_left
      ·intro w'
       go_simp
       with_reducible rfl
      rotate_left
      ·simp only [Act.put, List.setIfInBounds_toArray, List.set_cons_zero, List.set_cons_succ, i64_w, i32_w]
       rfl
      refine pure_ (i := 13) (N := some 18) (v := ?_) (a' := ?_) #[true, true, true, true, true, true, true, true, true, true, true, true, true, true, false, false, false, false, false, false, false, false, false, false, false, false, false, false, false] rfl rfl (any_of HT_.out (by kernel_rfl)) (fun _ _ _ h => h) (Or.inl ⟨by rfl, ?_⟩) ?_ ?_
      rotate_left
      ·intro w'
       go_simp
       with_reducible rfl
      rotate_left
      ·simp only [Act.put, List.setIfInBounds_toArray, List.set_cons_zero, List.set_cons_succ, i64_w, i32_w]
       rfl
      refine pure_ (i := 14) (N := some 19) (v := ?_) (a' := ?_) #[true, true, true, true, true, true, true, true, true, true, true, true, true, true, true, false, false, false, false, false, false, false, false, false, false, false, false, false, false] rfl rfl (any_of HT_.out (by kernel_rfl)) (fun _ _ _ h => h) (Or.inl ⟨by rfl, ?_⟩) ?_ ?_
      rotate_left
      ·intro w'
       go_simp
       with_reducible rfl
      rotate_left
      ·simp only [Act.put, List.setIfInBounds_toArray, List.set_cons_zero, List.set_cons_succ, i64_w, i32_w]
       rfl
      refine pure_ (i := 15) (N := some 20) (v := ?_) (a' := ?_) #[true, true, true, true, true, true, true, true, true, true, true, true, true, true, true, true, false, false, false, false, false, false, false, false, false, false, false, false, false] rfl rfl (any_of HT_.out (by kernel_rfl)) (fun _ _ _ h => h) (Or.inl ⟨by rfl, ?_⟩) ?_ ?_
      rotate_left
      ·intro w'
       go_simp
       with_reducible rfl
      rotate_left
      ·simp only [Act.put, List.setIfInBounds_toArray, List.set_cons_zero, List.set_cons_succ, i64_w, i32_w]
       rfl
      refine take_ (i := 16) (N := some 21) (v := ?_) (a' := ?_) #[true, true, true, true, true, true, true, true, true, true, true, true, true, true, true, true, true, false, false, false, false, false, false, false, false, false, false, false, false] rfl rfl (take_ofW HT_.out HW_.out (by kernel_rfl)) (fun _ _ _ h => h) (Or.inl ⟨by rfl, ?_⟩) hHeld ?_ ?_
      rotate_left
      ·rintro w' ⟨s0, s1, s2, s3, s4, s5, s6, s7, s8, s9⟩
       go_simp
       with_reducible rfl
      rotate_left
      ·simp only [Act.put, List.setIfInBounds_toArray, List.set_cons_zero, List.set_cons_succ, i64_w, i32_w]
       rfl
      refine pure_ (i := 17) (N := some 22) (v := ?_) (a' := ?_) #[true, true, true, true, true, true, true, true, true, true, true, true, true, true, true, true, true, true, false, false, false, false, false, false, false, false, false, false, false] rfl rfl (any_of HT_.out (by kernel_rfl)) (fun _ _ _ h => h) (Or.inl ⟨by rfl, ?_⟩) ?_ ?_
      rotate_left
      ·intro w'
       go_simp
       with_reducible rfl
      rotate_left
      ·simp only [Act.put, List.setIfInBounds_toArray, List.set_cons_zero, List.set_cons_succ, i64_w, i32_w]
       rfl
      refine pure_ (i := 18) (N := some 23) (v := ?_) (a' := ?_) #[true, true, true, true, true, true, true, true, true, true, true, true, true, true, true, true, true, true, true, false, false, false, false, false, false, false, false, false, false] rfl rfl (any_of HT_.out (by kernel_rfl)) (fun _ _ _ h => h) (Or.inl ⟨by rfl, ?_⟩) ?_ ?_
      rotate_left
      ·intro w'
       go_simp
       with_reducible rfl
      rotate_left
      ·simp only [Act.put, List.setIfInBounds_toArray, List.set_cons_zero, List.set_cons_succ, i64_w, i32_w]
       rfl
      refine pure_ (i := 20) (N := some 25) (v := ?_) (a' := ?_) #[true, true, true, true, true, true, true, true, true, true, true, true, true, true, true, true, true, true, true, false, true, false, false, false, false, false, false, false, false] rfl rfl (any_of HT_.out (by kernel_rfl)) (fun _ _ _ h => h) (Or.inl ⟨by rfl, ?_⟩) ?_ ?_
      rotate_left
      ·intro w'
       go_simp
       with_reducible rfl
      rotate_left
      ·simp only [Act.put, List.setIfInBounds_toArray, List.set_cons_zero, List.set_cons_succ, i64_w, i32_w]
       rfl
      refine pure_ (i := 21) (N := some 26) (v := ?_) (a' := ?_) #[true, true, true, true, true, true, true, true, true, true, true, true, true, true, true, true, true, true, true, false, true, true, false, false, false, false, false, false, false] rfl rfl (any_of HT_.out (by kernel_rfl)) (fun _ _ _ h => h) (Or.inl ⟨by rfl, ?_⟩) ?_ ?_
      rotate_left
      ·intro w'
       go_simp
       with_reducible rfl
      rotate_left
      ·simp only [Act.put, List.setIfInBounds_toArray, List.set_cons_zero, List.set_cons_succ, i64_w, i32_w]
       rfl
      refine pure_ (i := 22) (N := some 27) (v := ?_) (a' := ?_) #[true, true, true, true, true, true, true, true, true, true, true, true, true, true, true, true, true, true, true, false, true, true, true, false, false, false, false, false, false] rfl rfl (any_of HT_.out (by kernel_rfl)) (fun _ _ _ h => h) (Or.inl ⟨by rfl, ?_⟩) ?_ ?_
      rotate_left
      ·intro w'
       go_simp
       with_reducible rfl
      rotate_left
      ·simp only [Act.put, List.setIfInBounds_toArray, List.set_cons_zero, List.set_cons_succ, i64_w, i32_w]
       rfl
      refine pure_ (i := 23) (N := some 28) (v := ?_) (a' := ?_) #[true, true, true, true, true, true, true, true, true, true, true, true, true, true, true, true, true, true, true, false, true, true, true, true, false, false, false, false, false] rfl rfl (any_of HT_.out (by kernel_rfl)) (fun _ _ _ h => h) (Or.inl ⟨by rfl, ?_⟩) ?_ ?_
      rotate_left
      ·intro w'
       go_simp
       with_reducible rfl
      rotate_left
      ·simp only [Act.put, List.setIfInBounds_toArray, List.set_cons_zero, List.set_cons_succ, i64_w, i32_w]
       rfl
      refine take_ (i := 24) (N := some 29) (v := ?_) (a' := ?_) #[true, true, true, true, true, true, true, true, true, true, true, true, true, true, true, true, true, true, true, false, true, true, true, true, true, false, false, false, false] rfl rfl (take_ofW HT_.out HW_.out (by kernel_rfl)) (fun _ _ _ h => h) (Or.inl ⟨by rfl, ?_⟩) hHeld ?_ ?_
      rotate_left
      ·rintro w' ⟨s0, s1, s2, s3, s4, s5, s6, s7, s8, s9⟩
       go_simp
       with_reducible rfl
      rotate_left
      ·simp only [Act.put, List.setIfInBounds_toArray, List.set_cons_zero, List.set_cons_succ, i64_w, i32_w]
       rfl
      refine one_ (i := 19) (N := some 24) #[true, true, true, true, true, true, true, true, true, true, true, true, true, true, true, true, true, true, true, true, true, true, true, true, true, false, false, false, false] rfl rfl (one_of HT_.out (by kernel_rfl)) (by decide) (fun K hK => ?_)
      refine goes_ Tryd.func24 (by kernel_rfl) rfl #[] (by rfl) rfl rfl y14_ ?_
      with_reducible refine (boltingref05_Void.calls  t196 _ A11.out).mono ?_
      rintro e w19 ⟨v197, rfl, ho0, hb⟩
      refine ⟨_, rfl, ?_⟩
      have n0_ := Aside0.mk (Kd.R_lower ho0 (below_size y13_))
      have n1_ := Aside0.mk (below_step y13_ hb)
      clear HB
      have HO198 := n0_
      have HB := n1_
      clear n0_ n1_
      (try clear hb)
      (try clear hb2)
      (try clear hk)
      (try clear hi)
      (try clear ho0)
      obtain ⟨Ao20, co20, eo20⟩ := Kd.R_slice HO198.out
      (first | subst eo20 | (injection eo20 with f1_ f2_ f3_; have f4_ := f1_.symm; have f5_ := f3_.symm; clear f1_ f2_ f3_; subst f4_; subst f5_))
      refine hK.out _ _ ⟨((HB.out.cell (World.block_lt_of_cell? w _ hw195_0)).trans hw195_0), ((HB.out.cell (World.block_lt_of_cell? w _ hw195_1)).trans hw195_1), ((HB.out.cell (World.block_lt_of_cell? w _ hw195_2)).trans hw195_2), ((HB.out.cell (World.block_lt_of_cell? w _ hw195_3)).trans hw195_3), ((HB.out.cell (World.block_lt_of_cell? w _ hw195_4)).trans hw195_4), ((HB.out.cell (World.block_lt_of_cell? w _ hw199_0)).trans hw199_0), ((HB.out.cell (World.block_lt_of_cell? w _ hw199_1)).trans hw199_1), ((HB.out.cell (World.block_lt_of_cell? w _ hw199_2)).trans hw199_2), ((HB.out.cell (World.block_lt_of_cell? w _ hw199_3)).trans hw199_3), ((HB.out.cell (World.block_lt_of_cell? w _ hw199_4)).trans hw199_4)⟩ (fun hHeld => ?_)
      clear hK K
      refine norm_ (a' := ?_) ?_ ?_
      rotate_left
      ·show Act.put _ (some 24) _ = _
       simp only [Act.put, List.setIfInBounds_toArray, List.set_cons_zero, List.set_cons_succ, i64_w, i32_w]
       rfl
      refine one_ (i := 25) (N := some 30) #[true, true, true, true, true, true, true, true, true, true, true, true, true, true, true, true, true, true, true, true, true, true, true, true, true, true, false, false, false] rfl rfl (one_of HT_.out (by kernel_rfl)) (by decide) (fun K hK => ?_)
      refine goes_ Tryd.func21 (by kernel_rfl) rfl #[.slice Ao20 t196.length co20, .string ((rd_T35 l0 a1).f2)] (by rfl) rfl rfl y14_ ?_
      with_reducible refine (boltingref02_Has.calls k _ _ t196 ((rd_T35 l0 a1).f2) false _ ?side1 ?side2 A12.out).mono ?_
      (case side1 => repeat (first | exact (Kd.R_reads' HO198.out).2.2 | (with_reducible refine Kd.C_alloc ?_ _) | (with_reducible refine Kd.C_drewN ?_ _) | (with_reducible refine Kd.C_drew ?_)))
      (case side2 => exact (Kd.R_reads' HO198.out).2.1)
      rintro e w' ⟨rfl, ⟨nd, rfl⟩⟩
      refine ⟨_, rfl, ?_⟩
      refine hK.out _ _ ⟨((HB.out.cell (World.block_lt_of_cell? w _ hw195_0)).trans hw195_0), ((HB.out.cell (World.block_lt_of_cell? w _ hw195_1)).trans hw195_1), ((HB.out.cell (World.block_lt_of_cell? w _ hw195_2)).trans hw195_2), ((HB.out.cell (World.block_lt_of_cell? w _ hw195_3)).trans hw195_3), ((HB.out.cell (World.block_lt_of_cell? w _ hw195_4)).trans hw195_4), ((HB.out.cell (World.block_lt_of_cell? w _ hw199_0)).trans hw199_0), ((HB.out.cell (World.block_lt_of_cell? w _ hw199_1)).trans hw199_1), ((HB.out.cell (World.block_lt_of_cell? w _ hw199_2)).trans hw199_2), ((HB.out.cell (World.block_lt_of_cell? w _ hw199_3)).trans hw199_3), ((HB.out.cell (World.block_lt_of_cell? w _ hw199_4)).trans hw199_4)⟩ (fun hHeld => ?_)
      clear hK K
      refine norm_ (a' := ?_) ?_ ?_
      rotate_left
      ·show Act.put _ (some 30) _ = _
       simp only [Act.put, List.setIfInBounds_toArray, List.set_cons_zero, List.set_cons_succ, i64_w, i32_w]
       rfl
      refine pure_ (i := 26) (N := some 31) (v := ?_) (a' := ?_) #[true, true, true, true, true, true, true, true, true, true, true, true, true, true, true, true, true, true, true, true, true, true, true, true, true, true, true, false, false] rfl rfl (any_of HT_.out (by kernel_rfl)) (fun _ _ _ h => h) (Or.inl ⟨by rfl, ?_⟩) ?_ ?_
      rotate_left
      ·intro w'
       go_simp
       with_reducible rfl
      rotate_left
      ·simp only [Act.put, List.setIfInBounds_toArray, List.set_cons_zero, List.set_cons_succ, i64_w, i32_w]
       rfl
      refine pure_ (i := 27) (N := some 32) (v := ?_) (a' := ?_) #[true, true, true, true, true, true, true, true, true, true, true, true, true, true, true, true, true, true, true, true, true, true, true, true, true, true, true, true, false] rfl rfl (any_of HT_.out (by kernel_rfl)) (fun _ _ _ h => h) (Or.inl ⟨by rfl, ?_⟩) ?_ ?_
      rotate_left
      ·intro w'
       go_simp
       with_reducible rfl
      rotate_left
      ·simp only [Act.put, List.setIfInBounds_toArray, List.set_cons_zero, List.set_cons_succ, i64_w, i32_w]
       rfl
      refine pure_ (i := 28) (N := some 33) (v := ?_) (a' := ?_) #[true, true, true, true, true, true, true, true, true, true, true, true, true, true, true, true, true, true, true, true, true, true, true, true, true, true, true, true, true] rfl rfl (any_of HT_.out (by kernel_rfl)) (fun _ _ _ h => h) (Or.inl ⟨by rfl, ?_⟩) ?_ ?_
      rotate_left
      ·intro w'
       go_simp
       with_reducible rfl
      rotate_left
      ·simp only [Act.put, List.setIfInBounds_toArray, List.set_cons_zero, List.set_cons_succ, i64_w, i32_w]
       rfl
      refine done_ (done_of HT_.out (by kernel_rfl)) ?_
      try go_wp2_with (first | ((with_reducible refine gate_callee (f := 10) rfl ?_); refine goesL_ (some 36) rfl rfl Tryd.func10 (by kernel_rfl) rfl #[.slice (some ad195) l0.length c0, .int .i64 a1] rfl y14_ ?_; (with_reducible refine (boltingref08_Within.calls k _ _ l0 a1 t201 _ ?side1 ?side2 A17.out).mono ?_); (case side1 => repeat (first | exact (Kd.C_below HR0.out y13_) | (with_reducible refine Kd.C_alloc ?_ _) | (with_reducible refine Kd.C_drewN ?_ _) | (with_reducible refine Kd.C_drew ?_))); (case side2 => exact HC0.out); rintro e w21 ⟨rfl, hb⟩; refine ⟨_, rfl, ?_⟩; have n0_ := Aside0.mk (Kd.R_below (y7_ HO198.out) hb); have n1_ := Aside0.mk (below_step y13_ hb); clear HO198; clear HB; have HO198 := n0_; have HB := n1_; clear n0_ n1_; (try clear hb); (try clear hb2); (try clear hk); (try clear hi)))
      go_ret
      exact ⟨y11_, y13_⟩
    ·rw [if_neg c10] at H
     have c10b0 : (((rd_T35 l0 a1).f1) == 0) = false := beq_eq_false_iff_ne.mpr c10
     have c10b1 : (((rd_T35 l0 a1).f1) != 0) = true := bne_iff_ne.mpr c10
     obtain rfl := Option.some.inj H
     go_enter Tryd.func12, Tryd.ntmps12
     try go_wp2
     have n0_ := Aside0.mk (below_drew1 HB.out)
     clear HB
     have HB := n0_
     clear n0_
     have p195 : 0 ≤ (a1 : Int) := of_decide_eq_true y2_
     have q195 : a1 < (l0.length : Int) := of_decide_eq_true y2_
     obtain ⟨ad195, A195_4, c195_4, e195, hx195_0, hx195_1, hx195_2, hx195_3, hx195_4, hl195_4, hi195_4⟩ := at_T35 HR0.out a1 p195 q195
     have hw195_4 := hx195_4
     have hw195_3 := hx195_3
     have hw195_2 := hx195_2
     have hw195_1 := hx195_1
     have hw195_0 := hx195_0
     cases e195
     replace hx195_0 := (HB.out.cell (World.block_lt_of_cell? w _ hx195_0)).trans hx195_0
     replace hx195_1 := (HB.out.cell (World.block_lt_of_cell? w _ hx195_1)).trans hx195_1
     replace hx195_2 := (HB.out.cell (World.block_lt_of_cell? w _ hx195_2)).trans hx195_2
     replace hx195_3 := (HB.out.cell (World.block_lt_of_cell? w _ hx195_3)).trans hx195_3
     replace hx195_4 := (HB.out.cell (World.block_lt_of_cell? w _ hx195_4)).trans hx195_4
     have HR195_4 := Aside0.mk hi195_4
     have HC195_4 := Aside0.mk hl195_4
     clear hi195_4 hl195_4
     replace p195 := eq_true p195
     replace q195 := eq_true q195
     refine start_ (n := 29) (S := fun w' => w'.cell? (ad195.add ((a1).toNat * 5)) = some (.int .i64 ((rd_T35 l0 a1).f0)) ∧ w'.cell? ⟨(ad195.add ((a1).toNat * 5)).block, (ad195.add ((a1).toNat * 5)).off + 1, none⟩ = some (.int .i64 ((rd_T35 l0 a1).f1)) ∧ w'.cell? ⟨(ad195.add ((a1).toNat * 5)).block, (ad195.add ((a1).toNat * 5)).off + 2, none⟩ = some (.string ((rd_T35 l0 a1).f2)) ∧ w'.cell? ⟨(ad195.add ((a1).toNat * 5)).block, (ad195.add ((a1).toNat * 5)).off + 3, none⟩ = some (.string ((rd_T35 l0 a1).f3)) ∧ w'.cell? ⟨(ad195.add ((a1).toNat * 5)).block, (ad195.add ((a1).toNat * 5)).off + 4, none⟩ = some (.slice A195_4 ((rd_T35 l0 a1).f4).length c195_4)) (ds := []) #[false, false, false, false, false, false, false, false, false, false, false, false, false, false, false, false, false, false, false, false, false, false, false, false, false, false, false, false, false] (by kernel_rfl) rfl rfl ⟨((HB.out.cell (World.block_lt_of_cell? w _ hw195_0)).trans hw195_0), ((HB.out.cell (World.block_lt_of_cell? w _ hw195_1)).trans hw195_1), ((HB.out.cell (World.block_lt_of_cell? w _ hw195_2)).trans hw195_2), ((HB.out.cell (World.block_lt_of_cell? w _ hw195_3)).trans hw195_3), ((HB.out.cell (World.block_lt_of_cell? w _ hw195_4)).trans hw195_4)⟩ (fun hHeld => ?_); refine with_tabW boltingref08_Inside.tab1 boltingref08_Inside.bits1 (fun HT_ HW_ => ?_)
     generalize w.drew = w22 at HB HR195_4 hx195_0 hx195_1 hx195_2 hx195_3 hx195_4 hHeld ⊢
     refine pure_ (i := 0) (N := some 5) (v := ?_) (a' := ?_) #[true, false, false, false, false, false, false, false, false, false, false, false, false, false, false, false, false, false, false, false, false, false, false, false, false, false, false, false, false] rfl rfl (any_of HT_.out (by kernel_rfl)) (fun _ _ _ h => h) (Or.inl ⟨by rfl, ?_⟩) ?_ ?_
     rotate_left
     ·intro w'
      go_simp
      with_reducible rfl
     rotate_left
     ·simp only [Act.put, List.setIfInBounds_toArray, List.set_cons_zero, List.set_cons_succ, i64_w, i32_w]
      rfl
     refine pure_ (i := 1) (N := some 6) (v := ?_) (a' := ?_) #[true, true, false, false, false, false, false, false, false, false, false, false, false, false, false, false, false, false, false, false, false, false, false, false, false, false, false, false, false] rfl rfl (any_of HT_.out (by kernel_rfl)) (fun _ _ _ h => h) (Or.inl ⟨by rfl, ?_⟩) ?_ ?_
     rotate_left
     ·intro w'
      go_simp
      with_reducible rfl
     rotate_left
     ·simp only [Act.put, List.setIfInBounds_toArray, List.set_cons_zero, List.set_cons_succ, i64_w, i32_w]
      rfl
     refine pure_ (i := 2) (N := some 7) (v := ?_) (a' := ?_) #[true, true, true, false, false, false, false, false, false, false, false, false, false, false, false, false, false, false, false, false, false, false, false, false, false, false, false, false, false] rfl rfl (any_of HT_.out (by kernel_rfl)) (fun _ _ _ h => h) (Or.inl ⟨by rfl, ?_⟩) ?_ ?_
     rotate_left
     ·intro w'
      go_simp
      with_reducible rfl
     rotate_left
     ·simp only [Act.put, List.setIfInBounds_toArray, List.set_cons_zero, List.set_cons_succ, i64_w, i32_w]
      rfl
     refine pure_ (i := 3) (N := some 8) (v := ?_) (a' := ?_) #[true, true, true, true, false, false, false, false, false, false, false, false, false, false, false, false, false, false, false, false, false, false, false, false, false, false, false, false, false] rfl rfl (any_of HT_.out (by kernel_rfl)) (fun _ _ _ h => h) (Or.inl ⟨by rfl, ?_⟩) ?_ ?_
     rotate_left
     ·intro w'
      go_simp
      with_reducible rfl
     rotate_left
     ·simp only [Act.put, List.setIfInBounds_toArray, List.set_cons_zero, List.set_cons_succ, i64_w, i32_w]
      rfl
     refine pure_ (i := 4) (N := some 9) (v := ?_) (a' := ?_) #[true, true, true, true, true, false, false, false, false, false, false, false, false, false, false, false, false, false, false, false, false, false, false, false, false, false, false, false, false] rfl rfl (any_of HT_.out (by kernel_rfl)) (fun _ _ _ h => h) (Or.inl ⟨by rfl, ?_⟩) ?_ ?_
     rotate_left
     ·intro w'
      go_simp
      with_reducible rfl
     rotate_left
     ·simp only [Act.put, List.setIfInBounds_toArray, List.set_cons_zero, List.set_cons_succ, i64_w, i32_w]
      rfl
     refine pure_ (i := 5) (N := some 10) (v := ?_) (a' := ?_) #[true, true, true, true, true, true, false, false, false, false, false, false, false, false, false, false, false, false, false, false, false, false, false, false, false, false, false, false, false] rfl rfl (any_of HT_.out (by kernel_rfl)) (fun _ _ _ h => h) (Or.inl ⟨by rfl, ?_⟩) ?_ ?_
     rotate_left
     ·intro w'
      go_simp
      with_reducible rfl
     rotate_left
     ·simp only [Act.put, List.setIfInBounds_toArray, List.set_cons_zero, List.set_cons_succ, i64_w, i32_w]
      rfl
     refine pure_ (i := 6) (N := some 11) (v := ?_) (a' := ?_) #[true, true, true, true, true, true, true, false, false, false, false, false, false, false, false, false, false, false, false, false, false, false, false, false, false, false, false, false, false] rfl rfl (any_of HT_.out (by kernel_rfl)) (fun _ _ _ h => h) (Or.inl ⟨by rfl, ?_⟩) ?_ ?_
     rotate_left
     ·intro w'
      go_simp
      with_reducible rfl
     rotate_left
     ·simp only [Act.put, List.setIfInBounds_toArray, List.set_cons_zero, List.set_cons_succ, i64_w, i32_w]
      rfl
     refine pure_ (i := 7) (N := some 12) (v := ?_) (a' := ?_) #[true, true, true, true, true, true, true, true, false, false, false, false, false, false, false, false, false, false, false, false, false, false, false, false, false, false, false, false, false] rfl rfl (any_of HT_.out (by kernel_rfl)) (fun _ _ _ h => h) (Or.inl ⟨by rfl, ?_⟩) ?_ ?_
     rotate_left
     ·intro w'
      go_simp
      with_reducible rfl
     rotate_left
     ·simp only [Act.put, List.setIfInBounds_toArray, List.set_cons_zero, List.set_cons_succ, i64_w, i32_w]
      rfl
     refine pure_ (i := 8) (N := some 13) (v := ?_) (a' := ?_) #[true, true, true, true, true, true, true, true, true, false, false, false, false, false, false, false, false, false, false, false, false, false, false, false, false, false, false, false, false] rfl rfl (any_of HT_.out (by kernel_rfl)) (fun _ _ _ h => h) (Or.inl ⟨by rfl, ?_⟩) ?_ ?_
     rotate_left
     ·intro w'
      go_simp
      with_reducible rfl
     rotate_left
     ·simp only [Act.put, List.setIfInBounds_toArray, List.set_cons_zero, List.set_cons_succ, i64_w, i32_w]
      rfl
     refine pure_ (i := 9) (N := some 14) (v := ?_) (a' := ?_) #[true, true, true, true, true, true, true, true, true, true, false, false, false, false, false, false, false, false, false, false, false, false, false, false, false, false, false, false, false] rfl rfl (any_of HT_.out (by kernel_rfl)) (fun _ _ _ h => h) (Or.inl ⟨by rfl, ?_⟩) ?_ ?_
     rotate_left
     ·intro w'
      go_simp
      with_reducible rfl
     rotate_left
     ·simp only [Act.put, List.setIfInBounds_toArray, List.set_cons_zero, List.set_cons_succ, i64_w, i32_w]
      rfl
     refine pure_ (i := 10) (N := some 15) (v := ?_) (a' := ?_) #[true, true, true, true, true, true, true, true, true, true, true, false, false, false, false, false, false, false, false, false, false, false, false, false, false, false, false, false, false] rfl rfl (any_of HT_.out (by kernel_rfl)) (fun _ _ _ h => h) (Or.inl ⟨by rfl, ?_⟩) ?_ ?_
     rotate_left
     ·intro w'
      go_simp
      with_reducible rfl
     rotate_left
     ·simp only [Act.put, List.setIfInBounds_toArray, List.set_cons_zero, List.set_cons_succ, i64_w, i32_w]
      rfl
     refine pure_ (i := 11) (N := some 16) (v := ?_) (a' := ?_) #[true, true, true, true, true, true, true, true, true, true, true, true, false, false, false, false, false, false, false, false, false, false, false, false, false, false, false, false, false] rfl rfl (any_of HT_.out (by kernel_rfl)) (fun _ _ _ h => h) (Or.inl ⟨by rfl, ?_⟩) ?_ ?_
     rotate_left
     ·intro w'
      go_simp
      with_reducible rfl
     rotate_left
     ·simp only [Act.put, List.setIfInBounds_toArray, List.set_cons_zero, List.set_cons_succ, i64_w, i32_w]
      rfl
     refine pure_ (i := 12) (N := some 17) (v := ?_) (a' := ?_) #[true, true, true, true, true, true, true, true, true, true, true, true, true, false, false, false, false, false, false, false, false, false, false, false, false, false, false, false, false] rfl rfl (any_of HT_.out (by kernel_rfl)) (fun _ _ _ h => h) (Or.inl ⟨by rfl, ?_⟩) ?_ ?_
     rotate_left
     ·intro w'
      go_simp
      with_reducible rfl
     rotate_left
     ·simp only [Act.put, List.setIfInBounds_toArray, List.set_cons_zero, List.set_cons_succ, i64_w, i32_w]
      rfl
     refine pure_ (i := 13) (N := some 18) (v := ?_) (a' := ?_) #[true, true, true, true, true, true, true, true, true, true, true, true, true, true, false, false, false, false, false, false, false, false, false, false, false, false, false, false, false] rfl rfl (any_of HT_.out (by kernel_rfl)) (fun _ _ _ h => h) (Or.inl ⟨by rfl, ?_⟩) ?_ ?_
     rotate_left
     ·intro w'
      go_simp
      with_reducible rfl
     rotate_left
     ·simp only [Act.put, List.setIfInBounds_toArray, List.set_cons_zero, List.set_cons_succ, i64_w, i32_w]
      rfl
     refine pure_ (i := 14) (N := some 19) (v := ?_) (a' := ?_) #[true, true, true, true, true, true, true, true, true, true, true, true, true, true, true, false, false, false, false, false, false, false, false, false, false, false, false, false, false] rfl rfl (any_of HT_.out (by kernel_rfl)) (fun _ _ _ h => h) (Or.inl ⟨by rfl, ?_⟩) ?_ ?_
     rotate_left
     ·intro w'
      go_simp
      with_reducible rfl
     rotate_left
     ·simp only [Act.put, List.setIfInBounds_toArray, List.set_cons_zero, List.set_cons_succ, i64_w, i32_w]
      rfl
     refine pure_ (i := 15) (N := some 20) (v := ?_) (a' := ?_) #[true, true, true, true, true, true, true, true, true, true, true, true, true, true, true, true, false, false, false, false, false, false, false, false, false, false, false, false, false] rfl rfl (any_of HT_.out (by kernel_rfl)) (fun _ _ _ h => h) (Or.inl ⟨by rfl, ?_⟩) ?_ ?_
     rotate_left
     ·intro w'
      go_simp
      with_reducible rfl
     rotate_left
     ·simp only [Act.put, List.setIfInBounds_toArray, List.set_cons_zero, List.set_cons_succ, i64_w, i32_w]
      rfl
     refine take_ (i := 16) (N := some 21) (v := ?_) (a' := ?_) #[true, true, true, true, true, true, true, true, true, true, true, true, true, true, true, true, true, false, false, false, false, false, false, false, false, false, false, false, false] rfl rfl (take_ofW HT_.out HW_.out (by kernel_rfl)) (fun _ _ _ h => h) (Or.inl ⟨by rfl, ?_⟩) hHeld ?_ ?_
     rotate_left
     ·rintro w' ⟨s0, s1, s2, s3, s4⟩
      go_simp
      with_reducible rfl
     rotate_left
     ·simp only [Act.put, List.setIfInBounds_toArray, List.set_cons_zero, List.set_cons_succ, i64_w, i32_w]
      rfl
     refine pure_ (i := 17) (N := some 22) (v := ?_) (a' := ?_) #[true, true, true, true, true, true, true, true, true, true, true, true, true, true, true, true, true, true, false, false, false, false, false, false, false, false, false, false, false] rfl rfl (any_of HT_.out (by kernel_rfl)) (fun _ _ _ h => h) (Or.inl ⟨by rfl, ?_⟩) ?_ ?_
     rotate_left
     ·intro w'
      go_simp
      with_reducible rfl
     rotate_left
     ·simp only [Act.put, List.setIfInBounds_toArray, List.set_cons_zero, List.set_cons_succ, i64_w, i32_w]
      rfl
     refine pure_ (i := 18) (N := some 23) (v := ?_) (a' := ?_) #[true, true, true, true, true, true, true, true, true, true, true, true, true, true, true, true, true, true, true, false, false, false, false, false, false, false, false, false, false] rfl rfl (any_of HT_.out (by kernel_rfl)) (fun _ _ _ h => h) (Or.inl ⟨by rfl, ?_⟩) ?_ ?_
     rotate_left
     ·intro w'
      go_simp
      with_reducible rfl
     rotate_left
     ·simp only [Act.put, List.setIfInBounds_toArray, List.set_cons_zero, List.set_cons_succ, i64_w, i32_w]
      rfl
     refine pure_ (i := 19) (N := some 24) (v := undef) (a' := ?_) #[true, true, true, true, true, true, true, true, true, true, true, true, true, true, true, true, true, true, true, true, false, false, false, false, false, false, false, false, false] rfl rfl (any_of HT_.out (by kernel_rfl)) (fun _ _ _ h => h) (Or.inr ⟨by rfl, rfl⟩) ?_ ?_
     rotate_left
     ·simp only [Act.put, List.setIfInBounds_toArray, List.set_cons_zero, List.set_cons_succ, i64_w, i32_w]
      rfl
     refine pure_ (i := 20) (N := some 25) (v := undef) (a' := ?_) #[true, true, true, true, true, true, true, true, true, true, true, true, true, true, true, true, true, true, true, true, true, false, false, false, false, false, false, false, false] rfl rfl (any_of HT_.out (by kernel_rfl)) (fun _ _ _ h => h) (Or.inr ⟨by rfl, rfl⟩) ?_ ?_
     rotate_left
     ·simp only [Act.put, List.setIfInBounds_toArray, List.set_cons_zero, List.set_cons_succ, i64_w, i32_w]
      rfl
     refine pure_ (i := 21) (N := some 26) (v := undef) (a' := ?_) #[true, true, true, true, true, true, true, true, true, true, true, true, true, true, true, true, true, true, true, true, true, true, false, false, false, false, false, false, false] rfl rfl (any_of HT_.out (by kernel_rfl)) (fun _ _ _ h => h) (Or.inr ⟨by rfl, rfl⟩) ?_ ?_
     rotate_left
     ·simp only [Act.put, List.setIfInBounds_toArray, List.set_cons_zero, List.set_cons_succ, i64_w, i32_w]
      rfl
     refine pure_ (i := 22) (N := some 27) (v := undef) (a' := ?_) #[true, true, true, true, true, true, true, true, true, true, true, true, true, true, true, true, true, true, true, true, true, true, true, false, false, false, false, false, false] rfl rfl (any_of HT_.out (by kernel_rfl)) (fun _ _ _ h => h) (Or.inr ⟨by rfl, rfl⟩) ?_ ?_
     rotate_left
     ·simp only [Act.put, List.setIfInBounds_toArray, List.set_cons_zero, List.set_cons_succ, i64_w, i32_w]
      rfl
     refine pure_ (i := 23) (N := some 28) (v := undef) (a' := ?_) #[true, true, true, true, true, true, true, true, true, true, true, true, true, true, true, true, true, true, true, true, true, true, true, true, false, false, false, false, false] rfl rfl (any_of HT_.out (by kernel_rfl)) (fun _ _ _ h => h) (Or.inr ⟨by rfl, rfl⟩) ?_ ?_
     rotate_left
     ·simp only [Act.put, List.setIfInBounds_toArray, List.set_cons_zero, List.set_cons_succ, i64_w, i32_w]
      rfl
     refine pure_ (i := 24) (N := some 29) (v := undef) (a' := ?_) #[true, true, true, true, true, true, true, true, true, true, true, true, true, true, true, true, true, true, true, true, true, true, true, true, true, false, false, false, false] rfl rfl (any_of HT_.out (by kernel_rfl)) (fun _ _ _ h => h) (Or.inr ⟨by rfl, rfl⟩) ?_ ?_
     rotate_left
     ·simp only [Act.put, List.setIfInBounds_toArray, List.set_cons_zero, List.set_cons_succ, i64_w, i32_w]
      rfl
     refine pure_ (i := 25) (N := some 30) (v := undef) (a' := ?_) #[true, true, true, true, true, true, true, true, true, true, true, true, true, true, true, true, true, true, true, true, true, true, true, true, true, true, false, false, false] rfl rfl (any_of HT_.out (by kernel_rfl)) (fun _ _ _ h => h) (Or.inr ⟨by rfl, rfl⟩) ?_ ?_
     rotate_left
     ·simp only [Act.put, List.setIfInBounds_toArray, List.set_cons_zero, List.set_cons_succ, i64_w, i32_w]
      rfl
     refine pure_ (i := 26) (N := some 31) (v := ?_) (a' := ?_) #[true, true, true, true, true, true, true, true, true, true, true, true, true, true, true, true, true, true, true, true, true, true, true, true, true, true, true, false, false] rfl rfl (any_of HT_.out (by kernel_rfl)) (fun _ _ _ h => h) (Or.inl ⟨by rfl, ?_⟩) ?_ ?_
     rotate_left
     ·intro w'
      go_simp
      with_reducible rfl
     rotate_left
     ·simp only [Act.put, List.setIfInBounds_toArray, List.set_cons_zero, List.set_cons_succ, i64_w, i32_w]
      rfl
     refine pure_ (i := 27) (N := some 32) (v := ?_) (a' := ?_) #[true, true, true, true, true, true, true, true, true, true, true, true, true, true, true, true, true, true, true, true, true, true, true, true, true, true, true, true, false] rfl rfl (any_of HT_.out (by kernel_rfl)) (fun _ _ _ h => h) (Or.inl ⟨by rfl, ?_⟩) ?_ ?_
     rotate_left
     ·intro w'
      go_simp
      with_reducible rfl
     rotate_left
     ·simp only [Act.put, List.setIfInBounds_toArray, List.set_cons_zero, List.set_cons_succ, i64_w, i32_w]
      rfl
     refine pure_ (i := 28) (N := some 33) (v := ?_) (a' := ?_) #[true, true, true, true, true, true, true, true, true, true, true, true, true, true, true, true, true, true, true, true, true, true, true, true, true, true, true, true, true] rfl rfl (any_of HT_.out (by kernel_rfl)) (fun _ _ _ h => h) (Or.inl ⟨by rfl, ?_⟩) ?_ ?_
     rotate_left
     ·intro w'
      go_simp
      with_reducible rfl
     rotate_left
     ·simp only [Act.put, List.setIfInBounds_toArray, List.set_cons_zero, List.set_cons_succ, i64_w, i32_w]
      rfl
     refine done_ (done_of HT_.out (by kernel_rfl)) ?_
     try go_wp2
     go_ret
     exact ⟨y11_, y13_⟩
   ·rw [if_neg c7] at H
    have c7b0 : decide (0 ≤ a1) = false := decide_eq_false c7
    clear c7
    replace H := Option.bind_eq_some_iff.mp H
    obtain ⟨t202, A230, H⟩ := H
    have A23 := Aside0.mk A230
    clear A230
    obtain rfl := Option.some.inj H
    go_enter Tryd.func12, Tryd.ntmps12
    try go_wp2
    have n0_ := Aside0.mk (below_drew1 HB.out)
    clear HB
    have HB := n0_
    clear n0_
    refine start_ (n := 29) (S := fun w' => True) (ds := []) #[false, false, false, false, false, false, false, false, false, false, false, false, false, false, false, false, false, false, false, false, false, false, false, false, false, false, false, false, false] (by kernel_rfl) rfl rfl trivial (fun hHeld => ?_); refine with_tabW boltingref08_Inside.tab1 boltingref08_Inside.bits1 (fun HT_ HW_ => ?_)
    generalize w.drew = w24 at HB hHeld ⊢
    refine pure_ (i := 0) (N := some 5) (v := ?_) (a' := ?_) #[true, false, false, false, false, false, false, false, false, false, false, false, false, false, false, false, false, false, false, false, false, false, false, false, false, false, false, false, false] rfl rfl (any_of HT_.out (by kernel_rfl)) (fun _ _ _ h => h) (Or.inl ⟨by rfl, ?_⟩) ?_ ?_
    rotate_left
    ·intro w'
     go_simp
     with_reducible rfl
    rotate_left
    ·simp only [Act.put, List.setIfInBounds_toArray, List.set_cons_zero, List.set_cons_succ, i64_w, i32_w]
     rfl
    refine pure_ (i := 1) (N := some 6) (v := ?_) (a' := ?_) #[true, true, false, false, false, false, false, false, false, false, false, false, false, false, false, false, false, false, false, false, false, false, false, false, false, false, false, false, false] rfl rfl (any_of HT_.out (by kernel_rfl)) (fun _ _ _ h => h) (Or.inl ⟨by rfl, ?_⟩) ?_ ?_
    rotate_left
    ·intro w'
     go_simp
     with_reducible rfl
    rotate_left
    ·simp only [Act.put, List.setIfInBounds_toArray, List.set_cons_zero, List.set_cons_succ, i64_w, i32_w]
     rfl
    refine pure_ (i := 2) (N := some 7) (v := ?_) (a' := ?_) #[true, true, true, false, false, false, false, false, false, false, false, false, false, false, false, false, false, false, false, false, false, false, false, false, false, false, false, false, false] rfl rfl (any_of HT_.out (by kernel_rfl)) (fun _ _ _ h => h) (Or.inl ⟨by rfl, ?_⟩) ?_ ?_
    rotate_left
    ·intro w'
     go_simp
     with_reducible rfl
    rotate_left
    ·simp only [Act.put, List.setIfInBounds_toArray, List.set_cons_zero, List.set_cons_succ, i64_w, i32_w]
     rfl
    refine pure_ (i := 3) (N := some 8) (v := ?_) (a' := ?_) #[true, true, true, true, false, false, false, false, false, false, false, false, false, false, false, false, false, false, false, false, false, false, false, false, false, false, false, false, false] rfl rfl (any_of HT_.out (by kernel_rfl)) (fun _ _ _ h => h) (Or.inl ⟨by rfl, ?_⟩) ?_ ?_
    rotate_left
    ·intro w'
     go_simp
     with_reducible rfl
    rotate_left
    ·simp only [Act.put, List.setIfInBounds_toArray, List.set_cons_zero, List.set_cons_succ, i64_w, i32_w]
     rfl
    refine pure_ (i := 4) (N := some 9) (v := ?_) (a' := ?_) #[true, true, true, true, true, false, false, false, false, false, false, false, false, false, false, false, false, false, false, false, false, false, false, false, false, false, false, false, false] rfl rfl (any_of HT_.out (by kernel_rfl)) (fun _ _ _ h => h) (Or.inl ⟨by rfl, ?_⟩) ?_ ?_
    rotate_left
    ·intro w'
     go_simp
     with_reducible rfl
    rotate_left
    ·simp only [Act.put, List.setIfInBounds_toArray, List.set_cons_zero, List.set_cons_succ, i64_w, i32_w]
     rfl
    refine pure_ (i := 5) (N := some 10) (v := ?_) (a' := ?_) #[true, true, true, true, true, true, false, false, false, false, false, false, false, false, false, false, false, false, false, false, false, false, false, false, false, false, false, false, false] rfl rfl (any_of HT_.out (by kernel_rfl)) (fun _ _ _ h => h) (Or.inl ⟨by rfl, ?_⟩) ?_ ?_
    rotate_left
    ·intro w'
     go_simp
     with_reducible rfl
    rotate_left
    ·simp only [Act.put, List.setIfInBounds_toArray, List.set_cons_zero, List.set_cons_succ, i64_w, i32_w]
     rfl
    refine pure_ (i := 6) (N := some 11) (v := ?_) (a' := ?_) #[true, true, true, true, true, true, true, false, false, false, false, false, false, false, false, false, false, false, false, false, false, false, false, false, false, false, false, false, false] rfl rfl (any_of HT_.out (by kernel_rfl)) (fun _ _ _ h => h) (Or.inl ⟨by rfl, ?_⟩) ?_ ?_
    rotate_left
    ·intro w'
     go_simp
     with_reducible rfl
    rotate_left
    ·simp only [Act.put, List.setIfInBounds_toArray, List.set_cons_zero, List.set_cons_succ, i64_w, i32_w]
     rfl
    refine pure_ (i := 7) (N := some 12) (v := ?_) (a' := ?_) #[true, true, true, true, true, true, true, true, false, false, false, false, false, false, false, false, false, false, false, false, false, false, false, false, false, false, false, false, false] rfl rfl (any_of HT_.out (by kernel_rfl)) (fun _ _ _ h => h) (Or.inl ⟨by rfl, ?_⟩) ?_ ?_
    rotate_left
    ·intro w'
     go_simp
     with_reducible rfl
    rotate_left
    ·simp only [Act.put, List.setIfInBounds_toArray, List.set_cons_zero, List.set_cons_succ, i64_w, i32_w]
     rfl
    refine pure_ (i := 8) (N := some 13) (v := ?_) (a' := ?_) #[true, true, true, true, true, true, true, true, true, false, false, false, false, false, false, false, false, false, false, false, false, false, false, false, false, false, false, false, false] rfl rfl (any_of HT_.out (by kernel_rfl)) (fun _ _ _ h => h) (Or.inl ⟨by rfl, ?_⟩) ?_ ?_
    rotate_left
    ·intro w'
     go_simp
     with_reducible rfl
    rotate_left
    ·simp only [Act.put, List.setIfInBounds_toArray, List.set_cons_zero, List.set_cons_succ, i64_w, i32_w]
     rfl
    refine pure_ (i := 9) (N := some 14) (v := ?_) (a' := ?_) #[true, true, true, true, true, true, true, true, true, true, false, false, false, false, false, false, false, false, false, false, false, false, false, false, false, false, false, false, false] rfl rfl (any_of HT_.out (by kernel_rfl)) (fun _ _ _ h => h) (Or.inl ⟨by rfl, ?_⟩) ?_ ?_
    rotate_left
    ·intro w'
     go_simp
     with_reducible rfl
    rotate_left
    ·simp only [Act.put, List.setIfInBounds_toArray, List.set_cons_zero, List.set_cons_succ, i64_w, i32_w]
     rfl
    refine pure_ (i := 10) (N := some 15) (v := ?_) (a' := ?_) #[true, true, true, true, true, true, true, true, true, true, true, false, false, false, false, false, false, false, false, false, false, false, false, false, false, false, false, false, false] rfl rfl (any_of HT_.out (by kernel_rfl)) (fun _ _ _ h => h) (Or.inl ⟨by rfl, ?_⟩) ?_ ?_
    rotate_left
    ·intro w'
     go_simp
     with_reducible rfl
    rotate_left
    ·simp only [Act.put, List.setIfInBounds_toArray, List.set_cons_zero, List.set_cons_succ, i64_w, i32_w]
     rfl
    refine pure_ (i := 11) (N := some 16) (v := ?_) (a' := ?_) #[true, true, true, true, true, true, true, true, true, true, true, true, false, false, false, false, false, false, false, false, false, false, false, false, false, false, false, false, false] rfl rfl (any_of HT_.out (by kernel_rfl)) (fun _ _ _ h => h) (Or.inl ⟨by rfl, ?_⟩) ?_ ?_
    rotate_left
    ·intro w'
     go_simp
     with_reducible rfl
    rotate_left
    ·simp only [Act.put, List.setIfInBounds_toArray, List.set_cons_zero, List.set_cons_succ, i64_w, i32_w]
     rfl
    refine pure_ (i := 12) (N := some 17) (v := undef) (a' := ?_) #[true, true, true, true, true, true, true, true, true, true, true, true, true, false, false, false, false, false, false, false, false, false, false, false, false, false, false, false, false] rfl rfl (any_of HT_.out (by kernel_rfl)) (fun _ _ _ h => h) (Or.inr ⟨by rfl, rfl⟩) ?_ ?_
    rotate_left
    ·simp only [Act.put, List.setIfInBounds_toArray, List.set_cons_zero, List.set_cons_succ, i64_w, i32_w]
     rfl
    refine pure_ (i := 13) (N := some 18) (v := undef) (a' := ?_) #[true, true, true, true, true, true, true, true, true, true, true, true, true, true, false, false, false, false, false, false, false, false, false, false, false, false, false, false, false] rfl rfl (any_of HT_.out (by kernel_rfl)) (fun _ _ _ h => h) (Or.inr ⟨by rfl, rfl⟩) ?_ ?_
    rotate_left
    ·simp only [Act.put, List.setIfInBounds_toArray, List.set_cons_zero, List.set_cons_succ, i64_w, i32_w]
     rfl
    refine pure_ (i := 14) (N := some 19) (v := undef) (a' := ?_) #[true, true, true, true, true, true, true, true, true, true, true, true, true, true, true, false, false, false, false, false, false, false, false, false, false, false, false, false, false] rfl rfl (any_of HT_.out (by kernel_rfl)) (fun _ _ _ h => h) (Or.inr ⟨by rfl, rfl⟩) ?_ ?_
    rotate_left
    ·simp only [Act.put, List.setIfInBounds_toArray, List.set_cons_zero, List.set_cons_succ, i64_w, i32_w]
     rfl
    refine pure_ (i := 15) (N := some 20) (v := undef) (a' := ?_) #[true, true, true, true, true, true, true, true, true, true, true, true, true, true, true, true, false, false, false, false, false, false, false, false, false, false, false, false, false] rfl rfl (any_of HT_.out (by kernel_rfl)) (fun _ _ _ h => h) (Or.inr ⟨by rfl, rfl⟩) ?_ ?_
    rotate_left
    ·simp only [Act.put, List.setIfInBounds_toArray, List.set_cons_zero, List.set_cons_succ, i64_w, i32_w]
     rfl
    refine pure_ (i := 16) (N := some 21) (v := undef) (a' := ?_) #[true, true, true, true, true, true, true, true, true, true, true, true, true, true, true, true, true, false, false, false, false, false, false, false, false, false, false, false, false] rfl rfl (any_of HT_.out (by kernel_rfl)) (fun _ _ _ h => h) (Or.inr ⟨by rfl, rfl⟩) ?_ ?_
    rotate_left
    ·simp only [Act.put, List.setIfInBounds_toArray, List.set_cons_zero, List.set_cons_succ, i64_w, i32_w]
     rfl
    refine pure_ (i := 17) (N := some 22) (v := undef) (a' := ?_) #[true, true, true, true, true, true, true, true, true, true, true, true, true, true, true, true, true, true, false, false, false, false, false, false, false, false, false, false, false] rfl rfl (any_of HT_.out (by kernel_rfl)) (fun _ _ _ h => h) (Or.inr ⟨by rfl, rfl⟩) ?_ ?_
    rotate_left
    ·simp only [Act.put, List.setIfInBounds_toArray, List.set_cons_zero, List.set_cons_succ, i64_w, i32_w]
     rfl
    refine pure_ (i := 18) (N := some 23) (v := undef) (a' := ?_) #[true, true, true, true, true, true, true, true, true, true, true, true, true, true, true, true, true, true, true, false, false, false, false, false, false, false, false, false, false] rfl rfl (any_of HT_.out (by kernel_rfl)) (fun _ _ _ h => h) (Or.inr ⟨by rfl, rfl⟩) ?_ ?_
    rotate_left
    ·simp only [Act.put, List.setIfInBounds_toArray, List.set_cons_zero, List.set_cons_succ, i64_w, i32_w]
     rfl
    refine pure_ (i := 19) (N := some 24) (v := undef) (a' := ?_) #[true, true, true, true, true, true, true, true, true, true, true, true, true, true, true, true, true, true, true, true, false, false, false, false, false, false, false, false, false] rfl rfl (any_of HT_.out (by kernel_rfl)) (fun _ _ _ h => h) (Or.inr ⟨by rfl, rfl⟩) ?_ ?_
    rotate_left
    ·simp only [Act.put, List.setIfInBounds_toArray, List.set_cons_zero, List.set_cons_succ, i64_w, i32_w]
     rfl
    refine pure_ (i := 20) (N := some 25) (v := undef) (a' := ?_) #[true, true, true, true, true, true, true, true, true, true, true, true, true, true, true, true, true, true, true, true, true, false, false, false, false, false, false, false, false] rfl rfl (any_of HT_.out (by kernel_rfl)) (fun _ _ _ h => h) (Or.inr ⟨by rfl, rfl⟩) ?_ ?_
    rotate_left
    ·simp only [Act.put, List.setIfInBounds_toArray, List.set_cons_zero, List.set_cons_succ, i64_w, i32_w]
     rfl
    refine pure_ (i := 21) (N := some 26) (v := undef) (a' := ?_) #[true, true, true, true, true, true, true, true, true, true, true, true, true, true, true, true, true, true, true, true, true, true, false, false, false, false, false, false, false] rfl rfl (any_of HT_.out (by kernel_rfl)) (fun _ _ _ h => h) (Or.inr ⟨by rfl, rfl⟩) ?_ ?_
    rotate_left
    ·simp only [Act.put, List.setIfInBounds_toArray, List.set_cons_zero, List.set_cons_succ, i64_w, i32_w]
     rfl
    refine pure_ (i := 22) (N := some 27) (v := undef) (a' := ?_) #[true, true, true, true, true, true, true, true, true, true, true, true, true, true, true, true, true, true, true, true, true, true, true, false, false, false, false, false, false] rfl rfl (any_of HT_.out (by kernel_rfl)) (fun _ _ _ h => h) (Or.inr ⟨by rfl, rfl⟩) ?_ ?_
    rotate_left
    ·simp only [Act.put, List.setIfInBounds_toArray, List.set_cons_zero, List.set_cons_succ, i64_w, i32_w]
     rfl
    refine pure_ (i := 23) (N := some 28) (v := undef) (a' := ?_) #[true, true, true, true, true, true, true, true, true, true, true, true, true, true, true, true, true, true, true, true, true, true, true, true, false, false, false, false, false] rfl rfl (any_of HT_.out (by kernel_rfl)) (fun _ _ _ h => h) (Or.inr ⟨by rfl, rfl⟩) ?_ ?_
    rotate_left
    ·simp only [Act.put, List.setIfInBounds_toArray, List.set_cons_zero, List.set_cons_succ, i64_w, i32_w]
     rfl
    refine pure_ (i := 24) (N := some 29) (v := undef) (a' := ?_) #[true, true, true, true, true, true, true, true, true, true, true, true, true, true, true, true, true, true, true, true, true, true, true, true, true, false, false, false, false] rfl rfl (any_of HT_.out (by kernel_rfl)) (fun _ _ _ h => h) (Or.inr ⟨by rfl, rfl⟩) ?_ ?_
    rotate_left
    ·simp only [Act.put, List.setIfInBounds_toArray, List.set_cons_zero, List.set_cons_succ, i64_w, i32_w]
     rfl
    refine pure_ (i := 25) (N := some 30) (v := undef) (a' := ?_) #[true, true, true, true, true, true, true, true, true, true, true, true, true, true, true, true, true, true, true, true, true, true, true, true, true, true, false, false, false] rfl rfl (any_of HT_.out (by kernel_rfl)) (fun _ _ _ h => h) (Or.inr ⟨by rfl, rfl⟩) ?_ ?_
    rotate_left
    ·simp only [Act.put, List.setIfInBounds_toArray, List.set_cons_zero, List.set_cons_succ, i64_w, i32_w]
     rfl
    refine pure_ (i := 26) (N := some 31) (v := undef) (a' := ?_) #[true, true, true, true, true, true, true, true, true, true, true, true, true, true, true, true, true, true, true, true, true, true, true, true, true, true, true, false, false] rfl rfl (any_of HT_.out (by kernel_rfl)) (fun _ _ _ h => h) (Or.inr ⟨by rfl, rfl⟩) ?_ ?_
    rotate_left
    ·simp only [Act.put, List.setIfInBounds_toArray, List.set_cons_zero, List.set_cons_succ, i64_w, i32_w]
     rfl
    refine pure_ (i := 27) (N := some 32) (v := ?_) (a' := ?_) #[true, true, true, true, true, true, true, true, true, true, true, true, true, true, true, true, true, true, true, true, true, true, true, true, true, true, true, true, false] rfl rfl (any_of HT_.out (by kernel_rfl)) (fun _ _ _ h => h) (Or.inl ⟨by rfl, ?_⟩) ?_ ?_
    rotate_left
    ·intro w'
     go_simp
     with_reducible rfl
    rotate_left
    ·simp only [Act.put, List.setIfInBounds_toArray, List.set_cons_zero, List.set_cons_succ, i64_w, i32_w]
     rfl
    refine pure_ (i := 28) (N := some 33) (v := ?_) (a' := ?_) #[true, true, true, true, true, true, true, true, true, true, true, true, true, true, true, true, true, true, true, true, true, true, true, true, true, true, true, true, true] rfl rfl (any_of HT_.out (by kernel_rfl)) (fun _ _ _ h => h) (Or.inl ⟨by rfl, ?_⟩) ?_ ?_
    rotate_left
    ·intro w'
     go_simp
     with_reducible rfl
    rotate_left
    ·simp only [Act.put, List.setIfInBounds_toArray, List.set_cons_zero, List.set_cons_succ, i64_w, i32_w]
     rfl
    refine done_ (done_of HT_.out (by kernel_rfl)) ?_
    try go_wp2_with (first | ((with_reducible refine gate_callee (f := 10) rfl ?_); refine goesL_ (some 36) rfl rfl Tryd.func10 (by kernel_rfl) rfl #[.slice A0 l0.length c0, .int .i64 a1] rfl y14_ ?_; (with_reducible refine (boltingref08_Within.calls k _ _ l0 a1 t202 _ ?side1 ?side2 A23.out).mono ?_); (case side1 => repeat (first | exact (Kd.C_below HR0.out HB.out) | (with_reducible refine Kd.C_alloc ?_ _) | (with_reducible refine Kd.C_drewN ?_ _) | (with_reducible refine Kd.C_drew ?_))); (case side2 => exact HC0.out); rintro e w25 ⟨rfl, hb⟩; refine ⟨_, rfl, ?_⟩; have n0_ := Aside0.mk (below_step y13_ hb); clear HB; have HB := n0_; clear n0_; (try clear hb); (try clear hb2); (try clear hk); (try clear hi)))
    go_ret
    exact ⟨y11_, y13_⟩
end Go.Proofs.YtpnhjipaeggcpaaDoor.X
end
section
namespace Go.Proofs.YtpnhjipaeggcpaaDoor.X
open Go.RowKit Go.Proofs.YtpnhjipaeggcpaaDoorW.PrintWords Go.Proofs.YtpnhjipaeggcpaaDoorW.PrintLast Go.Proofs.YtpnhjipaeggcpaaDoorW.PrintMore
attribute [local go_sem] max2_int min2_int max_two min_two max_three min_three max_four min_four
def boltinglaw08_bound.l0 : Nat → List (S35) → List (S35) → Int → Option ((List (S35)))
 | 0, _, _, _ => none
 | k + 1, x0, x3, x4 => if x4 < (x0.length : Int) then (if x4 < 40 then (if 0 ≤ x4 then (if 0 ≤ (mn (((rd_T35 x0 x4).f4).length : Int) 6) then (if (mn (((rd_T35 x0 x4).f4).length : Int) 6) ≤ (((rd_T35 x0 x4).f4).length : Int) then (if x3.length < 1954687338268 then (boltinglaw08_bound.l0 k x0 (x3 ++ [(⟨(rd_T35 x0 x4).f0, (rd_T35 x0 x4).f1, (rd_T35 x0 x4).f2, (rd_T35 x0 x4).f3, (((rd_T35 x0 x4).f4).take ((mn (((rd_T35 x0 x4).f4).length : Int) 6) : Int).toNat)⟩ : S35)]) (wrap64 (x4 + 1))) else (none)) else (none)) else (none)) else (none)) else (some x3)) else (some x3)
def boltinglaw08_bound.f (k : Nat) (l0 : List (S35)) : Option ((List (S35))) := boltinglaw08_bound.l0 k l0 (([] : List (S35))) 0
set_option maxHeartbeats 8000000 in
set_option maxRecDepth 100000 in
theorem boltinglaw08_bound.calls (k : Nat) (P0_ : Nat → Prop) (A0 : Option Addr) (c0 : Nat) (l0 : List (S35)) (r : List (S35)) (w : World) (hs0 : Kd.V k35 35 w w.heap.size (fun k_ => P0_ k_) (.slice A0 l0.length c0) l0) (h : boltinglaw08_bound.f k l0 = some r) :
  Calls Tryd.prog 6 #[.slice A0 l0.length c0] w fun e w' => ∃ v0_ : Value, e = .returned (v0_) ∧ Kd.N k35 35 w' w.heap.size (fun k_ => (P0_ k_ ∨ w.heap.size ≤ k_)) v0_ r ∧ Below w.heap.size w w' := by
 have hu35 := Tryd.underlying35
 have HO0 := Aside0.mk (show Kd.V k35 35 w w.heap.size (fun k_ => (P0_ k_ ∨ w.heap.size ≤ k_)) (.slice A0 l0.length c0) l0 from Kd.V_mono hs0 (fun k_ hk => .inl hk))
 have HB := Aside0.mk (Below.refl w.heap.size w)
 have H : (boltinglaw08_bound.l0 k l0 (([] : List (S35))) 0) = some r := h
 clear h
 obtain ⟨y101, hy101⟩ : ∃ y_ : List (S35), y_ = (([] : List (S35))) := ⟨_, rfl⟩
 replace H : (boltinglaw08_bound.l0 k l0 y101 0) = some r := by first | (rw [hy101]; with_reducible exact H) | (have H2_ := (Option.bind_some _ _).symm.trans H; rw [hy101]; with_reducible exact H2_) | (have H2_ := (Option.bind_some _ _).symm.trans H; with_reducible exact H2_) | with_reducible exact H | (rw [hy101]; exact H) | exact H
 have Ny101 := Aside0.mk hy101
 clear hy101
 have H' := Aside0.mk H
 clear H
 go_enter Tryd.func6, Tryd.ntmps6
 go_wp2_with (first | ((with_reducible refine gate_dst (N := 6) rfl ?_); refine Kd.N_lit k35 _ 35 ?hg (N' := 6) ?hd (xs := ([] : List (S35))) (inner := []) (ok := (fun k_ => (P0_ k_ ∨ w.heap.size ≤ k_))) (okp := (fun k_ => (P0_ k_ ∨ w.heap.size ≤ k_))) ?hr ?hp (fun _ hk => hk) ((show ∀ k_, w.heap.size ≤ k_ → (fun k_ => (P0_ k_ ∨ w.heap.size ≤ k_)) k_ from fun k_ hk => (.inr (Nat.le_trans (below_size y13_) hk))) _ (Nat.le_refl _)) (Below.refl _ _) (Nat.le_refl _) (by simp) ?_; (case hd => rfl); (case hg => rfl); (case hr => first | (go_simp; done) | (go_simp; rfl)); (case hp => exact (Reps.none _ _)); intro v102 w2 ho3 hb hg_ hnew_; clear hg_ hnew_; (first | rw [← Ny101.out] at ho3 | (simp only [Int.reduceToNat] at ho3; rw [← Ny101.out] at ho3)); have n0_ := Aside0.mk (Kd.V_elder' (y8_ HO0.out) (Kd.N_base ho3) hb); have n1_ := Aside0.mk (Kd.N_lower ho3 (below_size y13_)); have n2_ := Aside0.mk (below_step y13_ hb); clear HO0; clear HB; have HO0 := n0_; have HO103 := n1_; have HB := n2_; clear n0_ n1_ n2_; clear hb ho3))
 go_loopg [3, 4] k (fun kq v3 v4 w' => ∃ (x3_1 : List (S35)) (x4_1 : Int), v4 = .int .i64 x4_1 ∧ Aside0 (boltinglaw08_bound.l0 kq l0 x3_1 x4_1 = some r) ∧ Aside0 (kq ≤ k) ∧ Aside0 (Kd.V k35 35 w' w.heap.size (fun k_ => (P0_ k_ ∨ w.heap.size ≤ k_) ∧ some k_ ≠ (v3 : Value).ownBlock) (.slice A0 l0.length c0) l0) ∧ Aside0 (Kd.N k35 35 w' w.heap.size (fun k_ => (P0_ k_ ∨ w.heap.size ≤ k_)) v3 x3_1) ∧ Aside0 (Below w.heap.size w w'))
 case atStart => exact ⟨(y101), (0), y4_, H', ⟨Nat.le_refl _⟩, ⟨by (with_reducible repeat (first | apply Kd.V_alloc | apply Kd.V_drewN | apply Kd.V_drew)); exact HO0.out⟩, ⟨by (with_reducible repeat (first | apply Kd.N_alloc | apply Kd.N_drewN | apply Kd.N_drew)); exact HO103.out⟩, ⟨y13_⟩⟩
 case round =>
  clear H'
  try clear p2
  obtain ⟨x3_1, x4_1, rfl, HA, HK1, HO_0, HO_3, HB⟩ := hrel
  cases gk with
  | zero => exact absurd HA.out (by simp [boltinglaw08_bound.l0])
  | succ k1 =>
   have H := HA.out
   clear HA
   simp only [boltinglaw08_bound.l0] at H
   by_cases c4 : x4_1 < (l0.length : Int)
   ·rw [if_pos c4] at H
    have c4b0 : decide (x4_1 < (l0.length : Int)) = true := decide_eq_true c4
    clear c4
    by_cases c5 : x4_1 < 40
    ·rw [if_pos c5] at H
     have c5b0 : decide (x4_1 < 40) = true := decide_eq_true c5
     clear c5
     by_cases c6 : 0 ≤ x4_1
     rotate_left
     ·rw [if_neg c6] at H
      exact absurd H (by simp)
     rw [if_pos c6] at H
     have c6b0 : decide (0 ≤ x4_1) = true := decide_eq_true c6
     clear c6
     obtain ⟨ji7, hji7⟩ : ∃ j_ : Int, (mn (((rd_T35 l0 x4_1).f4).length : Int) 6) = j_ := ⟨_, rfl⟩
     replace H : (if 0 ≤ (ji7) then (if (ji7) ≤ (((rd_T35 l0 x4_1).f4).length : Int) then (if x3_1.length < 1954687338268 then (boltinglaw08_bound.l0 k1 l0 (x3_1 ++ [(⟨(rd_T35 l0 x4_1).f0, (rd_T35 l0 x4_1).f1, (rd_T35 l0 x4_1).f2, (rd_T35 l0 x4_1).f3, (((rd_T35 l0 x4_1).f4).take ((ji7) : Int).toNat)⟩ : S35)]) (wrap64 (x4_1 + 1))) else (none)) else (none)) else (none)) = some r := by first | (rw [hji7] at H; exact H) | (simp only [hji7] at H ⊢; exact H)
     have hji7_ : (if 6 < (((rd_T35 l0 x4_1).f4).length : Int) then 6 else (((rd_T35 l0 x4_1).f4).length : Int)) = ji7 := hji7
     by_cases c8 : 0 ≤ (ji7)
     rotate_left
     ·rw [if_neg c8] at H
      exact absurd H (by simp)
     rw [if_pos c8] at H
     have c8b0 := eq_true c8
     have c8b1 : decide (0 ≤ (ji7)) = true := decide_eq_true c8
     clear c8
     by_cases c9 : (ji7) ≤ (((rd_T35 l0 x4_1).f4).length : Int)
     rotate_left
     ·rw [if_neg c9] at H
      exact absurd H (by simp)
     rw [if_pos c9] at H
     have c9b0 := eq_true c9
     have c9b1 : decide ((ji7) ≤ (((rd_T35 l0 x4_1).f4).length : Int)) = true := decide_eq_true c9
     clear c9
     obtain ⟨y106, hy106⟩ : ∃ y_ : List (S41), y_ = (((rd_T35 l0 x4_1).f4).take ((ji7) : Int).toNat) := ⟨_, rfl⟩
     replace H : (if x3_1.length < 1954687338268 then (boltinglaw08_bound.l0 k1 l0 (x3_1 ++ [(⟨(rd_T35 l0 x4_1).f0, (rd_T35 l0 x4_1).f1, (rd_T35 l0 x4_1).f2, (rd_T35 l0 x4_1).f3, y106⟩ : S35)]) (wrap64 (x4_1 + 1))) else (none)) = some r := by first | (rw [hy106]; with_reducible exact H) | (have H2_ := (Option.bind_some _ _).symm.trans H; rw [hy106]; with_reducible exact H2_) | (have H2_ := (Option.bind_some _ _).symm.trans H; with_reducible exact H2_) | with_reducible exact H | (rw [hy106]; exact H) | exact H
     have Ny106 := Aside0.mk hy106
     clear hy106
     by_cases c10 : x3_1.length < 1954687338268
     rotate_left
     ·rw [if_neg c10] at H
      exact absurd H (by simp)
     rw [if_pos c10] at H
     have LMc10 := Aside0.mk c10
     clear c10
     obtain ⟨y111, hy111⟩ : ∃ y_ : List (S35), y_ = (x3_1 ++ [(⟨(rd_T35 l0 x4_1).f0, (rd_T35 l0 x4_1).f1, (rd_T35 l0 x4_1).f2, (rd_T35 l0 x4_1).f3, y106⟩ : S35)]) := ⟨_, rfl⟩
     replace H : (boltinglaw08_bound.l0 k1 l0 y111 (wrap64 (x4_1 + 1))) = some r := by first | (rw [hy111]; with_reducible exact H) | (have H2_ := (Option.bind_some _ _).symm.trans H; rw [hy111]; with_reducible exact H2_) | (have H2_ := (Option.bind_some _ _).symm.trans H; with_reducible exact H2_) | with_reducible exact H | (rw [hy111]; exact H) | exact H
     have Ny111 := Aside0.mk hy111
     clear hy111
     have H' := Aside0.mk H
     clear H
     have p104 : 0 ≤ (x4_1 : Int) := of_decide_eq_true y2_
     have q104 : x4_1 < (l0.length : Int) := of_decide_eq_true y2_
     obtain ⟨ad104, A104_4, c104_4, e104, hx104_0, hx104_1, hx104_2, hx104_3, hx104_4, hl104_4, hi104_4⟩ := at_T35 (Kd.V_reads' HO_0.out).2.2 x4_1 p104 q104
     cases e104
     obtain ⟨ce104, hce104, hMe104, hcc104⟩ := Kd.V_get HO_0.out z35 x4_1 p104 (by first | exact q104 | exact of_decide_eq_true y2_ | (have e_ := (Kd.V_reads' HO_0.out).1; omega))
     obtain ⟨ua104_4, uc104_4, rfl, ul104_4, ge104_4⟩ := k35_openF hMe104
     have hv104_4 := hcc104 4 _ rfl
     rw [add_field _ _ 4 (by omega)] at hv104_4
     replace hv104_4 := Option.some.inj (hv104_4.symm.trans hx104_4)
     injection hv104_4 with hva_ hvn_ hvc_
     rw [hva_] at ge104_4
     rw [hvc_] at ul104_4
     have HL104_4 := Aside0.mk (show Kd.V k41 41 _ w.heap.size _ _ ((rd_T35 l0 x4_1).f4) from Kd.V_mk ul104_4 ge104_4)
     clear hva_ hvn_ hvc_ ge104_4 ul104_4
     clear hcc104 hce104
     have HR104_4 := Aside0.mk hi104_4
     have HC104_4 := Aside0.mk hl104_4
     clear hi104_4 hl104_4
     replace p104 := eq_true p104
     replace q104 := eq_true q104
     go_wp2_with (first | ((with_reducible refine gate_dst (N := 5) rfl ?_); refine box_event ?hg (N := 5) ?hd (cs := #[.int .i64 0, .int .i64 0, .string (⟨#[]⟩ : ByteArray), .string (⟨#[]⟩ : ByteArray), .slice none 0 0]) (t := 35) ?hr ?_; (case hd => rfl); (case hg => rfl); (case hr => first | (go_simp; done) | (go_simp; rfl)); intro gb105 hg w11 hbox hb; have n0_ := Aside0.mk (Kd.V_below (Kd.V_elderB (y8_ HO_0.out) gb105 (Nat.le_of_eq hg.symm)) hb); have n1_ := Aside0.mk (Kd.N_below (Kd.N_elderB (y9_ HO_3.out) gb105 (Nat.le_of_eq hg.symm)) hb); have n2_ := Aside0.mk (Kd.V_below (Kd.V_elderB (y8_ HL104_4.out) gb105 (Nat.le_of_eq hg.symm)) hb); have n3_ := Aside0.mk (Kd.C_below (by repeat (first | (with_reducible exact HR104_4.out) | (with_reducible refine Kd.C_alloc ?_ _) | (with_reducible refine Kd.C_drewN ?_ _) | (with_reducible refine Kd.C_drew ?_) | exact HR104_4.out)) hb); have n4_ := Aside0.mk (below_step y13_ hb); have n5_ := Aside0.mk (hbox); have n6_ := Aside0.mk ((by rw [hg]; exact (below_size y13_) : w.heap.size ≤ gb105)); have n7_ := Aside0.mk ((by rw [hg]; exact (below_size y13_) : w.heap.size ≤ gb105)); clear HO_0; clear HO_3; clear HL104_4; clear HR104_4; clear HB; have HO_0 := n0_; have HO_3 := n1_; have HL104_4 := n2_; have HR104_4 := n3_; have HB := n4_; have BK105 := n5_; have GW105 := n6_; have GE105 := n7_; clear n0_ n1_ n2_ n3_ n4_ n5_ n6_ n7_; clear hb hbox hg; have hcz12_0 : w11.cell? ⟨gb105, 0, none⟩ = some (.int .i64 0) := (blk_cell BK105.out 0).trans rfl; have hcz12_1 : w11.cell? ⟨gb105, 1, none⟩ = some (.int .i64 0) := (blk_cell BK105.out 1).trans rfl; have hcz12_2 : w11.cell? ⟨gb105, 2, none⟩ = some (.string (⟨#[]⟩ : ByteArray)) := (blk_cell BK105.out 2).trans rfl; have hcz12_3 : w11.cell? ⟨gb105, 3, none⟩ = some (.string (⟨#[]⟩ : ByteArray)) := (blk_cell BK105.out 3).trans rfl; have hcz12_4 : w11.cell? ⟨gb105, 4, none⟩ = some (.slice none 0 0) := (blk_cell BK105.out 4).trans rfl; have hfz12_0 := blk_frozen BK105.out 0; have hfz12_1 := blk_frozen BK105.out 1; have hfz12_2 := blk_frozen BK105.out 2; have hfz12_3 := blk_frozen BK105.out 3; have hfz12_4 := blk_frozen BK105.out 4) | ((with_reducible refine gate_store (t := 35) (p := 5) rfl ?_); refine store_event (t := 35) (p := 5) (v := ?vo_w13) (w1 := (((((w11.setCell ⟨gb105, 0, none⟩ (.int .i64 ((rd_T35 l0 x4_1).f0))).setCell ⟨gb105, 1, none⟩ (.int .i64 ((rd_T35 l0 x4_1).f1))).setCell ⟨gb105, 2, none⟩ (.string ((rd_T35 l0 x4_1).f2))).setCell ⟨gb105, 3, none⟩ (.string ((rd_T35 l0 x4_1).f3))).setCell ⟨gb105, 4, none⟩ (.slice A104_4 ((rd_T35 l0 x4_1).f4).length c104_4))) ?hg ?ho ?hn ?hr ?_; (case ho => rfl); (case hg => rfl); (case hn => rfl); (case hr => first | (go_simp; done) | (go_simp; rfl)); intro w13 hw; have n0_ : Aside0 (Kd.V k35 35 w13 w.heap.size (fun k_ => (P0_ k_ ∨ w.heap.size ≤ k_) ∧ some k_ ≠ (u3 : Value).ownBlock ∧ k_ ≠ gb105) (.slice (some ad104) l0.length c0) l0) := ⟨(by rw [hw]; exact (y29_ HO_0.out))⟩; have n1_ : Aside0 (Kd.N k35 35 w13 w.heap.size (fun k_ => (P0_ k_ ∨ w.heap.size ≤ k_) ∧ k_ ≠ gb105) u3 x3_1) := ⟨(by rw [hw]; exact (by (with_reducible repeat (first | apply Kd.N_alloc | apply Kd.N_drewN | apply Kd.N_drew)); exact Kd.N_mono (Kd.N_far (p := ⟨gb105, 4, none⟩) (Kd.N_far (p := ⟨gb105, 3, none⟩) (Kd.N_far (p := ⟨gb105, 2, none⟩) (Kd.N_far (p := ⟨gb105, 1, none⟩) (Kd.N_far (p := ⟨gb105, 0, none⟩) (Kd.N_mono HO_3.out (fun k_ hk => (⟨hk, hk.2⟩ : _ ∧ k_ ≠ gb105))) (fun _ hk => hk.2) (.int .i64 ((rd_T35 l0 x4_1).f0))) (fun _ hk => hk.2) (.int .i64 ((rd_T35 l0 x4_1).f1))) (fun _ hk => hk.2) (.string ((rd_T35 l0 x4_1).f2))) (fun _ hk => hk.2) (.string ((rd_T35 l0 x4_1).f3))) (fun _ hk => hk.2) (.slice A104_4 ((rd_T35 l0 x4_1).f4).length c104_4)) (fun _ hk => ⟨hk.1.1, hk.1.2⟩)))⟩; have n2_ : Aside0 (Kd.V k41 41 w13 w.heap.size (fun k_ => (P0_ k_ ∨ w.heap.size ≤ k_) ∧ some k_ ≠ (u3 : Value).ownBlock ∧ k_ ≠ gb105) (.slice A104_4 ((rd_T35 l0 x4_1).f4).length c104_4) ((rd_T35 l0 x4_1).f4)) := ⟨(by rw [hw]; exact (y29_ HL104_4.out))⟩; have n3_ : Aside0 (w13.heap[gb105]? = some (.cells #[.int .i64 ((rd_T35 l0 x4_1).f0), .int .i64 ((rd_T35 l0 x4_1).f1), .string ((rd_T35 l0 x4_1).f2), .string ((rd_T35 l0 x4_1).f3), .slice A104_4 ((rd_T35 l0 x4_1).f4).length c104_4] 35 (0, 0))) := ⟨(by rw [hw]; exact (by (with_reducible repeat (first | refine blk_drewN ?_ _ | refine blk_drew ?_ | refine blk_alloc ?_ _)); refine blk_put (cs := #[.int .i64 ((rd_T35 l0 x4_1).f0), .int .i64 ((rd_T35 l0 x4_1).f1), .string ((rd_T35 l0 x4_1).f2), .string ((rd_T35 l0 x4_1).f3), .slice none 0 0]) ?_ 4 _ rfl; (with_reducible repeat (first | refine blk_drewN ?_ _ | refine blk_drew ?_ | refine blk_alloc ?_ _)); refine blk_put (cs := #[.int .i64 ((rd_T35 l0 x4_1).f0), .int .i64 ((rd_T35 l0 x4_1).f1), .string ((rd_T35 l0 x4_1).f2), .string (⟨#[]⟩ : ByteArray), .slice none 0 0]) ?_ 3 _ rfl; (with_reducible repeat (first | refine blk_drewN ?_ _ | refine blk_drew ?_ | refine blk_alloc ?_ _)); refine blk_put (cs := #[.int .i64 ((rd_T35 l0 x4_1).f0), .int .i64 ((rd_T35 l0 x4_1).f1), .string (⟨#[]⟩ : ByteArray), .string (⟨#[]⟩ : ByteArray), .slice none 0 0]) ?_ 2 _ rfl; (with_reducible repeat (first | refine blk_drewN ?_ _ | refine blk_drew ?_ | refine blk_alloc ?_ _)); refine blk_put (cs := #[.int .i64 ((rd_T35 l0 x4_1).f0), .int .i64 0, .string (⟨#[]⟩ : ByteArray), .string (⟨#[]⟩ : ByteArray), .slice none 0 0]) ?_ 1 _ rfl; (with_reducible repeat (first | refine blk_drewN ?_ _ | refine blk_drew ?_ | refine blk_alloc ?_ _)); refine blk_put (cs := #[.int .i64 0, .int .i64 0, .string (⟨#[]⟩ : ByteArray), .string (⟨#[]⟩ : ByteArray), .slice none 0 0]) ?_ 0 _ rfl; (with_reducible repeat (first | refine blk_drewN ?_ _ | refine blk_drew ?_ | refine blk_alloc ?_ _)); exact BK105.out))⟩; have n4_ : Aside0 (Below w.heap.size w w13) := ⟨(by rw [hw]; exact (y17_ GE105.out))⟩; clear hw; clear HO_0; clear HO_3; clear HL104_4; clear BK105; clear HB; have HO_0 := n0_; have HO_3 := n1_; have HL104_4 := n2_; have BK105 := n3_; have HB := n4_; clear n0_ n1_ n2_ n3_ n4_; have hcz14_0 : w13.cell? ⟨gb105, 0, none⟩ = some (.int .i64 ((rd_T35 l0 x4_1).f0)) := (blk_cell BK105.out 0).trans rfl; have hcz14_1 : w13.cell? ⟨gb105, 1, none⟩ = some (.int .i64 ((rd_T35 l0 x4_1).f1)) := (blk_cell BK105.out 1).trans rfl; have hcz14_2 : w13.cell? ⟨gb105, 2, none⟩ = some (.string ((rd_T35 l0 x4_1).f2)) := (blk_cell BK105.out 2).trans rfl; have hcz14_3 : w13.cell? ⟨gb105, 3, none⟩ = some (.string ((rd_T35 l0 x4_1).f3)) := (blk_cell BK105.out 3).trans rfl; have hcz14_4 : w13.cell? ⟨gb105, 4, none⟩ = some (.slice A104_4 ((rd_T35 l0 x4_1).f4).length c104_4) := (blk_cell BK105.out 4).trans rfl; have hfz14_0 := blk_frozen BK105.out 0; have hfz14_1 := blk_frozen BK105.out 1; have hfz14_2 := blk_frozen BK105.out 2; have hfz14_3 := blk_frozen BK105.out 3; have hfz14_4 := blk_frozen BK105.out 4; have q15 : ((ji7) : Int) ≤ ((((rd_T35 l0 x4_1).f4).length : Int) : Int) := of_decide_eq_true y2_; obtain ⟨i015, hi015, _, hsz15, _⟩ := info_parts info41; have hroom15 : ((rd_T35 l0 x4_1).f4).length ≤ c104_4 := HC104_4.out; have hC15 : Kd.F k41 _ _ A104_4 ((rd_T35 l0 x4_1).f4).length ((rd_T35 l0 x4_1).f4) := (Kd.V_at (base := w.heap.size) HL104_4.out).2.2; have hcut15 := cut_to (P := Tryd.prog) 33 41 .i64 Tryd.underlying33 hi015 A104_4 ((rd_T35 l0 x4_1).f4).length c104_4 (ji7) (of_decide_eq_true y2_) q15 hroom15; have hr15 := Kd.F_take (m := ((ji7) : Int).toNat) hC15 (by omega); have hy15 : y106.length = ((ji7) : Int).toNat := (y0_ Ny106.out); rw [← Ny106.out] at hr15; rw [← hy15] at hcut15; have HO110 := Aside0.mk (show Kd.V k41 41 _ w.heap.size _ (.slice A104_4 y106.length c104_4) y106 from Kd.V_mk (by omega) hr15); have HC110 := Aside0.mk (show y106.length ≤ c104_4 from by omega); clear hr15 hC15 hroom15 hi015 hsz15; have KY15 := Aside0.mk hy15; clear hy15; replace q15 := eq_true q15) | ((with_reducible refine gate_store (t := 33) (p := 28) rfl ?_); refine store_event (t := 33) (p := 28) (v := ?vo_w16) (w1 := (w13.setCell ⟨gb105, 4, none⟩ (.slice A104_4 y106.length c104_4))) ?hg ?ho ?hn ?hr ?_; (case ho => rfl); (case hg => rfl); (case hn => rfl); (case hr => first | (go_simp; done) | (go_simp; rfl)); intro w16 hw; have n0_ : Aside0 (Kd.V k35 35 w16 w.heap.size (fun k_ => (P0_ k_ ∨ w.heap.size ≤ k_) ∧ some k_ ≠ (u3 : Value).ownBlock ∧ k_ ≠ gb105) (.slice (some ad104) l0.length c0) l0) := ⟨(by rw [hw]; exact (y24_ HO_0.out))⟩; have n1_ : Aside0 (Kd.N k35 35 w16 w.heap.size (fun k_ => (P0_ k_ ∨ w.heap.size ≤ k_) ∧ k_ ≠ gb105) u3 x3_1) := ⟨(by rw [hw]; exact (by (with_reducible repeat (first | apply Kd.N_alloc | apply Kd.N_drewN | apply Kd.N_drew)); exact Kd.N_mono (Kd.N_far (p := ⟨gb105, 4, none⟩) (Kd.N_mono HO_3.out (fun k_ hk => (⟨hk, hk.2⟩ : _ ∧ k_ ≠ gb105))) (fun _ hk => hk.2) (.slice A104_4 y106.length c104_4)) (fun _ hk => ⟨hk.1.1, hk.1.2⟩)))⟩; have n2_ : Aside0 (Kd.V k41 41 w16 w.heap.size (fun k_ => (P0_ k_ ∨ w.heap.size ≤ k_) ∧ some k_ ≠ (u3 : Value).ownBlock ∧ k_ ≠ gb105) (.slice A104_4 ((rd_T35 l0 x4_1).f4).length c104_4) ((rd_T35 l0 x4_1).f4)) := ⟨(by rw [hw]; exact (y24_ HL104_4.out))⟩; have n3_ : Aside0 (Kd.V k41 41 w16 w.heap.size (fun k_ => (P0_ k_ ∨ w.heap.size ≤ k_) ∧ some k_ ≠ (u3 : Value).ownBlock ∧ k_ ≠ gb105) (.slice A104_4 y106.length c104_4) y106) := ⟨(by rw [hw]; exact (y24_ HO110.out))⟩; have n4_ : Aside0 (w16.heap[gb105]? = some (.cells #[.int .i64 ((rd_T35 l0 x4_1).f0), .int .i64 ((rd_T35 l0 x4_1).f1), .string ((rd_T35 l0 x4_1).f2), .string ((rd_T35 l0 x4_1).f3), .slice A104_4 y106.length c104_4] 35 (0, 0))) := ⟨(by rw [hw]; exact (by (with_reducible repeat (first | refine blk_drewN ?_ _ | refine blk_drew ?_ | refine blk_alloc ?_ _)); refine blk_put (cs := #[.int .i64 ((rd_T35 l0 x4_1).f0), .int .i64 ((rd_T35 l0 x4_1).f1), .string ((rd_T35 l0 x4_1).f2), .string ((rd_T35 l0 x4_1).f3), .slice A104_4 ((rd_T35 l0 x4_1).f4).length c104_4]) ?_ 4 _ rfl; (with_reducible repeat (first | refine blk_drewN ?_ _ | refine blk_drew ?_ | refine blk_alloc ?_ _)); exact BK105.out))⟩; have n5_ : Aside0 (Below w.heap.size w w16) := ⟨(by rw [hw]; exact (y17_ GE105.out))⟩; clear hw; clear HO_0; clear HO_3; clear HL104_4; clear HO110; clear BK105; clear HB; have HO_0 := n0_; have HO_3 := n1_; have HL104_4 := n2_; have HO110 := n3_; have BK105 := n4_; have HB := n5_; clear n0_ n1_ n2_ n3_ n4_ n5_; have hcz17_0 : w16.cell? ⟨gb105, 0, none⟩ = some (.int .i64 ((rd_T35 l0 x4_1).f0)) := (blk_cell BK105.out 0).trans rfl; have hcz17_1 : w16.cell? ⟨gb105, 1, none⟩ = some (.int .i64 ((rd_T35 l0 x4_1).f1)) := (blk_cell BK105.out 1).trans rfl; have hcz17_2 : w16.cell? ⟨gb105, 2, none⟩ = some (.string ((rd_T35 l0 x4_1).f2)) := (blk_cell BK105.out 2).trans rfl; have hcz17_3 : w16.cell? ⟨gb105, 3, none⟩ = some (.string ((rd_T35 l0 x4_1).f3)) := (blk_cell BK105.out 3).trans rfl; have hcz17_4 : w16.cell? ⟨gb105, 4, none⟩ = some (.slice A104_4 y106.length c104_4) := (blk_cell BK105.out 4).trans rfl; have hfz17_0 := blk_frozen BK105.out 0; have hfz17_1 := blk_frozen BK105.out 1; have hfz17_2 := blk_frozen BK105.out 2; have hfz17_3 := blk_frozen BK105.out 3; have hfz17_4 := blk_frozen BK105.out 4) | ((with_reducible refine gate_builtin (b := .append) (xs := #[.tmp 29, .tmp 31]) rfl ?_); at_builtin; refine Kd.N_append k35 (w0 := w) w.heap.size rfl (.tmp 29) (.tmp 31) 22 35 (.agg #[(.int .i64 0), (.int .i64 0), (.string ⟨#[]⟩), (.string ⟨#[]⟩), (.slice none 0 0)]) 72 rfl Tryd.underlying22 info35 rfl (by decide) (by omega) u3 x3_1 (⟨(rd_T35 l0 x4_1).f0, (rd_T35 l0 x4_1).f1, (rd_T35 l0 x4_1).f2, (rd_T35 l0 x4_1).f3, y106⟩ : S35) [.int .i64 ((rd_T35 l0 x4_1).f0), .int .i64 ((rd_T35 l0 x4_1).f1), .string ((rd_T35 l0 x4_1).f2), .string ((rd_T35 l0 x4_1).f3), .slice A104_4 y106.length c104_4] (fun k_ => (P0_ k_ ∨ w.heap.size ≤ k_) ∧ k_ ≠ gb105) (fun k_ => ((fun k_ => (P0_ k_ ∨ w.heap.size ≤ k_) ∧ k_ ≠ gb105)) k_ ∧ some k_ ≠ (u3 : Value).ownBlock) rfl rfl ?aP (fun _ hk => hk) ?aF ?aO ?aB ?aS ?aL ?_; (case aP => exact (k35_mkF _ _ (⟨(rd_T35 l0 x4_1).f0, (rd_T35 l0 x4_1).f1, (rd_T35 l0 x4_1).f2, (rd_T35 l0 x4_1).f3, y106⟩ : S35) (Kd.V_reads' (Kd.V_mono (ok' := (fun k_ => ((fun k_ => (P0_ k_ ∨ w.heap.size ≤ k_) ∧ k_ ≠ gb105)) k_ ∧ some k_ ≠ (u3 : Value).ownBlock)) (HO110.out) (fun k_ hk => ⟨⟨hk.1, hk.2.2⟩, hk.2.1⟩))).2.1 (Kd.V_F (Kd.V_mono (ok' := (fun k_ => ((fun k_ => (P0_ k_ ∨ w.heap.size ≤ k_) ∧ k_ ≠ gb105)) k_ ∧ some k_ ≠ (u3 : Value).ownBlock)) (HO110.out) (fun k_ hk => ⟨⟨hk.1, hk.2.2⟩, hk.2.1⟩))))); (case aB => exact (y17_ GE105.out)); (case aF => exact (fun k_ hk => ⟨(.inr (Nat.le_trans (below_size (y17_ GE105.out)) hk)), Kd.freshB (g := gb105) (o := .cells #[.int .i64 ((rd_T35 l0 x4_1).f0), .int .i64 ((rd_T35 l0 x4_1).f1), .string ((rd_T35 l0 x4_1).f2), .string ((rd_T35 l0 x4_1).f3), .slice A104_4 y106.length c104_4] 35 (0, 0)) (y10_ BK105.out) k_ hk⟩)); (case aO => exact (y9_ HO_3.out)); (case aS => exact (below_size (y17_ GE105.out))); (case aL => have := LMc10.out; first | omega | exact Nat.le_of_lt this); intro v112 w18 ho hb hg hat; rw [← Ny111.out] at ho; have n0_ := Aside0.mk (Kd.V_afterv (ok := (fun k_ => (P0_ k_ ∨ w.heap.size ≤ k_) ∧ k_ ≠ gb105)) (y16_ HO_0.out) hg hat); have n1_ := Aside0.mk (Kd.V_afterv (ok := (fun k_ => (P0_ k_ ∨ w.heap.size ≤ k_) ∧ k_ ≠ gb105)) (y16_ HL104_4.out) hg hat); have n2_ := Aside0.mk (blk_grown (g := gb105) (o := .cells #[.int .i64 ((rd_T35 l0 x4_1).f0), .int .i64 ((rd_T35 l0 x4_1).f1), .string ((rd_T35 l0 x4_1).f2), .string ((rd_T35 l0 x4_1).f3), .slice A104_4 y106.length c104_4] 35 (0, 0)) (y10_ BK105.out) hg (Kd.N_away HO_3.out (fun _ hk => hk.2))); have n3_ := Aside0.mk (Kd.V_afterv (ok := (fun k_ => (P0_ k_ ∨ w.heap.size ≤ k_) ∧ k_ ≠ gb105)) (y16_ HO110.out) hg hat); have n4_ := Aside0.mk (hb); have n5_ := Aside0.mk (ho); clear HO_0; clear HL104_4; clear BK105; clear HO110; clear HB; clear HO_3; have HO_0 := n0_; have HL104_4 := n1_; have BK105 := n2_; have HO110 := n3_; have HB := n4_; have HO113 := n5_; clear n0_ n1_ n2_ n3_ n4_ n5_; clear ho hb hg hat))
     go_roundg k1
     case measure => have := HK1.out; omega
     case rel => exact ⟨(y111), (wrap64 (x4_1 + 1)), y4_, H', ⟨by have := HK1.out; omega⟩, ⟨by (with_reducible repeat (first | apply Kd.V_alloc | apply Kd.V_drewN | apply Kd.V_drew)); exact Kd.V_mono HO_0.out (fun _ hk => ⟨hk.1.1, hk.2⟩)⟩, ⟨by (with_reducible repeat (first | apply Kd.N_alloc | apply Kd.N_drewN | apply Kd.N_drew)); exact Kd.N_mono HO113.out (fun _ hk => hk.1)⟩, ⟨(y17_ GE105.out)⟩⟩
    ·rw [if_neg c5] at H
     have c5b0 : decide (x4_1 < 40) = false := decide_eq_false c5
     clear c5
     obtain rfl := Option.some.inj H
     go_wp2
     go_ret
     exact ⟨_, y11_, by (with_reducible repeat (first | apply Kd.N_alloc | apply Kd.N_drewN | apply Kd.N_drew)); exact HO_3.out, y13_⟩
   ·rw [if_neg c4] at H
    have c4b0 : decide (x4_1 < (l0.length : Int)) = false := decide_eq_false c4
    clear c4
    obtain rfl := Option.some.inj H
    go_wp2
    go_ret
    exact ⟨_, y11_, by (with_reducible repeat (first | apply Kd.N_alloc | apply Kd.N_drewN | apply Kd.N_drew)); exact HO_3.out, y13_⟩
end Go.Proofs.YtpnhjipaeggcpaaDoor.X
end
section
namespace Go.Proofs.YtpnhjipaeggcpaaDoor.X
open Go.RowKit Go.Proofs.YtpnhjipaeggcpaaDoorW.PrintWords Go.Proofs.YtpnhjipaeggcpaaDoorW.PrintLast Go.Proofs.YtpnhjipaeggcpaaDoorW.PrintMore
attribute [local go_sem] max2_int min2_int max_two min_two max_three min_three max_four min_four
mutual
def rows_row.j0 : Nat → Bool → Int → Int → ByteArray → ByteArray → List (S41) → Option (Bool)
 | 0, _, _, _, _, _, _ => none
 | k + 1, x14, x256000, x256001, x256002, x256003, x256004 => if x14 = true then (if x256002.toList = ([] : List UInt8) then (some ((x256004.length : Int) == 0)) else (some false)) else (if x256001 = 0 then (if x256002.toList = ([] : List UInt8) then (rows_row.j1 k true x256000 x256001 x256002 x256003 x256004) else (rows_row.j1 k (x256003.toList != ([] : List UInt8)) x256000 x256001 x256002 x256003 x256004)) else (rows_row.j1 k true x256000 x256001 x256002 x256003 x256004))
def rows_row.j1 : Nat → Bool → Int → Int → ByteArray → ByteArray → List (S41) → Option (Bool)
 | 0, _, _, _, _, _, _ => none
 | k + 1, x36, x256000, x256001, x256002, x256003, x256004 => if x36 = true then (some false) else (rows_row.l0 k x256004 (x256004.length : Int) 0 x256000 x256001 x256002 x256003 x256004)
def rows_row.l0 : Nat → List (S41) → Int → Int → Int → Int → ByteArray → ByteArray → List (S41) → Option (Bool)
 | 0, _, _, _, _, _, _, _, _ => none
 | k + 1, x38, x39, x40, x256000, x256001, x256002, x256003, x256004 => if x40 < x39 then (if 0 ≤ x40 then (if x40 < (x38.length : Int) then (if x40 ≤ (x256004.length : Int) then ((some (x256004.take (x40 : Int).toNat : List (S41))).bind fun y258 => (rows_row.l1 k x38 x39 x40 y258 (y258.length : Int) 0 x256000 x256001 x256002 x256003 x256004 ((rd_T41 x38 x40).f0) ((rd_T41 x38 x40).f1))) else (none)) else (none)) else (none)) else (some true)
def rows_row.l1 : Nat → List (S41) → Int → Int → List (S41) → Int → Int → Int → Int → ByteArray → ByteArray → List (S41) → ByteArray → ByteArray → Option (Bool)
 | 0, _, _, _, _, _, _, _, _, _, _, _, _, _ => none
 | k + 1, x38, x39, x40, x48, x49, x50, x256000, x256001, x256002, x256003, x256004, x258000, x258001 => if x50 < x49 then (if 0 ≤ x50 then (if x50 < (x48.length : Int) then (if x258000.toList = ((rd_T41 x48 x50).f0).toList then (some false) else (rows_row.l1 k x38 x39 x40 x48 x49 (wrap64 (x50 + 1)) x256000 x256001 x256002 x256003 x256004 x258000 x258001)) else (none)) else (none)) else (rows_row.l0 k x38 x39 (wrap64 (x40 + 1)) x256000 x256001 x256002 x256003 x256004)
end
def rows_row.f (k : Nat) (a0_0 : Int) (a0_1 : Int) (a0_2 : ByteArray) (a0_3 : ByteArray) (l0_4 : List (S41)) : Option (Bool) := if a0_1 = 1 then (rows_row.j0 k true a0_0 a0_1 a0_2 a0_3 l0_4) else (rows_row.j0 k (a0_1 == 2) a0_0 a0_1 a0_2 a0_3 l0_4)
set_option maxHeartbeats 8000000 in
set_option maxRecDepth 100000 in
theorem rows_row.calls (k : Nat) (a0_0 : Int) (a0_1 : Int) (a0_2 : ByteArray) (a0_3 : ByteArray) (A0_4 : Option Addr) (c0_4 : Nat) (l0_4 : List (S41)) (r : Bool) (w : World) (hr0_4 : Kd.C k41 w A0_4 l0_4.length l0_4) (hc0_4 : l0_4.length ≤ c0_4) (h : rows_row.f k a0_0 a0_1 a0_2 a0_3 l0_4 = some r) :
  Calls Tryd.prog 66 #[.agg #[.int .i64 a0_0, .int .i64 a0_1, .string a0_2, .string a0_3, .slice A0_4 l0_4.length c0_4]] w fun e w' => e = .returned (.bool r) ∧ Below w.heap.size w w' := by
 have hu35 := Tryd.underlying35
 have hu41 := Tryd.underlying41
 have HR0_4 := Aside0.mk hr0_4
 have HC0_4 := Aside0.mk hc0_4
 clear hr0_4 hc0_4
 have HB := Aside0.mk (Below.refl w.heap.size w)
 have H : (if a0_1 = 1 then (rows_row.j0 k true a0_0 a0_1 a0_2 a0_3 l0_4) else (rows_row.j0 k (a0_1 == 2) a0_0 a0_1 a0_2 a0_3 l0_4)) = some r := h
 clear h
 have HC2 := Aside0.mk H
 clear H
 go_enter Tryd.func66, Tryd.ntmps66
 go_upto_region 1 with (first | ((with_reducible refine gate_dst (N := 1) rfl ?_); (try (refine gate_guard (by rfl) ?_; dsimp only)); refine box_event ?hg (N := 1) ?hd (cs := #[.int .i64 a0_0, .int .i64 a0_1, .string a0_2, .string a0_3, .slice A0_4 l0_4.length c0_4]) (t := 35) ?hr ?_; (case hd => rfl); (case hg => rfl); (case hr => first | (go_simp; done) | (go_simp; rfl)); intro gb255 hg w3 hbox hb; have n0_ := Aside0.mk (below_step y13_ hb); have n1_ := Aside0.mk (hbox); have n2_ := Aside0.mk ((by rw [hg]; exact (below_size y13_) : w.heap.size ≤ gb255)); have n3_ := Aside0.mk ((by rw [hg]; exact (below_size y13_) : w.heap.size ≤ gb255)); clear HB; have HB := n0_; have BK255 := n1_; have GW255 := n2_; have GE255 := n3_; clear n0_ n1_ n2_ n3_; clear hb hbox hg))
 (try simp only [Act.put, List.setIfInBounds_toArray, List.set_cons_zero, List.set_cons_succ])
 go_cut [14] (fun v14 wc => ∃ (kq : Nat) (x14_1 : Bool), v14 = .bool x14_1 ∧ Aside0 (rows_row.j0 kq x14_1 a0_0 a0_1 a0_2 a0_3 l0_4 = some r) ∧ Aside0 (kq ≤ k) ∧ Aside0 (wc.heap[gb255]? = some (.cells #[.int .i64 a0_0, .int .i64 a0_1, .string a0_2, .string a0_3, (.slice A0_4 l0_4.length c0_4)] 35 (0, 0))) ∧ Aside0 (Below w.heap.size w wc))
 case first =>
  have H := HC2.out
  clear HC2
  by_cases c4 : a0_1 = 1
  ·rw [if_pos c4] at H
   have c4b0 : (a0_1 == 1) = true := beq_iff_eq.mpr c4
   have c4b1 : (a0_1 != 1) = false := bne_eq_false_iff_eq.mpr c4
   clear c4
   (first | rw [c4b0] | (simp only [i64_w, i32_w]; rw [c4b0]) | skip)
   have H' := Aside0.mk H
   clear H
   have hcz5_0 : w3.cell? ⟨gb255, 0, none⟩ = some (.int .i64 a0_0) := (blk_cell BK255.out 0).trans rfl
   have hcz5_1 : w3.cell? ⟨gb255, 1, none⟩ = some (.int .i64 a0_1) := (blk_cell BK255.out 1).trans rfl
   have hcz5_2 : w3.cell? ⟨gb255, 2, none⟩ = some (.string a0_2) := (blk_cell BK255.out 2).trans rfl
   have hcz5_3 : w3.cell? ⟨gb255, 3, none⟩ = some (.string a0_3) := (blk_cell BK255.out 3).trans rfl
   have hcz5_4 : w3.cell? ⟨gb255, 4, none⟩ = some (.slice A0_4 l0_4.length c0_4) := (blk_cell BK255.out 4).trans rfl
   have hfz5_0 := blk_frozen BK255.out 0
   have hfz5_1 := blk_frozen BK255.out 1
   have hfz5_2 := blk_frozen BK255.out 2
   have hfz5_3 := blk_frozen BK255.out 3
   have hfz5_4 := blk_frozen BK255.out 4
   go_wp2
   go_meet
   case rel => exact ⟨_, (true), y4_, H', ⟨y1_⟩, ⟨by (with_reducible repeat (first | refine blk_drewN ?_ _ | refine blk_drew ?_ | refine blk_alloc ?_ _)); exact BK255.out⟩, ⟨(y17_ GE255.out)⟩⟩
  ·rw [if_neg c4] at H
   have c4b0 : (a0_1 == 1) = false := beq_eq_false_iff_ne.mpr c4
   have c4b1 : (a0_1 != 1) = true := bne_iff_ne.mpr c4
   (first | rw [c4b0] | (simp only [i64_w, i32_w]; rw [c4b0]) | skip)
   have H' := Aside0.mk H
   clear H
   have hcz6_0 : w3.cell? ⟨gb255, 0, none⟩ = some (.int .i64 a0_0) := (blk_cell BK255.out 0).trans rfl
   have hcz6_1 : w3.cell? ⟨gb255, 1, none⟩ = some (.int .i64 a0_1) := (blk_cell BK255.out 1).trans rfl
   have hcz6_2 : w3.cell? ⟨gb255, 2, none⟩ = some (.string a0_2) := (blk_cell BK255.out 2).trans rfl
   have hcz6_3 : w3.cell? ⟨gb255, 3, none⟩ = some (.string a0_3) := (blk_cell BK255.out 3).trans rfl
   have hcz6_4 : w3.cell? ⟨gb255, 4, none⟩ = some (.slice A0_4 l0_4.length c0_4) := (blk_cell BK255.out 4).trans rfl
   have hfz6_0 := blk_frozen BK255.out 0
   have hfz6_1 := blk_frozen BK255.out 1
   have hfz6_2 := blk_frozen BK255.out 2
   have hfz6_3 := blk_frozen BK255.out 3
   have hfz6_4 := blk_frozen BK255.out 4
   go_wp2
   go_meet
   case rel => exact ⟨_, ((a0_1 == 2)), y4_, H', ⟨y1_⟩, ⟨by (with_reducible repeat (first | refine blk_drewN ?_ _ | refine blk_drew ?_ | refine blk_alloc ?_ _)); exact BK255.out⟩, ⟨(y17_ GE255.out)⟩⟩
 case rest =>
  clear HC2
  try clear p2
  try clear c4
  try clear c4b0
  try clear c4b1
  try clear c6
  try clear hcz5_0
  try clear hcz5_1
  try clear hcz5_2
  try clear hcz5_3
  try clear hcz5_4
  try clear hcz6_0
  try clear hcz6_1
  try clear hcz6_2
  try clear hcz6_3
  try clear hcz6_4
  try clear hfz5_0
  try clear hfz5_1
  try clear hfz5_2
  try clear hfz5_3
  try clear hfz5_4
  try clear hfz6_0
  try clear hfz6_1
  try clear hfz6_2
  try clear hfz6_3
  try clear hfz6_4
  obtain ⟨kq, x14_1, rfl, HA, HJ1, BK255, HB⟩ := hcut
  cases kq with
  | zero => exact absurd HA.out (by simp [rows_row.j0])
  | succ kj1 =>
   have H := HA.out
   clear HA
   simp only [rows_row.j0] at H
   by_cases c7 : x14_1 = true
   ·subst c7
    rw [if_pos rfl] at H
    by_cases c8 : a0_2.toList = ([] : List UInt8)
    ·rw [if_pos c8] at H
     have c8b0 : (a0_2.toList == ([] : List UInt8)) = true := beq_iff_eq.mpr c8
     have c8b1 : (a0_2.toList != ([] : List UInt8)) = false := bne_eq_false_iff_eq.mpr c8
     clear c8
     obtain rfl := Option.some.inj H
     have hcz9_0 : wc.cell? ⟨gb255, 0, none⟩ = some (.int .i64 a0_0) := (blk_cell BK255.out 0).trans rfl
     have hcz9_1 : wc.cell? ⟨gb255, 1, none⟩ = some (.int .i64 a0_1) := (blk_cell BK255.out 1).trans rfl
     have hcz9_2 : wc.cell? ⟨gb255, 2, none⟩ = some (.string a0_2) := (blk_cell BK255.out 2).trans rfl
     have hcz9_3 : wc.cell? ⟨gb255, 3, none⟩ = some (.string a0_3) := (blk_cell BK255.out 3).trans rfl
     have hcz9_4 : wc.cell? ⟨gb255, 4, none⟩ = some (.slice A0_4 l0_4.length c0_4) := (blk_cell BK255.out 4).trans rfl
     have hfz9_0 := blk_frozen BK255.out 0
     have hfz9_1 := blk_frozen BK255.out 1
     have hfz9_2 := blk_frozen BK255.out 2
     have hfz9_3 := blk_frozen BK255.out 3
     have hfz9_4 := blk_frozen BK255.out 4
     go_wp2
     go_ret
     exact ⟨y11_, (y17_ GE255.out)⟩
    ·rw [if_neg c8] at H
     have c8b0 : (a0_2.toList == ([] : List UInt8)) = false := beq_eq_false_iff_ne.mpr c8
     have c8b1 : (a0_2.toList != ([] : List UInt8)) = true := bne_iff_ne.mpr c8
     obtain rfl := Option.some.inj H
     have hcz10_0 : wc.cell? ⟨gb255, 0, none⟩ = some (.int .i64 a0_0) := (blk_cell BK255.out 0).trans rfl
     have hcz10_1 : wc.cell? ⟨gb255, 1, none⟩ = some (.int .i64 a0_1) := (blk_cell BK255.out 1).trans rfl
     have hcz10_2 : wc.cell? ⟨gb255, 2, none⟩ = some (.string a0_2) := (blk_cell BK255.out 2).trans rfl
     have hcz10_3 : wc.cell? ⟨gb255, 3, none⟩ = some (.string a0_3) := (blk_cell BK255.out 3).trans rfl
     have hcz10_4 : wc.cell? ⟨gb255, 4, none⟩ = some (.slice A0_4 l0_4.length c0_4) := (blk_cell BK255.out 4).trans rfl
     have hfz10_0 := blk_frozen BK255.out 0
     have hfz10_1 := blk_frozen BK255.out 1
     have hfz10_2 := blk_frozen BK255.out 2
     have hfz10_3 := blk_frozen BK255.out 3
     have hfz10_4 := blk_frozen BK255.out 4
     go_wp2
     go_ret
     exact ⟨y11_, (y17_ GE255.out)⟩
   ·replace c7 := Bool.eq_false_iff.mpr c7
    subst c7
    rw [if_neg (show ¬ (false = true) by decide)] at H
    have HC11 := Aside0.mk H
    clear H
    go_upto_region 3 with (fail)
    go_cut [36] (fun v36 wc => ∃ (kq : Nat) (x36_10 : Bool), v36 = .bool x36_10 ∧ Aside0 (rows_row.j1 kq x36_10 a0_0 a0_1 a0_2 a0_3 l0_4 = some r) ∧ Aside0 (kq ≤ kj1) ∧ Aside0 (wc.heap[gb255]? = some (.cells #[.int .i64 a0_0, .int .i64 a0_1, .string a0_2, .string a0_3, (.slice A0_4 l0_4.length c0_4)] 35 (0, 0))) ∧ Aside0 (Below w.heap.size w wc))
    case first =>
     have H := HC11.out
     clear HC11
     by_cases c12 : a0_1 = 0
     ·rw [if_pos c12] at H
      have c12b0 : (a0_1 == 0) = true := beq_iff_eq.mpr c12
      have c12b1 : (a0_1 != 0) = false := bne_eq_false_iff_eq.mpr c12
      clear c12
      (first | rw [c12b0] | (simp only [i64_w, i32_w]; rw [c12b0]) | skip)
      by_cases c13 : a0_2.toList = ([] : List UInt8)
      ·rw [if_pos c13] at H
       have c13b0 : (a0_2.toList == ([] : List UInt8)) = true := beq_iff_eq.mpr c13
       have c13b1 : (a0_2.toList != ([] : List UInt8)) = false := bne_eq_false_iff_eq.mpr c13
       clear c13
       have H' := Aside0.mk H
       clear H
       have hcz14_0 : wc.cell? ⟨gb255, 0, none⟩ = some (.int .i64 a0_0) := (blk_cell BK255.out 0).trans rfl
       have hcz14_1 : wc.cell? ⟨gb255, 1, none⟩ = some (.int .i64 a0_1) := (blk_cell BK255.out 1).trans rfl
       have hcz14_2 : wc.cell? ⟨gb255, 2, none⟩ = some (.string a0_2) := (blk_cell BK255.out 2).trans rfl
       have hcz14_3 : wc.cell? ⟨gb255, 3, none⟩ = some (.string a0_3) := (blk_cell BK255.out 3).trans rfl
       have hcz14_4 : wc.cell? ⟨gb255, 4, none⟩ = some (.slice A0_4 l0_4.length c0_4) := (blk_cell BK255.out 4).trans rfl
       have hfz14_0 := blk_frozen BK255.out 0
       have hfz14_1 := blk_frozen BK255.out 1
       have hfz14_2 := blk_frozen BK255.out 2
       have hfz14_3 := blk_frozen BK255.out 3
       have hfz14_4 := blk_frozen BK255.out 4
       go_wp2
       go_meet
       case rel => exact ⟨_, (true), y4_, H', ⟨by have := HJ1.out; first | omega | exact Nat.le_refl _⟩, ⟨by (with_reducible repeat (first | refine blk_drewN ?_ _ | refine blk_drew ?_ | refine blk_alloc ?_ _)); exact BK255.out⟩, ⟨(y17_ GE255.out)⟩⟩
      ·rw [if_neg c13] at H
       have c13b0 : (a0_2.toList == ([] : List UInt8)) = false := beq_eq_false_iff_ne.mpr c13
       have c13b1 : (a0_2.toList != ([] : List UInt8)) = true := bne_iff_ne.mpr c13
       have H' := Aside0.mk H
       clear H
       have hcz15_0 : wc.cell? ⟨gb255, 0, none⟩ = some (.int .i64 a0_0) := (blk_cell BK255.out 0).trans rfl
       have hcz15_1 : wc.cell? ⟨gb255, 1, none⟩ = some (.int .i64 a0_1) := (blk_cell BK255.out 1).trans rfl
       have hcz15_2 : wc.cell? ⟨gb255, 2, none⟩ = some (.string a0_2) := (blk_cell BK255.out 2).trans rfl
       have hcz15_3 : wc.cell? ⟨gb255, 3, none⟩ = some (.string a0_3) := (blk_cell BK255.out 3).trans rfl
       have hcz15_4 : wc.cell? ⟨gb255, 4, none⟩ = some (.slice A0_4 l0_4.length c0_4) := (blk_cell BK255.out 4).trans rfl
       have hfz15_0 := blk_frozen BK255.out 0
       have hfz15_1 := blk_frozen BK255.out 1
       have hfz15_2 := blk_frozen BK255.out 2
       have hfz15_3 := blk_frozen BK255.out 3
       have hfz15_4 := blk_frozen BK255.out 4
       go_wp2
       go_meet
       case rel => exact ⟨_, ((a0_3.toList != ([] : List UInt8))), y4_, H', ⟨by have := HJ1.out; first | omega | exact Nat.le_refl _⟩, ⟨by (with_reducible repeat (first | refine blk_drewN ?_ _ | refine blk_drew ?_ | refine blk_alloc ?_ _)); exact BK255.out⟩, ⟨(y17_ GE255.out)⟩⟩
     ·rw [if_neg c12] at H
      have c12b0 : (a0_1 == 0) = false := beq_eq_false_iff_ne.mpr c12
      have c12b1 : (a0_1 != 0) = true := bne_iff_ne.mpr c12
      (first | rw [c12b0] | (simp only [i64_w, i32_w]; rw [c12b0]) | skip)
      have H' := Aside0.mk H
      clear H
      have hcz16_0 : wc.cell? ⟨gb255, 0, none⟩ = some (.int .i64 a0_0) := (blk_cell BK255.out 0).trans rfl
      have hcz16_1 : wc.cell? ⟨gb255, 1, none⟩ = some (.int .i64 a0_1) := (blk_cell BK255.out 1).trans rfl
      have hcz16_2 : wc.cell? ⟨gb255, 2, none⟩ = some (.string a0_2) := (blk_cell BK255.out 2).trans rfl
      have hcz16_3 : wc.cell? ⟨gb255, 3, none⟩ = some (.string a0_3) := (blk_cell BK255.out 3).trans rfl
      have hcz16_4 : wc.cell? ⟨gb255, 4, none⟩ = some (.slice A0_4 l0_4.length c0_4) := (blk_cell BK255.out 4).trans rfl
      have hfz16_0 := blk_frozen BK255.out 0
      have hfz16_1 := blk_frozen BK255.out 1
      have hfz16_2 := blk_frozen BK255.out 2
      have hfz16_3 := blk_frozen BK255.out 3
      have hfz16_4 := blk_frozen BK255.out 4
      go_wp2
      go_meet
      case rel => exact ⟨_, (true), y4_, H', ⟨by have := HJ1.out; first | omega | exact Nat.le_refl _⟩, ⟨by (with_reducible repeat (first | refine blk_drewN ?_ _ | refine blk_drew ?_ | refine blk_alloc ?_ _)); exact BK255.out⟩, ⟨(y17_ GE255.out)⟩⟩
    case rest =>
     clear HC11
     try clear c1
     try clear p2
     try clear c4
     try clear c4b0
     try clear c4b1
     try clear c6
     try clear c7
     try clear c8
     try clear c8b0
     try clear c8b1
     try clear c12
     try clear c12b0
     try clear c12b1
     try clear c13
     try clear c13b0
     try clear c13b1
     try clear hcz10_0
     try clear hcz10_1
     try clear hcz10_2
     try clear hcz10_3
     try clear hcz10_4
     try clear hcz14_0
     try clear hcz14_1
     try clear hcz14_2
     try clear hcz14_3
     try clear hcz14_4
     try clear hcz15_0
     try clear hcz15_1
     try clear hcz15_2
     try clear hcz15_3
     try clear hcz15_4
     try clear hcz16_0
     try clear hcz16_1
     try clear hcz16_2
     try clear hcz16_3
     try clear hcz16_4
     try clear hcz5_0
     try clear hcz5_1
     try clear hcz5_2
     try clear hcz5_3
     try clear hcz5_4
     try clear hcz6_0
     try clear hcz6_1
     try clear hcz6_2
     try clear hcz6_3
     try clear hcz6_4
     try clear hcz9_0
     try clear hcz9_1
     try clear hcz9_2
     try clear hcz9_3
     try clear hcz9_4
     try clear hfz10_0
     try clear hfz10_1
     try clear hfz10_2
     try clear hfz10_3
     try clear hfz10_4
     try clear hfz14_0
     try clear hfz14_1
     try clear hfz14_2
     try clear hfz14_3
     try clear hfz14_4
     try clear hfz15_0
     try clear hfz15_1
     try clear hfz15_2
     try clear hfz15_3
     try clear hfz15_4
     try clear hfz16_0
     try clear hfz16_1
     try clear hfz16_2
     try clear hfz16_3
     try clear hfz16_4
     try clear hfz5_0
     try clear hfz5_1
     try clear hfz5_2
     try clear hfz5_3
     try clear hfz5_4
     try clear hfz6_0
     try clear hfz6_1
     try clear hfz6_2
     try clear hfz6_3
     try clear hfz6_4
     try clear hfz9_0
     try clear hfz9_1
     try clear hfz9_2
     try clear hfz9_3
     try clear hfz9_4
     try clear p2
     obtain ⟨kq, x36_10, rfl, HA, HJ10, BK255, HB⟩ := hcut
     cases kq with
     | zero => exact absurd HA.out (by simp [rows_row.j1])
     | succ kj10 =>
      have H := HA.out
      clear HA
      simp only [rows_row.j1] at H
      by_cases c17 : x36_10 = true
      ·subst c17
       rw [if_pos rfl] at H
       obtain rfl := Option.some.inj H
       go_wp2
       go_ret
       exact ⟨y11_, (y17_ GE255.out)⟩
      ·replace c17 := Bool.eq_false_iff.mpr c17
       subst c17
       rw [if_neg (show ¬ (false = true) by decide)] at H
       have H' := Aside0.mk H
       clear H
       have hcz18_0 : wc.cell? ⟨gb255, 0, none⟩ = some (.int .i64 a0_0) := (blk_cell BK255.out 0).trans rfl
       have hcz18_1 : wc.cell? ⟨gb255, 1, none⟩ = some (.int .i64 a0_1) := (blk_cell BK255.out 1).trans rfl
       have hcz18_2 : wc.cell? ⟨gb255, 2, none⟩ = some (.string a0_2) := (blk_cell BK255.out 2).trans rfl
       have hcz18_3 : wc.cell? ⟨gb255, 3, none⟩ = some (.string a0_3) := (blk_cell BK255.out 3).trans rfl
       have hcz18_4 : wc.cell? ⟨gb255, 4, none⟩ = some (.slice A0_4 l0_4.length c0_4) := (blk_cell BK255.out 4).trans rfl
       have hfz18_0 := blk_frozen BK255.out 0
       have hfz18_1 := blk_frozen BK255.out 1
       have hfz18_2 := blk_frozen BK255.out 2
       have hfz18_3 := blk_frozen BK255.out 3
       have hfz18_4 := blk_frozen BK255.out 4
       go_wp2
       go_loopg [40] kj10 (fun kq v40 w' => ∃ (x40_3 : Int), v40 = .int .i64 x40_3 ∧ Aside0 (rows_row.l0 kq l0_4 (l0_4.length : Int) x40_3 a0_0 a0_1 a0_2 a0_3 l0_4 = some r) ∧ Aside0 (kq ≤ kj10) ∧ Aside0 (w'.heap[gb255]? = some (.cells #[.int .i64 a0_0, .int .i64 a0_1, .string a0_2, .string a0_3, (.slice A0_4 l0_4.length c0_4)] 35 (0, 0))) ∧ Aside0 (Below w.heap.size w w'))
       case atStart => exact ⟨(0), y4_, H', ⟨Nat.le_refl _⟩, ⟨by (with_reducible repeat (first | refine blk_drewN ?_ _ | refine blk_drew ?_ | refine blk_alloc ?_ _)); exact BK255.out⟩, ⟨(y17_ GE255.out)⟩⟩
       case round =>
        clear H'
        try clear c1
        try clear p2
        try clear c4
        try clear c4b0
        try clear c4b1
        try clear c6
        try clear c7
        try clear c8
        try clear c8b0
        try clear c8b1
        try clear c12
        try clear c12b0
        try clear c12b1
        try clear c13
        try clear c13b0
        try clear c13b1
        try clear c17
        try clear hcz10_0
        try clear hcz10_1
        try clear hcz10_2
        try clear hcz10_3
        try clear hcz10_4
        try clear hcz14_0
        try clear hcz14_1
        try clear hcz14_2
        try clear hcz14_3
        try clear hcz14_4
        try clear hcz15_0
        try clear hcz15_1
        try clear hcz15_2
        try clear hcz15_3
        try clear hcz15_4
        try clear hcz16_0
        try clear hcz16_1
        try clear hcz16_2
        try clear hcz16_3
        try clear hcz16_4
        try clear hcz18_0
        try clear hcz18_1
        try clear hcz18_2
        try clear hcz18_3
        try clear hcz18_4
        try clear hcz5_0
        try clear hcz5_1
        try clear hcz5_2
        try clear hcz5_3
        try clear hcz5_4
        try clear hcz6_0
        try clear hcz6_1
        try clear hcz6_2
        try clear hcz6_3
        try clear hcz6_4
        try clear hcz9_0
        try clear hcz9_1
        try clear hcz9_2
        try clear hcz9_3
        try clear hcz9_4
        try clear hfz10_0
        try clear hfz10_1
        try clear hfz10_2
        try clear hfz10_3
        try clear hfz10_4
        try clear hfz14_0
        try clear hfz14_1
        try clear hfz14_2
        try clear hfz14_3
        try clear hfz14_4
        try clear hfz15_0
        try clear hfz15_1
        try clear hfz15_2
        try clear hfz15_3
        try clear hfz15_4
        try clear hfz16_0
        try clear hfz16_1
        try clear hfz16_2
        try clear hfz16_3
        try clear hfz16_4
        try clear hfz18_0
        try clear hfz18_1
        try clear hfz18_2
        try clear hfz18_3
        try clear hfz18_4
        try clear hfz5_0
        try clear hfz5_1
        try clear hfz5_2
        try clear hfz5_3
        try clear hfz5_4
        try clear hfz6_0
        try clear hfz6_1
        try clear hfz6_2
        try clear hfz6_3
        try clear hfz6_4
        try clear hfz9_0
        try clear hfz9_1
        try clear hfz9_2
        try clear hfz9_3
        try clear hfz9_4
        try clear p2
        obtain ⟨x40_3, rfl, HA, HK3, BK255, HB⟩ := hrel
        cases gk with
        | zero => exact absurd HA.out (by simp [rows_row.l0])
        | succ k3 =>
         have H := HA.out
         clear HA
         simp only [rows_row.l0] at H
         by_cases c19 : x40_3 < (l0_4.length : Int)
         ·rw [if_pos c19] at H
          have c19b0 : decide (x40_3 < (l0_4.length : Int)) = true := decide_eq_true c19
          clear c19
          by_cases c20 : 0 ≤ x40_3
          rotate_left
          ·rw [if_neg c20] at H
           exact absurd H (by simp)
          rw [if_pos c20] at H
          have c20b0 : decide (0 ≤ x40_3) = true := decide_eq_true c20
          clear c20
          by_cases c21 : x40_3 < (l0_4.length : Int)
          rotate_left
          ·rw [if_neg c21] at H
           exact absurd H (by simp)
          rw [if_pos c21] at H
          have c21b0 : decide (x40_3 < (l0_4.length : Int)) = true := decide_eq_true c21
          clear c21
          have c22b0 := eq_true (of_decide_eq_true y2_ : 0 ≤ x40_3)
          by_cases c23 : x40_3 ≤ (l0_4.length : Int)
          rotate_left
          ·rw [if_neg c23] at H
           exact absurd H (by simp)
          rw [if_pos c23] at H
          have c23b0 := eq_true c23
          have c23b1 : decide (x40_3 ≤ (l0_4.length : Int)) = true := decide_eq_true c23
          clear c23
          obtain ⟨y258, hy258⟩ : ∃ y_ : List (S41), y_ = (l0_4.take (x40_3 : Int).toNat) := ⟨_, rfl⟩
          replace H : (rows_row.l1 k3 l0_4 (l0_4.length : Int) x40_3 y258 (y258.length : Int) 0 a0_0 a0_1 a0_2 a0_3 l0_4 ((rd_T41 l0_4 x40_3).f0) ((rd_T41 l0_4 x40_3).f1)) = some r := by first | (rw [hy258]; with_reducible exact H) | (have H2_ := (Option.bind_some _ _).symm.trans H; rw [hy258]; with_reducible exact H2_) | (have H2_ := (Option.bind_some _ _).symm.trans H; with_reducible exact H2_) | with_reducible exact H | (rw [hy258]; exact H) | exact H
          have Ny258 := Aside0.mk hy258
          clear hy258
          have H' := Aside0.mk H
          clear H
          have p256 : 0 ≤ (x40_3 : Int) := of_decide_eq_true y2_
          have q256 : x40_3 < (l0_4.length : Int) := of_decide_eq_true y2_
          obtain ⟨ad256, e256, hx256_0, hx256_1⟩ := at_T41 HR0_4.out x40_3 p256 q256
          cases e256
          replace hx256_0 := (HB.out.cell (World.block_lt_of_cell? w _ hx256_0)).trans hx256_0
          replace hx256_1 := (HB.out.cell (World.block_lt_of_cell? w _ hx256_1)).trans hx256_1
          replace p256 := eq_true p256
          replace q256 := eq_true q256
          go_wp2_with (first | ((with_reducible refine gate_dst (N := 4) rfl ?_); (try (refine gate_guard (by rfl) ?_; dsimp only)); refine box_event ?hg (N := 4) ?hd (cs := #[.string (⟨#[]⟩ : ByteArray), .string (⟨#[]⟩ : ByteArray)]) (t := 41) ?hr ?_; (case hd => rfl); (case hg => rfl); (case hr => first | (go_simp; done) | (go_simp; rfl)); intro gb257 hg w24 hbox hb; have n0_ := Aside0.mk (blk_below (g := gb255) (o := .cells #[.int .i64 a0_0, .int .i64 a0_1, .string a0_2, .string a0_3, .slice (some ad256) l0_4.length c0_4] 35 (0, 0)) (y10_ BK255.out) hb); have n1_ := Aside0.mk (below_step (y17_ GE255.out) hb); have n2_ := Aside0.mk (hbox); have n3_ := Aside0.mk ((by rw [hg]; exact (below_size (y17_ GE255.out)) : w.heap.size ≤ gb257)); have n4_ := Aside0.mk ((by rw [hg]; exact (below_size (y17_ GE255.out)) : w.heap.size ≤ gb257)); have n5_ := Aside0.mk ((by rw [hg]; exact Nat.ne_of_lt (blk_lt (g := gb255) (o := .cells #[.int .i64 a0_0, .int .i64 a0_1, .string a0_2, .string a0_3, .slice (some ad256) l0_4.length c0_4] 35 (0, 0)) (y10_ BK255.out)) : gb255 ≠ gb257)); have n6_ := Aside0.mk ((by rw [hg]; exact Nat.ne_of_gt (blk_lt (g := gb255) (o := .cells #[.int .i64 a0_0, .int .i64 a0_1, .string a0_2, .string a0_3, .slice (some ad256) l0_4.length c0_4] 35 (0, 0)) (y10_ BK255.out)) : gb257 ≠ gb255)); clear BK255; clear HB; have BK255 := n0_; have HB := n1_; have BK257 := n2_; have GW257 := n3_; have GE257 := n4_; have NB255_257 := n5_; have NB257_255 := n6_; clear n0_ n1_ n2_ n3_ n4_ n5_ n6_; clear hb hbox hg; have hnb25 := NB257_255.out; have hnc25 := NB255_257.out; have hcz26_0 : w24.cell? ⟨gb257, 0, none⟩ = some (.string (⟨#[]⟩ : ByteArray)) := (blk_cell BK257.out 0).trans rfl; have hcz26_1 : w24.cell? ⟨gb257, 1, none⟩ = some (.string (⟨#[]⟩ : ByteArray)) := (blk_cell BK257.out 1).trans rfl; have hfz26_0 := blk_frozen BK257.out 0; have hfz26_1 := blk_frozen BK257.out 1) | ((with_reducible refine gate_store (t := 41) (p := 4) rfl ?_); refine store_event (t := 41) (p := 4) (v := ?vo_w27) (w1 := ((w24.setCell ⟨gb257, 0, none⟩ (.string ((rd_T41 l0_4 x40_3).f0))).setCell ⟨gb257, 1, none⟩ (.string ((rd_T41 l0_4 x40_3).f1)))) ?hg ?ho ?hn ?hr ?_; (case ho => rfl); (case hg => rfl); (case hn => rfl); (case hr => first | (go_simp; done) | (go_simp; rfl)); intro w27 hw; have n0_ : Aside0 (w27.heap[gb255]? = some (.cells #[.int .i64 a0_0, .int .i64 a0_1, .string a0_2, .string a0_3, .slice (some ad256) l0_4.length c0_4] 35 (0, 0))) := ⟨(by rw [hw]; exact (y26_ NB255_257.out BK255.out))⟩; have n1_ : Aside0 (w27.heap[gb257]? = some (.cells #[.string ((rd_T41 l0_4 x40_3).f0), .string ((rd_T41 l0_4 x40_3).f1)] 41 (0, 0))) := ⟨(by rw [hw]; exact (by (with_reducible repeat (first | refine blk_drewN ?_ _ | refine blk_drew ?_ | refine blk_alloc ?_ _)); refine blk_put (cs := #[.string ((rd_T41 l0_4 x40_3).f0), .string (⟨#[]⟩ : ByteArray)]) ?_ 1 _ rfl; (with_reducible repeat (first | refine blk_drewN ?_ _ | refine blk_drew ?_ | refine blk_alloc ?_ _)); refine blk_put (cs := #[.string (⟨#[]⟩ : ByteArray), .string (⟨#[]⟩ : ByteArray)]) ?_ 0 _ rfl; (with_reducible repeat (first | refine blk_drewN ?_ _ | refine blk_drew ?_ | refine blk_alloc ?_ _)); exact BK257.out))⟩; have n2_ : Aside0 (Below w.heap.size w w27) := ⟨(by rw [hw]; exact (y19_ GE255.out GE257.out))⟩; clear hw; clear BK255; clear BK257; clear HB; have BK255 := n0_; have BK257 := n1_; have HB := n2_; clear n0_ n1_ n2_; have hcz28_0 : w27.cell? ⟨gb255, 0, none⟩ = some (.int .i64 a0_0) := (blk_cell BK255.out 0).trans rfl; have hcz28_1 : w27.cell? ⟨gb255, 1, none⟩ = some (.int .i64 a0_1) := (blk_cell BK255.out 1).trans rfl; have hcz28_2 : w27.cell? ⟨gb255, 2, none⟩ = some (.string a0_2) := (blk_cell BK255.out 2).trans rfl; have hcz28_3 : w27.cell? ⟨gb255, 3, none⟩ = some (.string a0_3) := (blk_cell BK255.out 3).trans rfl; have hcz28_4 : w27.cell? ⟨gb255, 4, none⟩ = some (.slice (some ad256) l0_4.length c0_4) := (blk_cell BK255.out 4).trans rfl; have hfz28_0 := blk_frozen BK255.out 0; have hfz28_1 := blk_frozen BK255.out 1; have hfz28_2 := blk_frozen BK255.out 2; have hfz28_3 := blk_frozen BK255.out 3; have hfz28_4 := blk_frozen BK255.out 4; have q29 : (x40_3 : Int) ≤ ((l0_4.length : Int) : Int) := of_decide_eq_true y2_; obtain ⟨i029, hi029, _, hsz29, _⟩ := info_parts info41; have hroom29 : l0_4.length ≤ c0_4 := HC0_4.out; have hC29 : Kd.C k41 _ (some ad256) l0_4.length l0_4 := HR0_4.out; have hcut29 := cut_to (P := Tryd.prog) 33 41 .i64 Tryd.underlying33 hi029 (some ad256) l0_4.length c0_4 x40_3 (of_decide_eq_true y2_) q29 hroom29; have hr29 := Kd.C_take (m := (x40_3 : Int).toNat) hC29 (by omega); have hy29 : y258.length = (x40_3 : Int).toNat := (y0_ Ny258.out); rw [← Ny258.out] at hr29; rw [← hy29] at hcut29; have HR261 := Aside0.mk hr29; have HC261 := Aside0.mk (show y258.length ≤ c0_4 from by omega); clear hr29 hC29 hroom29 hi029 hsz29; have KY29 := Aside0.mk hy29; clear hy29; replace q29 := eq_true q29))
          go_loopg [50] k3 (fun kq v50 w' => ∃ (x50_4 : Int), v50 = .int .i64 x50_4 ∧ Aside0 (rows_row.l1 kq l0_4 (l0_4.length : Int) x40_3 y258 (y258.length : Int) x50_4 a0_0 a0_1 a0_2 a0_3 l0_4 ((rd_T41 l0_4 x40_3).f0) ((rd_T41 l0_4 x40_3).f1) = some r) ∧ Aside0 (kq ≤ k3) ∧ Aside0 (w'.heap[gb255]? = some (.cells #[.int .i64 a0_0, .int .i64 a0_1, .string a0_2, .string a0_3, (.slice (some ad256) l0_4.length c0_4)] 35 (0, 0))) ∧ Aside0 (w'.heap[gb257]? = some (.cells #[.string ((rd_T41 l0_4 x40_3).f0), .string ((rd_T41 l0_4 x40_3).f1)] 41 (0, 0))) ∧ Aside0 (Below w.heap.size w w'))
          case atStart => exact ⟨(0), y4_, H', ⟨Nat.le_refl _⟩, ⟨by (with_reducible repeat (first | refine blk_drewN ?_ _ | refine blk_drew ?_ | refine blk_alloc ?_ _)); exact BK255.out⟩, ⟨by (with_reducible repeat (first | refine blk_drewN ?_ _ | refine blk_drew ?_ | refine blk_alloc ?_ _)); exact BK257.out⟩, ⟨(y19_ GE255.out GE257.out)⟩⟩
          case round =>
           clear H'
           try clear c1
           try clear c2
           try clear p2
           try clear q2
           try clear hx2
           try clear c4
           try clear c4b0
           try clear c4b1
           try clear c6
           try clear c7
           try clear c8
           try clear c8b0
           try clear c8b1
           try clear c12
           try clear c12b0
           try clear c12b1
           try clear c13
           try clear c13b0
           try clear c13b1
           try clear c17
           try clear c19
           try clear c19b0
           try clear c20
           try clear c20b0
           try clear c21
           try clear c21b0
           try clear c22
           try clear c22b0
           try clear c23
           try clear c23b0
           try clear c23b1
           try clear c25
           try clear p25
           try clear q25
           try clear hx25
           try clear q29
           try clear hcz10_0
           try clear hcz10_1
           try clear hcz10_2
           try clear hcz10_3
           try clear hcz10_4
           try clear hcz14_0
           try clear hcz14_1
           try clear hcz14_2
           try clear hcz14_3
           try clear hcz14_4
           try clear hcz15_0
           try clear hcz15_1
           try clear hcz15_2
           try clear hcz15_3
           try clear hcz15_4
           try clear hcz16_0
           try clear hcz16_1
           try clear hcz16_2
           try clear hcz16_3
           try clear hcz16_4
           try clear hcz18_0
           try clear hcz18_1
           try clear hcz18_2
           try clear hcz18_3
           try clear hcz18_4
           try clear hcz26_0
           try clear hcz26_1
           try clear hcz28_0
           try clear hcz28_1
           try clear hcz28_2
           try clear hcz28_3
           try clear hcz28_4
           try clear hcz5_0
           try clear hcz5_1
           try clear hcz5_2
           try clear hcz5_3
           try clear hcz5_4
           try clear hcz6_0
           try clear hcz6_1
           try clear hcz6_2
           try clear hcz6_3
           try clear hcz6_4
           try clear hcz9_0
           try clear hcz9_1
           try clear hcz9_2
           try clear hcz9_3
           try clear hcz9_4
           try clear hfz10_0
           try clear hfz10_1
           try clear hfz10_2
           try clear hfz10_3
           try clear hfz10_4
           try clear hfz14_0
           try clear hfz14_1
           try clear hfz14_2
           try clear hfz14_3
           try clear hfz14_4
           try clear hfz15_0
           try clear hfz15_1
           try clear hfz15_2
           try clear hfz15_3
           try clear hfz15_4
           try clear hfz16_0
           try clear hfz16_1
           try clear hfz16_2
           try clear hfz16_3
           try clear hfz16_4
           try clear hfz18_0
           try clear hfz18_1
           try clear hfz18_2
           try clear hfz18_3
           try clear hfz18_4
           try clear hfz26_0
           try clear hfz26_1
           try clear hfz28_0
           try clear hfz28_1
           try clear hfz28_2
           try clear hfz28_3
           try clear hfz28_4
           try clear hfz5_0
           try clear hfz5_1
           try clear hfz5_2
           try clear hfz5_3
           try clear hfz5_4
           try clear hfz6_0
           try clear hfz6_1
           try clear hfz6_2
           try clear hfz6_3
           try clear hfz6_4
           try clear hfz9_0
           try clear hfz9_1
           try clear hfz9_2
           try clear hfz9_3
           try clear hfz9_4
           try clear hx256_0
           try clear hx256_1
           try clear p2
           try clear p256
           try clear q256
           try clear q29
           obtain ⟨x50_4, rfl, HA, HK4, BK255, BK257, HB⟩ := hrel
           cases gk with
           | zero => exact absurd HA.out (by simp [rows_row.l1])
           | succ k4 =>
            have H := HA.out
            clear HA
            simp only [rows_row.l1] at H
            by_cases c30 : x50_4 < (y258.length : Int)
            ·rw [if_pos c30] at H
             have c30b0 : decide (x50_4 < (y258.length : Int)) = true := decide_eq_true c30
             clear c30
             by_cases c31 : 0 ≤ x50_4
             rotate_left
             ·rw [if_neg c31] at H
              exact absurd H (by simp)
             rw [if_pos c31] at H
             have c31b0 : decide (0 ≤ x50_4) = true := decide_eq_true c31
             clear c31
             by_cases c32 : x50_4 < (y258.length : Int)
             rotate_left
             ·rw [if_neg c32] at H
              exact absurd H (by simp)
             rw [if_pos c32] at H
             have c32b0 : decide (x50_4 < (y258.length : Int)) = true := decide_eq_true c32
             clear c32
             by_cases c33 : ((rd_T41 l0_4 x40_3).f0).toList = ((rd_T41 y258 x50_4).f0).toList
             ·rw [if_pos c33] at H
              have c33b0 : (((rd_T41 l0_4 x40_3).f0).toList == ((rd_T41 y258 x50_4).f0).toList) = true := beq_iff_eq.mpr c33
              have c33b1 : (((rd_T41 l0_4 x40_3).f0).toList != ((rd_T41 y258 x50_4).f0).toList) = false := bne_eq_false_iff_eq.mpr c33
              clear c33
              obtain rfl := Option.some.inj H
              have p262 : 0 ≤ (x50_4 : Int) := of_decide_eq_true y2_
              have q262 : x50_4 < (y258.length : Int) := of_decide_eq_true y2_
              obtain ⟨ad262, e262, hx262_0, hx262_1⟩ := at_T41 HR261.out x50_4 p262 q262
              obtain rfl : ad256 = ad262 := (by injection e262)
              replace hx262_0 := (HB.out.cell (World.block_lt_of_cell? w _ hx262_0)).trans hx262_0
              replace hx262_1 := (HB.out.cell (World.block_lt_of_cell? w _ hx262_1)).trans hx262_1
              replace p262 := eq_true p262
              replace q262 := eq_true q262
              go_wp2_with (first | ((with_reducible refine gate_dst (N := 6) rfl ?_); (try (refine gate_guard (by rfl) ?_; dsimp only)); refine box_event ?hg (N := 6) ?hd (cs := #[.string (⟨#[]⟩ : ByteArray), .string (⟨#[]⟩ : ByteArray)]) (t := 41) ?hr ?_; (case hd => rfl); (case hg => rfl); (case hr => first | (go_simp; done) | (go_simp; rfl)); intro gb263 hg w34 hbox hb; have n0_ := Aside0.mk (blk_below (g := gb255) (o := .cells #[.int .i64 a0_0, .int .i64 a0_1, .string a0_2, .string a0_3, .slice (some ad256) l0_4.length c0_4] 35 (0, 0)) (y10_ BK255.out) hb); have n1_ := Aside0.mk (blk_below (g := gb257) (o := .cells #[.string ((rd_T41 l0_4 x40_3).f0), .string ((rd_T41 l0_4 x40_3).f1)] 41 (0, 0)) (y10_ BK257.out) hb); have n2_ := Aside0.mk (below_step (y19_ GE255.out GE257.out) hb); have n3_ := Aside0.mk (hbox); have n4_ := Aside0.mk ((by rw [hg]; exact (below_size (y19_ GE255.out GE257.out)) : w.heap.size ≤ gb263)); have n5_ := Aside0.mk ((by rw [hg]; exact (below_size (y19_ GE255.out GE257.out)) : w.heap.size ≤ gb263)); have n6_ := Aside0.mk ((by rw [hg]; exact Nat.ne_of_lt (blk_lt (g := gb255) (o := .cells #[.int .i64 a0_0, .int .i64 a0_1, .string a0_2, .string a0_3, .slice (some ad256) l0_4.length c0_4] 35 (0, 0)) (y10_ BK255.out)) : gb255 ≠ gb263)); have n7_ := Aside0.mk ((by rw [hg]; exact Nat.ne_of_gt (blk_lt (g := gb255) (o := .cells #[.int .i64 a0_0, .int .i64 a0_1, .string a0_2, .string a0_3, .slice (some ad256) l0_4.length c0_4] 35 (0, 0)) (y10_ BK255.out)) : gb263 ≠ gb255)); have n8_ := Aside0.mk ((by rw [hg]; exact Nat.ne_of_lt (blk_lt (g := gb257) (o := .cells #[.string ((rd_T41 l0_4 x40_3).f0), .string ((rd_T41 l0_4 x40_3).f1)] 41 (0, 0)) (y10_ BK257.out)) : gb257 ≠ gb263)); have n9_ := Aside0.mk ((by rw [hg]; exact Nat.ne_of_gt (blk_lt (g := gb257) (o := .cells #[.string ((rd_T41 l0_4 x40_3).f0), .string ((rd_T41 l0_4 x40_3).f1)] 41 (0, 0)) (y10_ BK257.out)) : gb263 ≠ gb257)); clear BK255; clear BK257; clear HB; have BK255 := n0_; have BK257 := n1_; have HB := n2_; have BK263 := n3_; have GW263 := n4_; have GE263 := n5_; have NB255_263 := n6_; have NB263_255 := n7_; have NB257_263 := n8_; have NB263_257 := n9_; clear n0_ n1_ n2_ n3_ n4_ n5_ n6_ n7_ n8_ n9_; clear hb hbox hg; have hnb35 := NB263_255.out; have hnc35 := NB255_263.out; have hnb36 := NB263_257.out; have hnc36 := NB257_263.out; have hcz37_0 : w34.cell? ⟨gb263, 0, none⟩ = some (.string (⟨#[]⟩ : ByteArray)) := (blk_cell BK263.out 0).trans rfl; have hcz37_1 : w34.cell? ⟨gb263, 1, none⟩ = some (.string (⟨#[]⟩ : ByteArray)) := (blk_cell BK263.out 1).trans rfl; have hfz37_0 := blk_frozen BK263.out 0; have hfz37_1 := blk_frozen BK263.out 1; have hnb38 := NB257_255.out; have hnc38 := NB255_257.out; have hcz39_0 : w34.cell? ⟨gb257, 0, none⟩ = some (.string ((rd_T41 l0_4 x40_3).f0)) := (blk_cell BK257.out 0).trans rfl; have hcz39_1 : w34.cell? ⟨gb257, 1, none⟩ = some (.string ((rd_T41 l0_4 x40_3).f1)) := (blk_cell BK257.out 1).trans rfl; have hfz39_0 := blk_frozen BK257.out 0; have hfz39_1 := blk_frozen BK257.out 1))
              go_ret
              exact ⟨y11_, (y23_ GE255.out GE257.out GE263.out)⟩
             ·rw [if_neg c33] at H
              have c33b0 : (((rd_T41 l0_4 x40_3).f0).toList == ((rd_T41 y258 x50_4).f0).toList) = false := beq_eq_false_iff_ne.mpr c33
              have c33b1 : (((rd_T41 l0_4 x40_3).f0).toList != ((rd_T41 y258 x50_4).f0).toList) = true := bne_iff_ne.mpr c33
              have H' := Aside0.mk H
              clear H
              have p262 : 0 ≤ (x50_4 : Int) := of_decide_eq_true y2_
              have q262 : x50_4 < (y258.length : Int) := of_decide_eq_true y2_
              obtain ⟨ad262, e262, hx262_0, hx262_1⟩ := at_T41 HR261.out x50_4 p262 q262
              obtain rfl : ad256 = ad262 := (by injection e262)
              replace hx262_0 := (HB.out.cell (World.block_lt_of_cell? w _ hx262_0)).trans hx262_0
              replace hx262_1 := (HB.out.cell (World.block_lt_of_cell? w _ hx262_1)).trans hx262_1
              replace p262 := eq_true p262
              replace q262 := eq_true q262
              go_wp2_with (first | ((with_reducible refine gate_dst (N := 6) rfl ?_); (try (refine gate_guard (by rfl) ?_; dsimp only)); refine box_event ?hg (N := 6) ?hd (cs := #[.string (⟨#[]⟩ : ByteArray), .string (⟨#[]⟩ : ByteArray)]) (t := 41) ?hr ?_; (case hd => rfl); (case hg => rfl); (case hr => first | (go_simp; done) | (go_simp; rfl)); intro gb263 hg w40 hbox hb; have n0_ := Aside0.mk (blk_below (g := gb255) (o := .cells #[.int .i64 a0_0, .int .i64 a0_1, .string a0_2, .string a0_3, .slice (some ad256) l0_4.length c0_4] 35 (0, 0)) (y10_ BK255.out) hb); have n1_ := Aside0.mk (blk_below (g := gb257) (o := .cells #[.string ((rd_T41 l0_4 x40_3).f0), .string ((rd_T41 l0_4 x40_3).f1)] 41 (0, 0)) (y10_ BK257.out) hb); have n2_ := Aside0.mk (below_step (y19_ GE255.out GE257.out) hb); have n3_ := Aside0.mk (hbox); have n4_ := Aside0.mk ((by rw [hg]; exact (below_size (y19_ GE255.out GE257.out)) : w.heap.size ≤ gb263)); have n5_ := Aside0.mk ((by rw [hg]; exact (below_size (y19_ GE255.out GE257.out)) : w.heap.size ≤ gb263)); have n6_ := Aside0.mk ((by rw [hg]; exact Nat.ne_of_lt (blk_lt (g := gb255) (o := .cells #[.int .i64 a0_0, .int .i64 a0_1, .string a0_2, .string a0_3, .slice (some ad256) l0_4.length c0_4] 35 (0, 0)) (y10_ BK255.out)) : gb255 ≠ gb263)); have n7_ := Aside0.mk ((by rw [hg]; exact Nat.ne_of_gt (blk_lt (g := gb255) (o := .cells #[.int .i64 a0_0, .int .i64 a0_1, .string a0_2, .string a0_3, .slice (some ad256) l0_4.length c0_4] 35 (0, 0)) (y10_ BK255.out)) : gb263 ≠ gb255)); have n8_ := Aside0.mk ((by rw [hg]; exact Nat.ne_of_lt (blk_lt (g := gb257) (o := .cells #[.string ((rd_T41 l0_4 x40_3).f0), .string ((rd_T41 l0_4 x40_3).f1)] 41 (0, 0)) (y10_ BK257.out)) : gb257 ≠ gb263)); have n9_ := Aside0.mk ((by rw [hg]; exact Nat.ne_of_gt (blk_lt (g := gb257) (o := .cells #[.string ((rd_T41 l0_4 x40_3).f0), .string ((rd_T41 l0_4 x40_3).f1)] 41 (0, 0)) (y10_ BK257.out)) : gb263 ≠ gb257)); clear BK255; clear BK257; clear HB; have BK255 := n0_; have BK257 := n1_; have HB := n2_; have BK263 := n3_; have GW263 := n4_; have GE263 := n5_; have NB255_263 := n6_; have NB263_255 := n7_; have NB257_263 := n8_; have NB263_257 := n9_; clear n0_ n1_ n2_ n3_ n4_ n5_ n6_ n7_ n8_ n9_; clear hb hbox hg; have hnb41 := NB263_255.out; have hnc41 := NB255_263.out; have hnb42 := NB263_257.out; have hnc42 := NB257_263.out; have hcz43_0 : w40.cell? ⟨gb263, 0, none⟩ = some (.string (⟨#[]⟩ : ByteArray)) := (blk_cell BK263.out 0).trans rfl; have hcz43_1 : w40.cell? ⟨gb263, 1, none⟩ = some (.string (⟨#[]⟩ : ByteArray)) := (blk_cell BK263.out 1).trans rfl; have hfz43_0 := blk_frozen BK263.out 0; have hfz43_1 := blk_frozen BK263.out 1; have hnb44 := NB257_255.out; have hnc44 := NB255_257.out; have hcz45_0 : w40.cell? ⟨gb257, 0, none⟩ = some (.string ((rd_T41 l0_4 x40_3).f0)) := (blk_cell BK257.out 0).trans rfl; have hcz45_1 : w40.cell? ⟨gb257, 1, none⟩ = some (.string ((rd_T41 l0_4 x40_3).f1)) := (blk_cell BK257.out 1).trans rfl; have hfz45_0 := blk_frozen BK257.out 0; have hfz45_1 := blk_frozen BK257.out 1))
              go_roundg k4
              case measure => have := HJ1.out; have := HJ10.out; have := HK3.out; have := HK4.out; omega
              case rel => exact ⟨(wrap64 (x50_4 + 1)), y4_, H', ⟨by have := HJ1.out; have := HJ10.out; have := HK3.out; have := HK4.out; omega⟩, ⟨by (with_reducible repeat (first | refine blk_drewN ?_ _ | refine blk_drew ?_ | refine blk_alloc ?_ _)); refine blk_far ?_ NB255_263.out _; (with_reducible repeat (first | refine blk_drewN ?_ _ | refine blk_drew ?_ | refine blk_alloc ?_ _)); refine blk_far ?_ NB255_263.out _; (with_reducible repeat (first | refine blk_drewN ?_ _ | refine blk_drew ?_ | refine blk_alloc ?_ _)); exact BK255.out⟩, ⟨by (with_reducible repeat (first | refine blk_drewN ?_ _ | refine blk_drew ?_ | refine blk_alloc ?_ _)); refine blk_far ?_ NB257_263.out _; (with_reducible repeat (first | refine blk_drewN ?_ _ | refine blk_drew ?_ | refine blk_alloc ?_ _)); refine blk_far ?_ NB257_263.out _; (with_reducible repeat (first | refine blk_drewN ?_ _ | refine blk_drew ?_ | refine blk_alloc ?_ _)); exact BK257.out⟩, ⟨(y23_ GE255.out GE257.out GE263.out)⟩⟩
            ·rw [if_neg c30] at H
             have c30b0 : decide (x50_4 < (y258.length : Int)) = false := decide_eq_false c30
             clear c30
             have H' := Aside0.mk H
             clear H
             go_wp2
             go_roundg k4
             case measure => have := HJ1.out; have := HJ10.out; have := HK3.out; have := HK4.out; omega
             case rel => exact ⟨(wrap64 (x40_3 + 1)), y4_, H', ⟨by have := HJ1.out; have := HJ10.out; have := HK3.out; have := HK4.out; omega⟩, ⟨by (with_reducible repeat (first | refine blk_drewN ?_ _ | refine blk_drew ?_ | refine blk_alloc ?_ _)); exact BK255.out⟩, ⟨(y19_ GE255.out GE257.out)⟩⟩
         ·rw [if_neg c19] at H
          have c19b0 : decide (x40_3 < (l0_4.length : Int)) = false := decide_eq_false c19
          clear c19
          obtain rfl := Option.some.inj H
          go_wp2
          go_ret
          exact ⟨y11_, (y17_ GE255.out)⟩
end Go.Proofs.YtpnhjipaeggcpaaDoor.X
end
