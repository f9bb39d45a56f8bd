/-
  WriteParts: trees, written, are each alone, one behind the other, and what an element has stands between its tags (of at most 40 rows of 6 attributes). Conditions: what comes in is of bulk at most 1048576 (the second form); unicode/utf8's two tables start as the program's text lays them (the card ties them).
-/
import Derived.Test.YtpnhjipaeggcpaaDoorE4
import Derived.Test.YtpnhjipaeggcpaaDoorCards
import Derived.Test.YtpnhjipaeggcpaaDoorTie
import Derived.Deep.DeepHandedRow
import Derived.Deep.DeepWitnessRowRef
set_option linter.unusedVariables false
set_option linter.unusedSimpArgs false
section
namespace Go.Proofs.YtpnhjipaeggcpaaDoor.X
open Go.RowKit Go.Proofs.YtpnhjipaeggcpaaDoorW.PrintWords Go.Proofs.YtpnhjipaeggcpaaDoorW.PrintLast Go.Proofs.YtpnhjipaeggcpaaDoorW.PrintMore
attribute [local go_sem] max2_int min2_int max_two min_two max_three min_three max_four min_four
mutual
def write_within.j0 : Nat → List (S35) → List Int → Bool → Int → Int → ByteArray → ByteArray → List (S41) → Option (Bool)
 | 0, _, _, _, _, _, _, _, _ => none
 | k + 1, x0, x6, x22, x393000, x393001, x393002, x393003, x393004 => if x22 = true then (some true) else (if (x6.length : Int) > 1 then (write_within.j1 k x0 x6 true x393000 x393001 x393002 x393003 x393004) else (if 0 < (x6.length : Int) then (if 0 ≤ (rd x6 0) then (if (rd x6 0) < (x0.length : Int) then (write_within.j1 k x0 x6 (((rd_T35 x0 (rd x6 0)).f1) != 1) x393000 x393001 x393002 x393003 x393004) else (none)) else (none)) else (none)))
def write_within.j1 : Nat → List (S35) → List Int → Bool → Int → Int → ByteArray → ByteArray → List (S41) → Option (Bool)
 | 0, _, _, _, _, _, _, _, _ => none
 | k + 1, x0, x6, x38, x393000, x393001, x393002, x393003, x393004 => if x38 = true then (some false) else (if 0 < (x6.length : Int) then (if 0 ≤ (rd x6 0) then (if (rd x6 0) < (x0.length : Int) then ((names_Soft.f k x393002).bind fun t400 => (if t400 = true then (some true) else ((strings_Contains.f ((rd_T35 x0 (rd x6 0)).f3) (⟨#[60, 47]⟩ : ByteArray)).bind fun t401 => (if t401 = true then (some false) else ((strings_HasSuffix.f ((rd_T35 x0 (rd x6 0)).f3) (⟨#[60]⟩ : ByteArray)).bind fun t402 => (some (!t402))))))) else (none)) else (none)) else (none))
end
def write_within.f (k : Nat) (l0 : List (S35)) (a1 : Int) : Option (Bool) := if 0 ≤ a1 then (if a1 < (l0.length : Int) then ((rows_Kids.f l0 a1).bind fun t389 => ((names_Void.f k ((rd_T35 l0 a1).f2)).bind fun t393 => (if t393 = true then (some ((t389.length : Int) == 0)) else ((names_Raw.f k ((rd_T35 l0 a1).f2)).bind fun t394 => (if t394 = true then (write_within.j0 k l0 t389 ((t389.length : Int) == 0) ((rd_T35 l0 a1).f0) ((rd_T35 l0 a1).f1) ((rd_T35 l0 a1).f2) ((rd_T35 l0 a1).f3) ((rd_T35 l0 a1).f4)) else ((names_Soft.f k ((rd_T35 l0 a1).f2)).bind fun t395 => (if t395 = true then (write_within.j0 k l0 t389 ((t389.length : Int) == 0) ((rd_T35 l0 a1).f0) ((rd_T35 l0 a1).f1) ((rd_T35 l0 a1).f2) ((rd_T35 l0 a1).f3) ((rd_T35 l0 a1).f4)) else (write_within.j0 k l0 t389 true ((rd_T35 l0 a1).f0) ((rd_T35 l0 a1).f1) ((rd_T35 l0 a1).f2) ((rd_T35 l0 a1).f3) ((rd_T35 l0 a1).f4))))))))) else (none)) else (none)
def write_within.T1 : Bool × List (List Nat × List Nat) := (true, [([], []), ([], []), ([0, 1], [0, 1]), ([2], [2]), ([], []), ([], []), ([4, 5], [4, 5]), ([], []), ([7, 3, 6, 0, 1, 2, 3, 7], [3, 7]), ([6, 8, 0, 1, 2, 3, 4, 5, 6, 7, 8], [6])])
def write_within.B1 : List Nat := [0, 0, 3, 7, 0, 0, 48, 0, 255, 511]
theorem write_within.tab1 : rtab .any (opsOf Tryd.f33 1) = write_within.T1 := by kernel_rfl
theorem write_within.bits1 : waitsOk write_within.T1.2 write_within.B1 = true := by kernel_rfl
set_option maxHeartbeats 8000000 in
set_option maxRecDepth 100000 in
theorem write_within.calls (k : Nat) (A0 : Option Addr) (c0 : Nat) (l0 : List (S35)) (a1 : Int) (r : Bool) (w : World) (hr0 : Kd.C k35 w A0 l0.length l0) (hc0 : l0.length ≤ c0) (h : write_within.f k l0 a1 = some r) (hT : WF w := by exact WF.below hT y23_) :
  Calls Tryd.prog 33 #[.slice A0 l0.length c0, .int .i64 a1] w fun e w' => e = .returned (.bool r) ∧ Below w.heap.size w w' := by
 have hu35 := Tryd.underlying35
 have HR0 := Aside0.mk hr0
 have HC0 := Aside0.mk hc0
 clear hr0 hc0
 have HB := Aside0.mk (Below.refl w.heap.size w)
 have H : (if 0 ≤ a1 then (if a1 < (l0.length : Int) then ((rows_Kids.f l0 a1).bind fun t389 => ((names_Void.f k ((rd_T35 l0 a1).f2)).bind fun t393 => (if t393 = true then (some ((t389.length : Int) == 0)) else ((names_Raw.f k ((rd_T35 l0 a1).f2)).bind fun t394 => (if t394 = true then (write_within.j0 k l0 t389 ((t389.length : Int) == 0) ((rd_T35 l0 a1).f0) ((rd_T35 l0 a1).f1) ((rd_T35 l0 a1).f2) ((rd_T35 l0 a1).f3) ((rd_T35 l0 a1).f4)) else ((names_Soft.f k ((rd_T35 l0 a1).f2)).bind fun t395 => (if t395 = true then (write_within.j0 k l0 t389 ((t389.length : Int) == 0) ((rd_T35 l0 a1).f0) ((rd_T35 l0 a1).f1) ((rd_T35 l0 a1).f2) ((rd_T35 l0 a1).f3) ((rd_T35 l0 a1).f4)) else (write_within.j0 k l0 t389 true ((rd_T35 l0 a1).f0) ((rd_T35 l0 a1).f1) ((rd_T35 l0 a1).f2) ((rd_T35 l0 a1).f3) ((rd_T35 l0 a1).f4))))))))) else (none)) else (none)) = some r := h
 clear h
 by_cases c3 : 0 ≤ a1
 rotate_left
 ·rw [if_neg c3] at H
  exact absurd H (by simp)
 rw [if_pos c3] at H
 have c3b0 : decide (0 ≤ a1) = true := decide_eq_true c3
 clear c3
 by_cases c4 : a1 < (l0.length : Int)
 rotate_left
 ·rw [if_neg c4] at H
  exact absurd H (by simp)
 rw [if_pos c4] at H
 have c4b0 : decide (a1 < (l0.length : Int)) = true := decide_eq_true c4
 clear c4
 replace H := Option.bind_eq_some_iff.mp H
 obtain ⟨t389, A50, H⟩ := H
 have A5 := Aside0.mk A50
 clear A50
 replace H := Option.bind_eq_some_iff.mp H
 obtain ⟨t393, A60, H⟩ := H
 have A6 := Aside0.mk A60
 clear A60
 by_cases c7 : t393 = true
 ·subst c7
  rw [if_pos rfl] at H
  obtain rfl := Option.some.inj H
  go_enter Tryd.func33, Tryd.ntmps33
  try go_wp2
  have n0_ := Aside0.mk (below_drew1 HB.out)
  clear HB
  have HB := n0_
  clear n0_
  have p388 : 0 ≤ (a1 : Int) := of_decide_eq_true y2_
  have q388 : a1 < (l0.length : Int) := of_decide_eq_true y2_
  obtain ⟨ad388, A388_4, c388_4, e388, hx388_0, hx388_1, hx388_2, hx388_3, hx388_4, hl388_4, hi388_4⟩ := at_T35 HR0.out a1 p388 q388
  have hw388_4 := hx388_4
  have hw388_3 := hx388_3
  have hw388_2 := hx388_2
  have hw388_1 := hx388_1
  have hw388_0 := hx388_0
  cases e388
  replace hx388_0 := (HB.out.cell (World.block_lt_of_cell? w _ hx388_0)).trans hx388_0
  replace hx388_1 := (HB.out.cell (World.block_lt_of_cell? w _ hx388_1)).trans hx388_1
  replace hx388_2 := (HB.out.cell (World.block_lt_of_cell? w _ hx388_2)).trans hx388_2
  replace hx388_3 := (HB.out.cell (World.block_lt_of_cell? w _ hx388_3)).trans hx388_3
  replace hx388_4 := (HB.out.cell (World.block_lt_of_cell? w _ hx388_4)).trans hx388_4
  have HR388_4 := Aside0.mk hi388_4
  have HC388_4 := Aside0.mk hl388_4
  clear hi388_4 hl388_4
  replace p388 := eq_true p388
  replace q388 := eq_true q388
  refine start_ (n := 10) (S := fun w' => w'.cell? (ad388.add ((a1).toNat * 5)) = some (.int .i64 ((rd_T35 l0 a1).f0)) ∧ w'.cell? ⟨(ad388.add ((a1).toNat * 5)).block, (ad388.add ((a1).toNat * 5)).off + 1, none⟩ = some (.int .i64 ((rd_T35 l0 a1).f1)) ∧ w'.cell? ⟨(ad388.add ((a1).toNat * 5)).block, (ad388.add ((a1).toNat * 5)).off + 2, none⟩ = some (.string ((rd_T35 l0 a1).f2)) ∧ w'.cell? ⟨(ad388.add ((a1).toNat * 5)).block, (ad388.add ((a1).toNat * 5)).off + 3, none⟩ = some (.string ((rd_T35 l0 a1).f3)) ∧ w'.cell? ⟨(ad388.add ((a1).toNat * 5)).block, (ad388.add ((a1).toNat * 5)).off + 4, none⟩ = some (.slice A388_4 ((rd_T35 l0 a1).f4).length c388_4)) (ds := []) #[false, false, false, false, false, false, false, false, false, false] (by kernel_rfl) rfl rfl ⟨((HB.out.cell (World.block_lt_of_cell? w _ hw388_0)).trans hw388_0), ((HB.out.cell (World.block_lt_of_cell? w _ hw388_1)).trans hw388_1), ((HB.out.cell (World.block_lt_of_cell? w _ hw388_2)).trans hw388_2), ((HB.out.cell (World.block_lt_of_cell? w _ hw388_3)).trans hw388_3), ((HB.out.cell (World.block_lt_of_cell? w _ hw388_4)).trans hw388_4)⟩ (fun hHeld => ?_); refine with_tabW write_within.tab1 write_within.bits1 (fun HT_ HW_ => ?_)
  generalize w.drew = w8 at HB HR388_4 hx388_0 hx388_1 hx388_2 hx388_3 hx388_4 hHeld ⊢
  refine pure_ (i := 0) (N := some 8) (v := ?_) (a' := ?_) #[true, false, false, false, false, false, false, false, false, false] rfl rfl (any_of HT_.out (by kernel_rfl)) (fun _ _ _ h => h) (Or.inl ⟨by rfl, ?_⟩) ?_ ?_
  rotate_left
  ·intro w'
   go_simp
   with_reducible rfl
  rotate_left
  ·simp only [Act.put, List.setIfInBounds_toArray, List.set_cons_zero, List.set_cons_succ, i64_w, i32_w]
   rfl
  refine pure_ (i := 1) (N := some 9) (v := ?_) (a' := ?_) #[true, true, false, false, false, false, false, false, false, false] rfl rfl (any_of HT_.out (by kernel_rfl)) (fun _ _ _ h => h) (Or.inl ⟨by rfl, ?_⟩) ?_ ?_
  rotate_left
  ·intro w'
   go_simp
   with_reducible rfl
  rotate_left
  ·simp only [Act.put, List.setIfInBounds_toArray, List.set_cons_zero, List.set_cons_succ, i64_w, i32_w]
   rfl
  refine pure_ (i := 2) (N := some 10) (v := ?_) (a' := ?_) #[true, true, true, false, false, false, false, false, false, false] rfl rfl (any_of HT_.out (by kernel_rfl)) (fun _ _ _ h => h) (Or.inl ⟨by rfl, ?_⟩) ?_ ?_
  rotate_left
  ·intro w'
   go_simp
   with_reducible rfl
  rotate_left
  ·simp only [Act.put, List.setIfInBounds_toArray, List.set_cons_zero, List.set_cons_succ, i64_w, i32_w]
   rfl
  refine pure_ (i := 4) (N := some 12) (v := ?_) (a' := ?_) #[true, true, true, false, true, false, false, false, false, false] rfl rfl (any_of HT_.out (by kernel_rfl)) (fun _ _ _ h => h) (Or.inl ⟨by rfl, ?_⟩) ?_ ?_
  rotate_left
  ·intro w'
   go_simp
   with_reducible rfl
  rotate_left
  ·simp only [Act.put, List.setIfInBounds_toArray, List.set_cons_zero, List.set_cons_succ, i64_w, i32_w]
   rfl
  refine pure_ (i := 5) (N := some 13) (v := ?_) (a' := ?_) #[true, true, true, false, true, true, false, false, false, false] rfl rfl (any_of HT_.out (by kernel_rfl)) (fun _ _ _ h => h) (Or.inl ⟨by rfl, ?_⟩) ?_ ?_
  rotate_left
  ·intro w'
   go_simp
   with_reducible rfl
  rotate_left
  ·simp only [Act.put, List.setIfInBounds_toArray, List.set_cons_zero, List.set_cons_succ, i64_w, i32_w]
   rfl
  refine take_ (i := 3) (N := some 11) (v := ?_) (a' := ?_) #[true, true, true, true, true, true, false, false, false, false] rfl rfl (take_ofW HT_.out HW_.out (by kernel_rfl)) (fun _ _ _ h => h) (Or.inl ⟨by rfl, ?_⟩) hHeld ?_ ?_
  rotate_left
  ·rintro w' ⟨s0, s1, s2, s3, s4⟩
   go_simp
   with_reducible rfl
  rotate_left
  ·simp only [Act.put, List.setIfInBounds_toArray, List.set_cons_zero, List.set_cons_succ, i64_w, i32_w]
   rfl
  refine join_ (σ := Value × Nat) 2 #[true, true, true, true, true, true, true, true, false, false] (fun s_ => [(14, s_.1), (5, .pointer (some ⟨s_.2, 0, none⟩))]) (fun s_ w' => (w'.cell? (ad388.add ((a1).toNat * 5)) = some (.int .i64 ((rd_T35 l0 a1).f0)) ∧ w'.cell? ⟨(ad388.add ((a1).toNat * 5)).block, (ad388.add ((a1).toNat * 5)).off + 1, none⟩ = some (.int .i64 ((rd_T35 l0 a1).f1)) ∧ w'.cell? ⟨(ad388.add ((a1).toNat * 5)).block, (ad388.add ((a1).toNat * 5)).off + 2, none⟩ = some (.string ((rd_T35 l0 a1).f2)) ∧ w'.cell? ⟨(ad388.add ((a1).toNat * 5)).block, (ad388.add ((a1).toNat * 5)).off + 3, none⟩ = some (.string ((rd_T35 l0 a1).f3)) ∧ w'.cell? ⟨(ad388.add ((a1).toNat * 5)).block, (ad388.add ((a1).toNat * 5)).off + 4, none⟩ = some (.slice A388_4 ((rd_T35 l0 a1).f4).length c388_4)) ∧ (Kd.R (Kd.int .i64) 3 w' w.heap.size (fun _ => True) s_.1 t389) ∧ (w'.heap[s_.2]? = some (.cells #[.int .i64 0, .int .i64 0, .string (⟨#[]⟩ : ByteArray), .string (⟨#[]⟩ : ByteArray), .slice none 0 0] 35 (0, 0))) ∧ (w.heap.size ≤ s_.2) ∧ (w.heap.size ≤ s_.2) ∧ (Below w.heap.size w w')) ?_ ?_
  rotate_left
  ·intro hCont
   refine two_ (i := 6) (j := 7) (Ni := some 14) (Nj := some 5) #[true, true, true, true, true, true, true, false, false, false] #[true, true, true, true, true, true, false, true, false, false] rfl rfl rfl rfl (two_of HT_.out (by kernel_rfl)) (by decide) (by decide) (fun K hK => ?_) (fun K hK => ?_)
   ·skip
    refine goes_ Tryd.func35 (by kernel_rfl) rfl #[.slice (some ad388) l0.length c0, .int .i64 a1] (by rfl) rfl rfl y14_ ?_
    with_reducible refine (rows_Kids.calls _ _ l0 a1 t389 _ ?side1 ?side2 A5.out).mono ?_
    (case side1 => repeat (first | exact (Kd.C_below HR0.out HB.out) | (with_reducible refine Kd.C_alloc ?_ _) | (with_reducible refine Kd.C_drewN ?_ _) | (with_reducible refine Kd.C_drew ?_)))
    (case side2 => exact HC0.out)
    rintro e w9 ⟨v390, rfl, ho0, hb⟩
    refine ⟨_, rfl, ?_⟩
    have n0_ := Aside0.mk (Kd.R_lower ho0 (below_size y13_))
    have n1_ := Aside0.mk (below_step y13_ hb)
    clear HB
    have HO391 := n0_
    have HB := n1_
    clear n0_ n1_
    (try clear hb)
    (try clear hb2)
    (try clear hk)
    (try clear hi)
    (try clear ho0)
    refine hK.out _ _ ⟨((HB.out.cell (World.block_lt_of_cell? w _ hw388_0)).trans hw388_0), ((HB.out.cell (World.block_lt_of_cell? w _ hw388_1)).trans hw388_1), ((HB.out.cell (World.block_lt_of_cell? w _ hw388_2)).trans hw388_2), ((HB.out.cell (World.block_lt_of_cell? w _ hw388_3)).trans hw388_3), ((HB.out.cell (World.block_lt_of_cell? w _ hw388_4)).trans hw388_4)⟩ (fun hHeld => ?_)
    clear hK K
    refine norm_ (a' := ?_) ?_ ?_
    rotate_left
    ·show Act.put _ (some 14) _ = _
     simp only [Act.put, List.setIfInBounds_toArray, List.set_cons_zero, List.set_cons_succ, i64_w, i32_w]
     rfl
    refine one_ (i := 7) (N := some 5) #[true, true, true, true, true, true, true, true, false, false] rfl rfl (one_of HT_.out (by kernel_rfl)) (by decide) (fun K hK => ?_)
    refine box_step ?hg (N := 5) ?hd (cs := #[.int .i64 0, .int .i64 0, .string (⟨#[]⟩ : ByteArray), .string (⟨#[]⟩ : ByteArray), .slice none 0 0]) (t := 35) ?hr ?_; (case hd => rfl); (case hg => rfl); (case hr => first | (go_simp; done) | (go_simp; rfl))
    intro gb392 hg w10 hbox hb
    have n0_ := Aside0.mk (Kd.R_below (y10_ HO391.out) hb)
    have n1_ := Aside0.mk (below_step y13_ hb)
    have n2_ := Aside0.mk (hbox)
    have n3_ := Aside0.mk ((by rw [hg]; exact (below_size y13_) : w.heap.size ≤ gb392))
    have n4_ := Aside0.mk ((by rw [hg]; exact (below_size y13_) : w.heap.size ≤ gb392))
    clear HO391
    clear HB
    have HO391 := n0_
    have HB := n1_
    have BK392 := n2_
    have GW392 := n3_
    have GE392 := n4_
    clear n0_ n1_ n2_ n3_ n4_
    clear hb hbox hg
    refine hK.out _ _ ⟨((HB.out.cell (World.block_lt_of_cell? w _ hw388_0)).trans hw388_0), ((HB.out.cell (World.block_lt_of_cell? w _ hw388_1)).trans hw388_1), ((HB.out.cell (World.block_lt_of_cell? w _ hw388_2)).trans hw388_2), ((HB.out.cell (World.block_lt_of_cell? w _ hw388_3)).trans hw388_3), ((HB.out.cell (World.block_lt_of_cell? w _ hw388_4)).trans hw388_4)⟩ (fun hHeld => ?_)
    clear hK K
    refine norm_ (a' := ?_) ?_ ?_
    rotate_left
    ·show Act.put _ (some 5) _ = _
     simp only [Act.put, List.setIfInBounds_toArray, List.set_cons_zero, List.set_cons_succ, i64_w, i32_w]
     rfl
    exact norm_ y6_ (hCont (v390, gb392) _ ⟨hHeld, (y10_ HO391.out), (y11_ BK392.out), GW392.out, GE392.out, (y19_ GE392.out)⟩)
   ·skip
    refine box_step ?hg (N := 5) ?hd (cs := #[.int .i64 0, .int .i64 0, .string (⟨#[]⟩ : ByteArray), .string (⟨#[]⟩ : ByteArray), .slice none 0 0]) (t := 35) ?hr ?_; (case hd => rfl); (case hg => rfl); (case hr => first | (go_simp; done) | (go_simp; rfl))
    intro gb392 hg w9 hbox hb
    have n0_ := Aside0.mk (below_step y13_ hb)
    have n1_ := Aside0.mk (hbox)
    have n2_ := Aside0.mk ((by rw [hg]; exact (below_size y13_) : w.heap.size ≤ gb392))
    have n3_ := Aside0.mk ((by rw [hg]; exact (below_size y13_) : w.heap.size ≤ gb392))
    clear HB
    have HB := n0_
    have BK392 := n1_
    have GW392 := n2_
    have GE392 := n3_
    clear n0_ n1_ n2_ n3_
    clear hb hbox hg
    refine hK.out _ _ ⟨((HB.out.cell (World.block_lt_of_cell? w _ hw388_0)).trans hw388_0), ((HB.out.cell (World.block_lt_of_cell? w _ hw388_1)).trans hw388_1), ((HB.out.cell (World.block_lt_of_cell? w _ hw388_2)).trans hw388_2), ((HB.out.cell (World.block_lt_of_cell? w _ hw388_3)).trans hw388_3), ((HB.out.cell (World.block_lt_of_cell? w _ hw388_4)).trans hw388_4)⟩ (fun hHeld => ?_)
    clear hK K
    refine norm_ (a' := ?_) ?_ ?_
    rotate_left
    ·show Act.put _ (some 5) _ = _
     simp only [Act.put, List.setIfInBounds_toArray, List.set_cons_zero, List.set_cons_succ, i64_w, i32_w]
     rfl
    refine one_ (i := 6) (N := some 14) #[true, true, true, true, true, true, true, true, false, false] rfl rfl (one_of HT_.out (by kernel_rfl)) (by decide) (fun K hK => ?_)
    refine goes_ Tryd.func35 (by kernel_rfl) rfl #[.slice (some ad388) l0.length c0, .int .i64 a1] (by rfl) rfl rfl y14_ ?_
    with_reducible refine (rows_Kids.calls _ _ l0 a1 t389 _ ?side1 ?side2 A5.out).mono ?_
    (case side1 => repeat (first | exact (Kd.C_below HR0.out HB.out) | (with_reducible refine Kd.C_alloc ?_ _) | (with_reducible refine Kd.C_drewN ?_ _) | (with_reducible refine Kd.C_drew ?_)))
    (case side2 => exact HC0.out)
    rintro e w10 ⟨v390, rfl, ho0, hb⟩
    refine ⟨_, rfl, ?_⟩
    have n0_ := Aside0.mk (Kd.R_lower ho0 (below_size (y19_ GE392.out)))
    have n1_ := Aside0.mk (blk_below (g := gb392) (o := .cells #[.int .i64 0, .int .i64 0, .string (⟨#[]⟩ : ByteArray), .string (⟨#[]⟩ : ByteArray), .slice none 0 0] 35 (0, 0)) (y11_ BK392.out) hb)
    have n2_ := Aside0.mk (below_step (y19_ GE392.out) hb)
    clear BK392
    clear HB
    have HO391 := n0_
    have BK392 := n1_
    have HB := n2_
    clear n0_ n1_ n2_
    (try clear hb)
    (try clear hb2)
    (try clear hk)
    (try clear hi)
    (try clear ho0)
    refine hK.out _ _ ⟨((HB.out.cell (World.block_lt_of_cell? w _ hw388_0)).trans hw388_0), ((HB.out.cell (World.block_lt_of_cell? w _ hw388_1)).trans hw388_1), ((HB.out.cell (World.block_lt_of_cell? w _ hw388_2)).trans hw388_2), ((HB.out.cell (World.block_lt_of_cell? w _ hw388_3)).trans hw388_3), ((HB.out.cell (World.block_lt_of_cell? w _ hw388_4)).trans hw388_4)⟩ (fun hHeld => ?_)
    clear hK K
    refine norm_ (a' := ?_) ?_ ?_
    rotate_left
    ·show Act.put _ (some 14) _ = _
     simp only [Act.put, List.setIfInBounds_toArray, List.set_cons_zero, List.set_cons_succ, i64_w, i32_w]
     rfl
    exact norm_ y6_ (hCont (v390, gb392) _ ⟨hHeld, (y10_ HO391.out), (y11_ BK392.out), GW392.out, GE392.out, (y19_ GE392.out)⟩)
  rintro ⟨v390, gb392⟩ w11 ⟨hS_, h0_, h1_, h2_, h3_, h4_⟩
  have n0_ : Aside0 (Kd.R (Kd.int .i64) 3 w11 w.heap.size (fun _ => True) v390 t389) := ⟨h0_⟩
  have n1_ : Aside0 (w11.heap[gb392]? = some (.cells #[.int .i64 0, .int .i64 0, .string (⟨#[]⟩ : ByteArray), .string (⟨#[]⟩ : ByteArray), .slice none 0 0] 35 (0, 0))) := ⟨h1_⟩
  have n2_ : Aside0 (w.heap.size ≤ gb392) := ⟨h2_⟩
  have n3_ : Aside0 (w.heap.size ≤ gb392) := ⟨h3_⟩
  have n4_ : Aside0 (Below w.heap.size w w11) := ⟨h4_⟩
  clear HB
  clear h0_ h1_ h2_ h3_ h4_
  have HO391 := n0_
  have BK392 := n1_
  have GW392 := n2_
  have GE392 := n3_
  have HB := n4_
  clear n0_ n1_ n2_ n3_ n4_
  have hHeld : w11.cell? (ad388.add ((a1).toNat * 5)) = some (.int .i64 ((rd_T35 l0 a1).f0)) ∧ w11.cell? ⟨(ad388.add ((a1).toNat * 5)).block, (ad388.add ((a1).toNat * 5)).off + 1, none⟩ = some (.int .i64 ((rd_T35 l0 a1).f1)) ∧ w11.cell? ⟨(ad388.add ((a1).toNat * 5)).block, (ad388.add ((a1).toNat * 5)).off + 2, none⟩ = some (.string ((rd_T35 l0 a1).f2)) ∧ w11.cell? ⟨(ad388.add ((a1).toNat * 5)).block, (ad388.add ((a1).toNat * 5)).off + 3, none⟩ = some (.string ((rd_T35 l0 a1).f3)) ∧ w11.cell? ⟨(ad388.add ((a1).toNat * 5)).block, (ad388.add ((a1).toNat * 5)).off + 4, none⟩ = some (.slice A388_4 ((rd_T35 l0 a1).f4).length c388_4) := hS_
  refine norm_ (a' := ?_) ?_ ?_
  rotate_left
  ·simp only [putAll, Act.put, List.setIfInBounds_toArray, List.set_cons_zero, List.set_cons_succ]
   rfl
  refine one_ (i := 8) (N := none) #[true, true, true, true, true, true, true, true, true, false] rfl rfl (one_of HT_.out (by kernel_rfl)) (by decide) (fun K hK => ?_)
  have hs12 : w11.cell? ⟨gb392, 0, none⟩ = some (.int .i64 0) := (blk_cell BK392.out 0).trans rfl
  have hfs12 := blk_frozen BK392.out 0
  have hs13 : w11.cell? ⟨gb392, 1, none⟩ = some (.int .i64 0) := (blk_cell BK392.out 1).trans rfl
  have hfs13 := blk_frozen BK392.out 1
  have hs14 : w11.cell? ⟨gb392, 2, none⟩ = some (.string (⟨#[]⟩ : ByteArray)) := (blk_cell BK392.out 2).trans rfl
  have hfs14 := blk_frozen BK392.out 2
  have hs15 : w11.cell? ⟨gb392, 3, none⟩ = some (.string (⟨#[]⟩ : ByteArray)) := (blk_cell BK392.out 3).trans rfl
  have hfs15 := blk_frozen BK392.out 3
  have hs16 : w11.cell? ⟨gb392, 4, none⟩ = some (.slice none 0 0) := (blk_cell BK392.out 4).trans rfl
  have hfs16 := blk_frozen BK392.out 4
  refine skip_ (w1 := ?_) (by rfl) rfl ?_ ?_
  rotate_left
  ·go_simp
   rfl
  refine hK.out _ _ ⟨((cell_far (p := ⟨gb392, _, none⟩) (y38_ hw388_0 GW392.out) _).trans (((cell_far (p := ⟨gb392, _, none⟩) (y38_ hw388_0 GW392.out) _).trans (((cell_far (p := ⟨gb392, _, none⟩) (y38_ hw388_0 GW392.out) _).trans (((cell_far (p := ⟨gb392, _, none⟩) (y38_ hw388_0 GW392.out) _).trans (((cell_far (p := ⟨gb392, _, none⟩) (y38_ hw388_0 GW392.out) _).trans (hHeld.1)))))))))), ((cell_far (p := ⟨gb392, _, none⟩) (y38_ hw388_1 GW392.out) _).trans (((cell_far (p := ⟨gb392, _, none⟩) (y38_ hw388_1 GW392.out) _).trans (((cell_far (p := ⟨gb392, _, none⟩) (y38_ hw388_1 GW392.out) _).trans (((cell_far (p := ⟨gb392, _, none⟩) (y38_ hw388_1 GW392.out) _).trans (((cell_far (p := ⟨gb392, _, none⟩) (y38_ hw388_1 GW392.out) _).trans (hHeld.2.1)))))))))), ((cell_far (p := ⟨gb392, _, none⟩) (y38_ hw388_2 GW392.out) _).trans (((cell_far (p := ⟨gb392, _, none⟩) (y38_ hw388_2 GW392.out) _).trans (((cell_far (p := ⟨gb392, _, none⟩) (y38_ hw388_2 GW392.out) _).trans (((cell_far (p := ⟨gb392, _, none⟩) (y38_ hw388_2 GW392.out) _).trans (((cell_far (p := ⟨gb392, _, none⟩) (y38_ hw388_2 GW392.out) _).trans (hHeld.2.2.1)))))))))), ((cell_far (p := ⟨gb392, _, none⟩) (y38_ hw388_3 GW392.out) _).trans (((cell_far (p := ⟨gb392, _, none⟩) (y38_ hw388_3 GW392.out) _).trans (((cell_far (p := ⟨gb392, _, none⟩) (y38_ hw388_3 GW392.out) _).trans (((cell_far (p := ⟨gb392, _, none⟩) (y38_ hw388_3 GW392.out) _).trans (((cell_far (p := ⟨gb392, _, none⟩) (y38_ hw388_3 GW392.out) _).trans (hHeld.2.2.2.1)))))))))), ((cell_far (p := ⟨gb392, _, none⟩) (y38_ hw388_4 GW392.out) _).trans (((cell_far (p := ⟨gb392, _, none⟩) (y38_ hw388_4 GW392.out) _).trans (((cell_far (p := ⟨gb392, _, none⟩) (y38_ hw388_4 GW392.out) _).trans (((cell_far (p := ⟨gb392, _, none⟩) (y38_ hw388_4 GW392.out) _).trans (((cell_far (p := ⟨gb392, _, none⟩) (y38_ hw388_4 GW392.out) _).trans (hHeld.2.2.2.2))))))))))⟩ (fun hHeld => ?_)
  clear hK K
  refine pure_ (i := 9) (N := some 6) (v := ?_) (a' := ?_) #[true, true, true, true, true, true, true, true, true, true] rfl rfl (any_of HT_.out (by kernel_rfl)) (fun _ _ _ h => h) (Or.inl ⟨by rfl, ?_⟩) ?_ ?_
  rotate_left
  ·intro w'
   go_simp
   with_reducible rfl
  rotate_left
  ·simp only [Act.put, List.setIfInBounds_toArray, List.set_cons_zero, List.set_cons_succ, i64_w, i32_w]
   rfl
  refine done_ (done_of HT_.out (by kernel_rfl)) ?_
  have hcz17_0 : w11.cell? ⟨gb392, 0, none⟩ = some (.int .i64 0) := (blk_cell BK392.out 0).trans rfl
  have hcz17_1 : w11.cell? ⟨gb392, 1, none⟩ = some (.int .i64 0) := (blk_cell BK392.out 1).trans rfl
  have hcz17_2 : w11.cell? ⟨gb392, 2, none⟩ = some (.string (⟨#[]⟩ : ByteArray)) := (blk_cell BK392.out 2).trans rfl
  have hcz17_3 : w11.cell? ⟨gb392, 3, none⟩ = some (.string (⟨#[]⟩ : ByteArray)) := (blk_cell BK392.out 3).trans rfl
  have hcz17_4 : w11.cell? ⟨gb392, 4, none⟩ = some (.slice none 0 0) := (blk_cell BK392.out 4).trans rfl
  have hfz17_0 := blk_frozen BK392.out 0
  have hfz17_1 := blk_frozen BK392.out 1
  have hfz17_2 := blk_frozen BK392.out 2
  have hfz17_3 := blk_frozen BK392.out 3
  have hfz17_4 := blk_frozen BK392.out 4
  try go_wp2_with (first | ((with_reducible refine gate_callee (f := 26) rfl ?_); refine goesL_ (some 18) rfl rfl Tryd.func26 (by kernel_rfl) rfl #[.string ((rd_T35 l0 a1).f2)] rfl y14_ ?_; (with_reducible refine (names_Void.calls k ((rd_T35 l0 a1).f2) true _ A6.out).mono ?_); rintro e w18 ⟨rfl, hb⟩; refine ⟨_, rfl, ?_⟩; have n0_ := Aside0.mk (Kd.R_below (by (with_reducible repeat (first | apply Kd.R_alloc | apply Kd.R_drewN | apply Kd.R_drew)); exact (Kd.R_mono (Kd.R_far (p := ⟨gb392, 4, none⟩) (Kd.R_far (p := ⟨gb392, 3, none⟩) (Kd.R_far (p := ⟨gb392, 2, none⟩) (Kd.R_far (p := ⟨gb392, 1, none⟩) (Kd.R_far (p := ⟨gb392, 0, none⟩) (Kd.R_types HO391.out BK392.out (by decide)) (fun _ hk => hk.2) (.int .i64 ((rd_T35 l0 a1).f0))) (fun _ hk => hk.2) (.int .i64 ((rd_T35 l0 a1).f1))) (fun _ hk => hk.2) (.string ((rd_T35 l0 a1).f2))) (fun _ hk => hk.2) (.string ((rd_T35 l0 a1).f3))) (fun _ hk => hk.2) (.slice A388_4 ((rd_T35 l0 a1).f4).length c388_4)) (fun _ h_ => h_.1))) hb); have n1_ := Aside0.mk (blk_below (g := gb392) (o := .cells #[.int .i64 ((rd_T35 l0 a1).f0), .int .i64 ((rd_T35 l0 a1).f1), .string ((rd_T35 l0 a1).f2), .string ((rd_T35 l0 a1).f3), .slice A388_4 ((rd_T35 l0 a1).f4).length c388_4] 35 (0, 0)) (y34_ BK392.out) hb); have n2_ := Aside0.mk (below_step (y19_ GE392.out) hb); clear HO391; clear BK392; clear HB; have HO391 := n0_; have BK392 := n1_; have HB := n2_; clear n0_ n1_ n2_; (try clear hb); (try clear hb2); (try clear hk); (try clear hi); obtain ⟨Ao19, co19, eo19⟩ := Kd.R_slice HO391.out; subst eo19))
  go_ret
  exact ⟨y12_, (y19_ GE392.out)⟩
 ·replace c7 := Bool.eq_false_iff.mpr c7
  subst c7
  rw [if_neg (show ¬ (false = true) by decide)] at H
  have HC20 := Aside0.mk H
  clear H
  go_enter Tryd.func33, Tryd.ntmps33
  try go_wp2
  have n0_ := Aside0.mk (below_drew1 HB.out)
  clear HB
  have HB := n0_
  clear n0_
  have p388 : 0 ≤ (a1 : Int) := of_decide_eq_true y2_
  have q388 : a1 < (l0.length : Int) := of_decide_eq_true y2_
  obtain ⟨ad388, A388_4, c388_4, e388, hx388_0, hx388_1, hx388_2, hx388_3, hx388_4, hl388_4, hi388_4⟩ := at_T35 HR0.out a1 p388 q388
  have hw388_4 := hx388_4
  have hw388_3 := hx388_3
  have hw388_2 := hx388_2
  have hw388_1 := hx388_1
  have hw388_0 := hx388_0
  cases e388
  replace hx388_0 := (HB.out.cell (World.block_lt_of_cell? w _ hx388_0)).trans hx388_0
  replace hx388_1 := (HB.out.cell (World.block_lt_of_cell? w _ hx388_1)).trans hx388_1
  replace hx388_2 := (HB.out.cell (World.block_lt_of_cell? w _ hx388_2)).trans hx388_2
  replace hx388_3 := (HB.out.cell (World.block_lt_of_cell? w _ hx388_3)).trans hx388_3
  replace hx388_4 := (HB.out.cell (World.block_lt_of_cell? w _ hx388_4)).trans hx388_4
  have HR388_4 := Aside0.mk hi388_4
  have HC388_4 := Aside0.mk hl388_4
  clear hi388_4 hl388_4
  replace p388 := eq_true p388
  replace q388 := eq_true q388
  refine start_ (n := 10) (S := fun w' => w'.cell? (ad388.add ((a1).toNat * 5)) = some (.int .i64 ((rd_T35 l0 a1).f0)) ∧ w'.cell? ⟨(ad388.add ((a1).toNat * 5)).block, (ad388.add ((a1).toNat * 5)).off + 1, none⟩ = some (.int .i64 ((rd_T35 l0 a1).f1)) ∧ w'.cell? ⟨(ad388.add ((a1).toNat * 5)).block, (ad388.add ((a1).toNat * 5)).off + 2, none⟩ = some (.string ((rd_T35 l0 a1).f2)) ∧ w'.cell? ⟨(ad388.add ((a1).toNat * 5)).block, (ad388.add ((a1).toNat * 5)).off + 3, none⟩ = some (.string ((rd_T35 l0 a1).f3)) ∧ w'.cell? ⟨(ad388.add ((a1).toNat * 5)).block, (ad388.add ((a1).toNat * 5)).off + 4, none⟩ = some (.slice A388_4 ((rd_T35 l0 a1).f4).length c388_4)) (ds := []) #[false, false, false, false, false, false, false, false, false, false] (by kernel_rfl) rfl rfl ⟨((HB.out.cell (World.block_lt_of_cell? w _ hw388_0)).trans hw388_0), ((HB.out.cell (World.block_lt_of_cell? w _ hw388_1)).trans hw388_1), ((HB.out.cell (World.block_lt_of_cell? w _ hw388_2)).trans hw388_2), ((HB.out.cell (World.block_lt_of_cell? w _ hw388_3)).trans hw388_3), ((HB.out.cell (World.block_lt_of_cell? w _ hw388_4)).trans hw388_4)⟩ (fun hHeld => ?_); refine with_tabW write_within.tab1 write_within.bits1 (fun HT_ HW_ => ?_)
  generalize w.drew = w21 at HB HR388_4 hx388_0 hx388_1 hx388_2 hx388_3 hx388_4 hHeld ⊢
  refine pure_ (i := 0) (N := some 8) (v := ?_) (a' := ?_) #[true, false, false, false, false, false, false, false, false, false] rfl rfl (any_of HT_.out (by kernel_rfl)) (fun _ _ _ h => h) (Or.inl ⟨by rfl, ?_⟩) ?_ ?_
  rotate_left
  ·intro w'
   go_simp
   with_reducible rfl
  rotate_left
  ·simp only [Act.put, List.setIfInBounds_toArray, List.set_cons_zero, List.set_cons_succ, i64_w, i32_w]
   rfl
  refine pure_ (i := 1) (N := some 9) (v := ?_) (a' := ?_) #[true, true, false, false, false, false, false, false, false, false] rfl rfl (any_of HT_.out (by kernel_rfl)) (fun _ _ _ h => h) (Or.inl ⟨by rfl, ?_⟩) ?_ ?_
  rotate_left
  ·intro w'
   go_simp
   with_reducible rfl
  rotate_left
  ·simp only [Act.put, List.setIfInBounds_toArray, List.set_cons_zero, List.set_cons_succ, i64_w, i32_w]
   rfl
  refine pure_ (i := 2) (N := some 10) (v := ?_) (a' := ?_) #[true, true, true, false, false, false, false, false, false, false] rfl rfl (any_of HT_.out (by kernel_rfl)) (fun _ _ _ h => h) (Or.inl ⟨by rfl, ?_⟩) ?_ ?_
  rotate_left
  ·intro w'
   go_simp
   with_reducible rfl
  rotate_left
  ·simp only [Act.put, List.setIfInBounds_toArray, List.set_cons_zero, List.set_cons_succ, i64_w, i32_w]
   rfl
  refine pure_ (i := 4) (N := some 12) (v := ?_) (a' := ?_) #[true, true, true, false, true, false, false, false, false, false] rfl rfl (any_of HT_.out (by kernel_rfl)) (fun _ _ _ h => h) (Or.inl ⟨by rfl, ?_⟩) ?_ ?_
  rotate_left
  ·intro w'
   go_simp
   with_reducible rfl
  rotate_left
  ·simp only [Act.put, List.setIfInBounds_toArray, List.set_cons_zero, List.set_cons_succ, i64_w, i32_w]
   rfl
  refine pure_ (i := 5) (N := some 13) (v := ?_) (a' := ?_) #[true, true, true, false, true, true, false, false, false, false] rfl rfl (any_of HT_.out (by kernel_rfl)) (fun _ _ _ h => h) (Or.inl ⟨by rfl, ?_⟩) ?_ ?_
  rotate_left
  ·intro w'
   go_simp
   with_reducible rfl
  rotate_left
  ·simp only [Act.put, List.setIfInBounds_toArray, List.set_cons_zero, List.set_cons_succ, i64_w, i32_w]
   rfl
  refine take_ (i := 3) (N := some 11) (v := ?_) (a' := ?_) #[true, true, true, true, true, true, false, false, false, false] rfl rfl (take_ofW HT_.out HW_.out (by kernel_rfl)) (fun _ _ _ h => h) (Or.inl ⟨by rfl, ?_⟩) hHeld ?_ ?_
  rotate_left
  ·rintro w' ⟨s0, s1, s2, s3, s4⟩
   go_simp
   with_reducible rfl
  rotate_left
  ·simp only [Act.put, List.setIfInBounds_toArray, List.set_cons_zero, List.set_cons_succ, i64_w, i32_w]
   rfl
  refine join_ (σ := Value × Nat) 2 #[true, true, true, true, true, true, true, true, false, false] (fun s_ => [(14, s_.1), (5, .pointer (some ⟨s_.2, 0, none⟩))]) (fun s_ w' => (w'.cell? (ad388.add ((a1).toNat * 5)) = some (.int .i64 ((rd_T35 l0 a1).f0)) ∧ w'.cell? ⟨(ad388.add ((a1).toNat * 5)).block, (ad388.add ((a1).toNat * 5)).off + 1, none⟩ = some (.int .i64 ((rd_T35 l0 a1).f1)) ∧ w'.cell? ⟨(ad388.add ((a1).toNat * 5)).block, (ad388.add ((a1).toNat * 5)).off + 2, none⟩ = some (.string ((rd_T35 l0 a1).f2)) ∧ w'.cell? ⟨(ad388.add ((a1).toNat * 5)).block, (ad388.add ((a1).toNat * 5)).off + 3, none⟩ = some (.string ((rd_T35 l0 a1).f3)) ∧ w'.cell? ⟨(ad388.add ((a1).toNat * 5)).block, (ad388.add ((a1).toNat * 5)).off + 4, none⟩ = some (.slice A388_4 ((rd_T35 l0 a1).f4).length c388_4)) ∧ (Kd.R (Kd.int .i64) 3 w' w.heap.size (fun _ => True) s_.1 t389) ∧ (w'.heap[s_.2]? = some (.cells #[.int .i64 0, .int .i64 0, .string (⟨#[]⟩ : ByteArray), .string (⟨#[]⟩ : ByteArray), .slice none 0 0] 35 (0, 0))) ∧ (w.heap.size ≤ s_.2) ∧ (w.heap.size ≤ s_.2) ∧ (Below w.heap.size w w')) ?_ ?_
  rotate_left
  ·intro hCont
   refine two_ (i := 6) (j := 7) (Ni := some 14) (Nj := some 5) #[true, true, true, true, true, true, true, false, false, false] #[true, true, true, true, true, true, false, true, false, false] rfl rfl rfl rfl (two_of HT_.out (by kernel_rfl)) (by decide) (by decide) (fun K hK => ?_) (fun K hK => ?_)
   ·skip
    refine goes_ Tryd.func35 (by kernel_rfl) rfl #[.slice (some ad388) l0.length c0, .int .i64 a1] (by rfl) rfl rfl y14_ ?_
    with_reducible refine (rows_Kids.calls _ _ l0 a1 t389 _ ?side1 ?side2 A5.out).mono ?_
    (case side1 => repeat (first | exact (Kd.C_below HR0.out HB.out) | (with_reducible refine Kd.C_alloc ?_ _) | (with_reducible refine Kd.C_drewN ?_ _) | (with_reducible refine Kd.C_drew ?_)))
    (case side2 => exact HC0.out)
    rintro e w22 ⟨v390, rfl, ho0, hb⟩
    refine ⟨_, rfl, ?_⟩
    have n0_ := Aside0.mk (Kd.R_lower ho0 (below_size y13_))
    have n1_ := Aside0.mk (below_step y13_ hb)
    clear HB
    have HO391 := n0_
    have HB := n1_
    clear n0_ n1_
    (try clear hb)
    (try clear hb2)
    (try clear hk)
    (try clear hi)
    (try clear ho0)
    refine hK.out _ _ ⟨((HB.out.cell (World.block_lt_of_cell? w _ hw388_0)).trans hw388_0), ((HB.out.cell (World.block_lt_of_cell? w _ hw388_1)).trans hw388_1), ((HB.out.cell (World.block_lt_of_cell? w _ hw388_2)).trans hw388_2), ((HB.out.cell (World.block_lt_of_cell? w _ hw388_3)).trans hw388_3), ((HB.out.cell (World.block_lt_of_cell? w _ hw388_4)).trans hw388_4)⟩ (fun hHeld => ?_)
    clear hK K
    refine norm_ (a' := ?_) ?_ ?_
    rotate_left
    ·show Act.put _ (some 14) _ = _
     simp only [Act.put, List.setIfInBounds_toArray, List.set_cons_zero, List.set_cons_succ, i64_w, i32_w]
     rfl
    refine one_ (i := 7) (N := some 5) #[true, true, true, true, true, true, true, true, false, false] rfl rfl (one_of HT_.out (by kernel_rfl)) (by decide) (fun K hK => ?_)
    refine box_step ?hg (N := 5) ?hd (cs := #[.int .i64 0, .int .i64 0, .string (⟨#[]⟩ : ByteArray), .string (⟨#[]⟩ : ByteArray), .slice none 0 0]) (t := 35) ?hr ?_; (case hd => rfl); (case hg => rfl); (case hr => first | (go_simp; done) | (go_simp; rfl))
    intro gb392 hg w23 hbox hb
    have n0_ := Aside0.mk (Kd.R_below (y10_ HO391.out) hb)
    have n1_ := Aside0.mk (below_step y13_ hb)
    have n2_ := Aside0.mk (hbox)
    have n3_ := Aside0.mk ((by rw [hg]; exact (below_size y13_) : w.heap.size ≤ gb392))
    have n4_ := Aside0.mk ((by rw [hg]; exact (below_size y13_) : w.heap.size ≤ gb392))
    clear HO391
    clear HB
    have HO391 := n0_
    have HB := n1_
    have BK392 := n2_
    have GW392 := n3_
    have GE392 := n4_
    clear n0_ n1_ n2_ n3_ n4_
    clear hb hbox hg
    refine hK.out _ _ ⟨((HB.out.cell (World.block_lt_of_cell? w _ hw388_0)).trans hw388_0), ((HB.out.cell (World.block_lt_of_cell? w _ hw388_1)).trans hw388_1), ((HB.out.cell (World.block_lt_of_cell? w _ hw388_2)).trans hw388_2), ((HB.out.cell (World.block_lt_of_cell? w _ hw388_3)).trans hw388_3), ((HB.out.cell (World.block_lt_of_cell? w _ hw388_4)).trans hw388_4)⟩ (fun hHeld => ?_)
    clear hK K
    refine norm_ (a' := ?_) ?_ ?_
    rotate_left
    ·show Act.put _ (some 5) _ = _
     simp only [Act.put, List.setIfInBounds_toArray, List.set_cons_zero, List.set_cons_succ, i64_w, i32_w]
     rfl
    exact norm_ y6_ (hCont (v390, gb392) _ ⟨hHeld, (y10_ HO391.out), (y11_ BK392.out), GW392.out, GE392.out, (y19_ GE392.out)⟩)
   ·skip
    refine box_step ?hg (N := 5) ?hd (cs := #[.int .i64 0, .int .i64 0, .string (⟨#[]⟩ : ByteArray), .string (⟨#[]⟩ : ByteArray), .slice none 0 0]) (t := 35) ?hr ?_; (case hd => rfl); (case hg => rfl); (case hr => first | (go_simp; done) | (go_simp; rfl))
    intro gb392 hg w22 hbox hb
    have n0_ := Aside0.mk (below_step y13_ hb)
    have n1_ := Aside0.mk (hbox)
    have n2_ := Aside0.mk ((by rw [hg]; exact (below_size y13_) : w.heap.size ≤ gb392))
    have n3_ := Aside0.mk ((by rw [hg]; exact (below_size y13_) : w.heap.size ≤ gb392))
    clear HB
    have HB := n0_
    have BK392 := n1_
    have GW392 := n2_
    have GE392 := n3_
    clear n0_ n1_ n2_ n3_
    clear hb hbox hg
    refine hK.out _ _ ⟨((HB.out.cell (World.block_lt_of_cell? w _ hw388_0)).trans hw388_0), ((HB.out.cell (World.block_lt_of_cell? w _ hw388_1)).trans hw388_1), ((HB.out.cell (World.block_lt_of_cell? w _ hw388_2)).trans hw388_2), ((HB.out.cell (World.block_lt_of_cell? w _ hw388_3)).trans hw388_3), ((HB.out.cell (World.block_lt_of_cell? w _ hw388_4)).trans hw388_4)⟩ (fun hHeld => ?_)
    clear hK K
    refine norm_ (a' := ?_) ?_ ?_
    rotate_left
    ·show Act.put _ (some 5) _ = _
     simp only [Act.put, List.setIfInBounds_toArray, List.set_cons_zero, List.set_cons_succ, i64_w, i32_w]
     rfl
    refine one_ (i := 6) (N := some 14) #[true, true, true, true, true, true, true, true, false, false] rfl rfl (one_of HT_.out (by kernel_rfl)) (by decide) (fun K hK => ?_)
    refine goes_ Tryd.func35 (by kernel_rfl) rfl #[.slice (some ad388) l0.length c0, .int .i64 a1] (by rfl) rfl rfl y14_ ?_
    with_reducible refine (rows_Kids.calls _ _ l0 a1 t389 _ ?side1 ?side2 A5.out).mono ?_
    (case side1 => repeat (first | exact (Kd.C_below HR0.out HB.out) | (with_reducible refine Kd.C_alloc ?_ _) | (with_reducible refine Kd.C_drewN ?_ _) | (with_reducible refine Kd.C_drew ?_)))
    (case side2 => exact HC0.out)
    rintro e w23 ⟨v390, rfl, ho0, hb⟩
    refine ⟨_, rfl, ?_⟩
    have n0_ := Aside0.mk (Kd.R_lower ho0 (below_size (y19_ GE392.out)))
    have n1_ := Aside0.mk (blk_below (g := gb392) (o := .cells #[.int .i64 0, .int .i64 0, .string (⟨#[]⟩ : ByteArray), .string (⟨#[]⟩ : ByteArray), .slice none 0 0] 35 (0, 0)) (y11_ BK392.out) hb)
    have n2_ := Aside0.mk (below_step (y19_ GE392.out) hb)
    clear BK392
    clear HB
    have HO391 := n0_
    have BK392 := n1_
    have HB := n2_
    clear n0_ n1_ n2_
    (try clear hb)
    (try clear hb2)
    (try clear hk)
    (try clear hi)
    (try clear ho0)
    refine hK.out _ _ ⟨((HB.out.cell (World.block_lt_of_cell? w _ hw388_0)).trans hw388_0), ((HB.out.cell (World.block_lt_of_cell? w _ hw388_1)).trans hw388_1), ((HB.out.cell (World.block_lt_of_cell? w _ hw388_2)).trans hw388_2), ((HB.out.cell (World.block_lt_of_cell? w _ hw388_3)).trans hw388_3), ((HB.out.cell (World.block_lt_of_cell? w _ hw388_4)).trans hw388_4)⟩ (fun hHeld => ?_)
    clear hK K
    refine norm_ (a' := ?_) ?_ ?_
    rotate_left
    ·show Act.put _ (some 14) _ = _
     simp only [Act.put, List.setIfInBounds_toArray, List.set_cons_zero, List.set_cons_succ, i64_w, i32_w]
     rfl
    exact norm_ y6_ (hCont (v390, gb392) _ ⟨hHeld, (y10_ HO391.out), (y11_ BK392.out), GW392.out, GE392.out, (y19_ GE392.out)⟩)
  rintro ⟨v390, gb392⟩ w24 ⟨hS_, h0_, h1_, h2_, h3_, h4_⟩
  have n0_ : Aside0 (Kd.R (Kd.int .i64) 3 w24 w.heap.size (fun _ => True) v390 t389) := ⟨h0_⟩
  have n1_ : Aside0 (w24.heap[gb392]? = some (.cells #[.int .i64 0, .int .i64 0, .string (⟨#[]⟩ : ByteArray), .string (⟨#[]⟩ : ByteArray), .slice none 0 0] 35 (0, 0))) := ⟨h1_⟩
  have n2_ : Aside0 (w.heap.size ≤ gb392) := ⟨h2_⟩
  have n3_ : Aside0 (w.heap.size ≤ gb392) := ⟨h3_⟩
  have n4_ : Aside0 (Below w.heap.size w w24) := ⟨h4_⟩
  clear HB
  clear h0_ h1_ h2_ h3_ h4_
  have HO391 := n0_
  have BK392 := n1_
  have GW392 := n2_
  have GE392 := n3_
  have HB := n4_
  clear n0_ n1_ n2_ n3_ n4_
  have hHeld : w24.cell? (ad388.add ((a1).toNat * 5)) = some (.int .i64 ((rd_T35 l0 a1).f0)) ∧ w24.cell? ⟨(ad388.add ((a1).toNat * 5)).block, (ad388.add ((a1).toNat * 5)).off + 1, none⟩ = some (.int .i64 ((rd_T35 l0 a1).f1)) ∧ w24.cell? ⟨(ad388.add ((a1).toNat * 5)).block, (ad388.add ((a1).toNat * 5)).off + 2, none⟩ = some (.string ((rd_T35 l0 a1).f2)) ∧ w24.cell? ⟨(ad388.add ((a1).toNat * 5)).block, (ad388.add ((a1).toNat * 5)).off + 3, none⟩ = some (.string ((rd_T35 l0 a1).f3)) ∧ w24.cell? ⟨(ad388.add ((a1).toNat * 5)).block, (ad388.add ((a1).toNat * 5)).off + 4, none⟩ = some (.slice A388_4 ((rd_T35 l0 a1).f4).length c388_4) := hS_
  refine norm_ (a' := ?_) ?_ ?_
  rotate_left
  ·simp only [putAll, Act.put, List.setIfInBounds_toArray, List.set_cons_zero, List.set_cons_succ]
   rfl
  refine one_ (i := 8) (N := none) #[true, true, true, true, true, true, true, true, true, false] rfl rfl (one_of HT_.out (by kernel_rfl)) (by decide) (fun K hK => ?_)
  have hs25 : w24.cell? ⟨gb392, 0, none⟩ = some (.int .i64 0) := (blk_cell BK392.out 0).trans rfl
  have hfs25 := blk_frozen BK392.out 0
  have hs26 : w24.cell? ⟨gb392, 1, none⟩ = some (.int .i64 0) := (blk_cell BK392.out 1).trans rfl
  have hfs26 := blk_frozen BK392.out 1
  have hs27 : w24.cell? ⟨gb392, 2, none⟩ = some (.string (⟨#[]⟩ : ByteArray)) := (blk_cell BK392.out 2).trans rfl
  have hfs27 := blk_frozen BK392.out 2
  have hs28 : w24.cell? ⟨gb392, 3, none⟩ = some (.string (⟨#[]⟩ : ByteArray)) := (blk_cell BK392.out 3).trans rfl
  have hfs28 := blk_frozen BK392.out 3
  have hs29 : w24.cell? ⟨gb392, 4, none⟩ = some (.slice none 0 0) := (blk_cell BK392.out 4).trans rfl
  have hfs29 := blk_frozen BK392.out 4
  refine skip_ (w1 := ?_) (by rfl) rfl ?_ ?_
  rotate_left
  ·go_simp
   rfl
  refine hK.out _ _ ⟨((cell_far (p := ⟨gb392, _, none⟩) (y38_ hw388_0 GW392.out) _).trans (((cell_far (p := ⟨gb392, _, none⟩) (y38_ hw388_0 GW392.out) _).trans (((cell_far (p := ⟨gb392, _, none⟩) (y38_ hw388_0 GW392.out) _).trans (((cell_far (p := ⟨gb392, _, none⟩) (y38_ hw388_0 GW392.out) _).trans (((cell_far (p := ⟨gb392, _, none⟩) (y38_ hw388_0 GW392.out) _).trans (hHeld.1)))))))))), ((cell_far (p := ⟨gb392, _, none⟩) (y38_ hw388_1 GW392.out) _).trans (((cell_far (p := ⟨gb392, _, none⟩) (y38_ hw388_1 GW392.out) _).trans (((cell_far (p := ⟨gb392, _, none⟩) (y38_ hw388_1 GW392.out) _).trans (((cell_far (p := ⟨gb392, _, none⟩) (y38_ hw388_1 GW392.out) _).trans (((cell_far (p := ⟨gb392, _, none⟩) (y38_ hw388_1 GW392.out) _).trans (hHeld.2.1)))))))))), ((cell_far (p := ⟨gb392, _, none⟩) (y38_ hw388_2 GW392.out) _).trans (((cell_far (p := ⟨gb392, _, none⟩) (y38_ hw388_2 GW392.out) _).trans (((cell_far (p := ⟨gb392, _, none⟩) (y38_ hw388_2 GW392.out) _).trans (((cell_far (p := ⟨gb392, _, none⟩) (y38_ hw388_2 GW392.out) _).trans (((cell_far (p := ⟨gb392, _, none⟩) (y38_ hw388_2 GW392.out) _).trans (hHeld.2.2.1)))))))))), ((cell_far (p := ⟨gb392, _, none⟩) (y38_ hw388_3 GW392.out) _).trans (((cell_far (p := ⟨gb392, _, none⟩) (y38_ hw388_3 GW392.out) _).trans (((cell_far (p := ⟨gb392, _, none⟩) (y38_ hw388_3 GW392.out) _).trans (((cell_far (p := ⟨gb392, _, none⟩) (y38_ hw388_3 GW392.out) _).trans (((cell_far (p := ⟨gb392, _, none⟩) (y38_ hw388_3 GW392.out) _).trans (hHeld.2.2.2.1)))))))))), ((cell_far (p := ⟨gb392, _, none⟩) (y38_ hw388_4 GW392.out) _).trans (((cell_far (p := ⟨gb392, _, none⟩) (y38_ hw388_4 GW392.out) _).trans (((cell_far (p := ⟨gb392, _, none⟩) (y38_ hw388_4 GW392.out) _).trans (((cell_far (p := ⟨gb392, _, none⟩) (y38_ hw388_4 GW392.out) _).trans (((cell_far (p := ⟨gb392, _, none⟩) (y38_ hw388_4 GW392.out) _).trans (hHeld.2.2.2.2))))))))))⟩ (fun hHeld => ?_)
  clear hK K
  refine pure_ (i := 9) (N := some 6) (v := ?_) (a' := ?_) #[true, true, true, true, true, true, true, true, true, true] rfl rfl (any_of HT_.out (by kernel_rfl)) (fun _ _ _ h => h) (Or.inl ⟨by rfl, ?_⟩) ?_ ?_
  rotate_left
  ·intro w'
   go_simp
   with_reducible rfl
  rotate_left
  ·simp only [Act.put, List.setIfInBounds_toArray, List.set_cons_zero, List.set_cons_succ, i64_w, i32_w]
   rfl
  refine done_ (done_of HT_.out (by kernel_rfl)) ?_
  have hcz30_0 : w24.cell? ⟨gb392, 0, none⟩ = some (.int .i64 0) := (blk_cell BK392.out 0).trans rfl
  have hcz30_1 : w24.cell? ⟨gb392, 1, none⟩ = some (.int .i64 0) := (blk_cell BK392.out 1).trans rfl
  have hcz30_2 : w24.cell? ⟨gb392, 2, none⟩ = some (.string (⟨#[]⟩ : ByteArray)) := (blk_cell BK392.out 2).trans rfl
  have hcz30_3 : w24.cell? ⟨gb392, 3, none⟩ = some (.string (⟨#[]⟩ : ByteArray)) := (blk_cell BK392.out 3).trans rfl
  have hcz30_4 : w24.cell? ⟨gb392, 4, none⟩ = some (.slice none 0 0) := (blk_cell BK392.out 4).trans rfl
  have hfz30_0 := blk_frozen BK392.out 0
  have hfz30_1 := blk_frozen BK392.out 1
  have hfz30_2 := blk_frozen BK392.out 2
  have hfz30_3 := blk_frozen BK392.out 3
  have hfz30_4 := blk_frozen BK392.out 4
  go_upto_region 4 with (first | ((with_reducible refine gate_callee (f := 26) rfl ?_); refine goesL_ (some 18) rfl rfl Tryd.func26 (by kernel_rfl) rfl #[.string ((rd_T35 l0 a1).f2)] rfl y14_ ?_; (with_reducible refine (names_Void.calls k ((rd_T35 l0 a1).f2) false _ A6.out).mono ?_); rintro e w31 ⟨rfl, hb⟩; refine ⟨_, rfl, ?_⟩; have n0_ := Aside0.mk (Kd.R_below (by (with_reducible repeat (first | apply Kd.R_alloc | apply Kd.R_drewN | apply Kd.R_drew)); exact (Kd.R_mono (Kd.R_far (p := ⟨gb392, 4, none⟩) (Kd.R_far (p := ⟨gb392, 3, none⟩) (Kd.R_far (p := ⟨gb392, 2, none⟩) (Kd.R_far (p := ⟨gb392, 1, none⟩) (Kd.R_far (p := ⟨gb392, 0, none⟩) (Kd.R_types HO391.out BK392.out (by decide)) (fun _ hk => hk.2) (.int .i64 ((rd_T35 l0 a1).f0))) (fun _ hk => hk.2) (.int .i64 ((rd_T35 l0 a1).f1))) (fun _ hk => hk.2) (.string ((rd_T35 l0 a1).f2))) (fun _ hk => hk.2) (.string ((rd_T35 l0 a1).f3))) (fun _ hk => hk.2) (.slice A388_4 ((rd_T35 l0 a1).f4).length c388_4)) (fun _ h_ => h_.1))) hb); have n1_ := Aside0.mk (blk_below (g := gb392) (o := .cells #[.int .i64 ((rd_T35 l0 a1).f0), .int .i64 ((rd_T35 l0 a1).f1), .string ((rd_T35 l0 a1).f2), .string ((rd_T35 l0 a1).f3), .slice A388_4 ((rd_T35 l0 a1).f4).length c388_4] 35 (0, 0)) (y34_ BK392.out) hb); have n2_ := Aside0.mk (below_step (y19_ GE392.out) hb); clear HO391; clear BK392; clear HB; have HO391 := n0_; have BK392 := n1_; have HB := n2_; clear n0_ n1_ n2_; (try clear hb); (try clear hb2); (try clear hk); (try clear hi)))
  (try simp only [Act.put, List.setIfInBounds_toArray, List.set_cons_zero, List.set_cons_succ])
  go_cut [22] (fun v22 wc => ∃ (kq : Nat) (x22_19 : Bool), v22 = .bool x22_19 ∧ Aside0 (write_within.j0 kq l0 t389 x22_19 ((rd_T35 l0 a1).f0) ((rd_T35 l0 a1).f1) ((rd_T35 l0 a1).f2) ((rd_T35 l0 a1).f3) ((rd_T35 l0 a1).f4) = some r) ∧ Aside0 (kq ≤ k) ∧ Aside0 (Kd.R (Kd.int .i64) 3 wc w.heap.size (fun _ => True) v390 t389) ∧ Aside0 (wc.heap[gb392]? = some (.cells #[.int .i64 ((rd_T35 l0 a1).f0), .int .i64 ((rd_T35 l0 a1).f1), .string ((rd_T35 l0 a1).f2), .string ((rd_T35 l0 a1).f3), (.slice A388_4 ((rd_T35 l0 a1).f4).length c388_4)] 35 (0, 0))) ∧ Aside0 (Below w.heap.size w wc))
  case first =>
   have H := HC20.out
   clear HC20
   replace H := Option.bind_eq_some_iff.mp H
   obtain ⟨t394, A320, H⟩ := H
   have A32 := Aside0.mk A320
   clear A320
   by_cases c33 : t394 = true
   ·subst c33
    rw [if_pos rfl] at H
    have H' := Aside0.mk H
    clear H
    have hcz34_0 : w31.cell? ⟨gb392, 0, none⟩ = some (.int .i64 ((rd_T35 l0 a1).f0)) := (blk_cell BK392.out 0).trans rfl
    have hcz34_1 : w31.cell? ⟨gb392, 1, none⟩ = some (.int .i64 ((rd_T35 l0 a1).f1)) := (blk_cell BK392.out 1).trans rfl
    have hcz34_2 : w31.cell? ⟨gb392, 2, none⟩ = some (.string ((rd_T35 l0 a1).f2)) := (blk_cell BK392.out 2).trans rfl
    have hcz34_3 : w31.cell? ⟨gb392, 3, none⟩ = some (.string ((rd_T35 l0 a1).f3)) := (blk_cell BK392.out 3).trans rfl
    have hcz34_4 : w31.cell? ⟨gb392, 4, none⟩ = some (.slice A388_4 ((rd_T35 l0 a1).f4).length c388_4) := (blk_cell BK392.out 4).trans rfl
    have hfz34_0 := blk_frozen BK392.out 0
    have hfz34_1 := blk_frozen BK392.out 1
    have hfz34_2 := blk_frozen BK392.out 2
    have hfz34_3 := blk_frozen BK392.out 3
    have hfz34_4 := blk_frozen BK392.out 4
    go_wp2_with (first | ((with_reducible refine gate_callee (f := 40) rfl ?_); refine goesL_ (some 25) rfl rfl Tryd.func40 (by kernel_rfl) rfl #[.string ((rd_T35 l0 a1).f2)] rfl y14_ ?_; (with_reducible refine (names_Raw.calls k ((rd_T35 l0 a1).f2) true _ A32.out).mono ?_); rintro e w35 ⟨rfl, hb⟩; refine ⟨_, rfl, ?_⟩; have n0_ := Aside0.mk (Kd.R_below (y10_ HO391.out) hb); have n1_ := Aside0.mk (blk_below (g := gb392) (o := .cells #[.int .i64 ((rd_T35 l0 a1).f0), .int .i64 ((rd_T35 l0 a1).f1), .string ((rd_T35 l0 a1).f2), .string ((rd_T35 l0 a1).f3), .slice A388_4 ((rd_T35 l0 a1).f4).length c388_4] 35 (0, 0)) (y11_ BK392.out) hb); have n2_ := Aside0.mk (below_step (y19_ GE392.out) hb); clear HO391; clear BK392; clear HB; have HO391 := n0_; have BK392 := n1_; have HB := n2_; clear n0_ n1_ n2_; (try clear hb); (try clear hb2); (try clear hk); (try clear hi); obtain ⟨Ao36, co36, eo36⟩ := Kd.R_slice HO391.out; subst eo36))
    go_meet
    case rel => exact ⟨_, (((t389.length : Int) == 0)), y4_, H', ⟨y1_⟩, ⟨by (with_reducible repeat (first | apply Kd.R_alloc | apply Kd.R_drewN | apply Kd.R_drew)); exact HO391.out⟩, ⟨by (with_reducible repeat (first | refine blk_drewN ?_ _ | refine blk_drew ?_ | refine blk_alloc ?_ _)); exact BK392.out⟩, ⟨(y19_ GE392.out)⟩⟩
   ·replace c33 := Bool.eq_false_iff.mpr c33
    subst c33
    rw [if_neg (show ¬ (false = true) by decide)] at H
    replace H := Option.bind_eq_some_iff.mp H
    obtain ⟨t395, A370, H⟩ := H
    have A37 := Aside0.mk A370
    clear A370
    by_cases c38 : t395 = true
    ·subst c38
     rw [if_pos rfl] at H
     have H' := Aside0.mk H
     clear H
     have hcz39_0 : w31.cell? ⟨gb392, 0, none⟩ = some (.int .i64 ((rd_T35 l0 a1).f0)) := (blk_cell BK392.out 0).trans rfl
     have hcz39_1 : w31.cell? ⟨gb392, 1, none⟩ = some (.int .i64 ((rd_T35 l0 a1).f1)) := (blk_cell BK392.out 1).trans rfl
     have hcz39_2 : w31.cell? ⟨gb392, 2, none⟩ = some (.string ((rd_T35 l0 a1).f2)) := (blk_cell BK392.out 2).trans rfl
     have hcz39_3 : w31.cell? ⟨gb392, 3, none⟩ = some (.string ((rd_T35 l0 a1).f3)) := (blk_cell BK392.out 3).trans rfl
     have hcz39_4 : w31.cell? ⟨gb392, 4, none⟩ = some (.slice A388_4 ((rd_T35 l0 a1).f4).length c388_4) := (blk_cell BK392.out 4).trans rfl
     have hfz39_0 := blk_frozen BK392.out 0
     have hfz39_1 := blk_frozen BK392.out 1
     have hfz39_2 := blk_frozen BK392.out 2
     have hfz39_3 := blk_frozen BK392.out 3
     have hfz39_4 := blk_frozen BK392.out 4
     go_wp2_with (first | ((with_reducible refine gate_callee (f := 40) rfl ?_); refine goesL_ (some 25) rfl rfl Tryd.func40 (by kernel_rfl) rfl #[.string ((rd_T35 l0 a1).f2)] rfl y14_ ?_; (with_reducible refine (names_Raw.calls k ((rd_T35 l0 a1).f2) false _ A32.out).mono ?_); rintro e w40 ⟨rfl, hb⟩; refine ⟨_, rfl, ?_⟩; have n0_ := Aside0.mk (Kd.R_below (y10_ HO391.out) hb); have n1_ := Aside0.mk (blk_below (g := gb392) (o := .cells #[.int .i64 ((rd_T35 l0 a1).f0), .int .i64 ((rd_T35 l0 a1).f1), .string ((rd_T35 l0 a1).f2), .string ((rd_T35 l0 a1).f3), .slice A388_4 ((rd_T35 l0 a1).f4).length c388_4] 35 (0, 0)) (y11_ BK392.out) hb); have n2_ := Aside0.mk (below_step (y19_ GE392.out) hb); clear HO391; clear BK392; clear HB; have HO391 := n0_; have BK392 := n1_; have HB := n2_; clear n0_ n1_ n2_; (try clear hb); (try clear hb2); (try clear hk); (try clear hi); have hcz41_0 : w40.cell? ⟨gb392, 0, none⟩ = some (.int .i64 ((rd_T35 l0 a1).f0)) := (blk_cell BK392.out 0).trans rfl; have hcz41_1 : w40.cell? ⟨gb392, 1, none⟩ = some (.int .i64 ((rd_T35 l0 a1).f1)) := (blk_cell BK392.out 1).trans rfl; have hcz41_2 : w40.cell? ⟨gb392, 2, none⟩ = some (.string ((rd_T35 l0 a1).f2)) := (blk_cell BK392.out 2).trans rfl; have hcz41_3 : w40.cell? ⟨gb392, 3, none⟩ = some (.string ((rd_T35 l0 a1).f3)) := (blk_cell BK392.out 3).trans rfl; have hcz41_4 : w40.cell? ⟨gb392, 4, none⟩ = some (.slice A388_4 ((rd_T35 l0 a1).f4).length c388_4) := (blk_cell BK392.out 4).trans rfl; have hfz41_0 := blk_frozen BK392.out 0; have hfz41_1 := blk_frozen BK392.out 1; have hfz41_2 := blk_frozen BK392.out 2; have hfz41_3 := blk_frozen BK392.out 3; have hfz41_4 := blk_frozen BK392.out 4) | (go_at_call 57; (with_reducible refine (names_Soft.calls k ((rd_T35 l0 a1).f2) true _ A37.out).mono ?_); rintro e w42 ⟨rfl, hb⟩; have n0_ := Aside0.mk (Kd.R_below (y10_ HO391.out) hb); have n1_ := Aside0.mk (blk_below (g := gb392) (o := .cells #[.int .i64 ((rd_T35 l0 a1).f0), .int .i64 ((rd_T35 l0 a1).f1), .string ((rd_T35 l0 a1).f2), .string ((rd_T35 l0 a1).f3), .slice A388_4 ((rd_T35 l0 a1).f4).length c388_4] 35 (0, 0)) (y11_ BK392.out) hb); have n2_ := Aside0.mk (below_step (y19_ GE392.out) hb); clear HO391; clear BK392; clear HB; have HO391 := n0_; have BK392 := n1_; have HB := n2_; clear n0_ n1_ n2_; (try clear hb); (try clear hb2); (try clear hk); (try clear hi); obtain ⟨Ao43, co43, eo43⟩ := Kd.R_slice HO391.out; subst eo43))
     go_meet
     case rel => exact ⟨_, (((t389.length : Int) == 0)), y4_, H', ⟨y1_⟩, ⟨by (with_reducible repeat (first | apply Kd.R_alloc | apply Kd.R_drewN | apply Kd.R_drew)); exact HO391.out⟩, ⟨by (with_reducible repeat (first | refine blk_drewN ?_ _ | refine blk_drew ?_ | refine blk_alloc ?_ _)); exact BK392.out⟩, ⟨(y19_ GE392.out)⟩⟩
    ·replace c38 := Bool.eq_false_iff.mpr c38
     subst c38
     rw [if_neg (show ¬ (false = true) by decide)] at H
     have H' := Aside0.mk H
     clear H
     have hcz44_0 : w31.cell? ⟨gb392, 0, none⟩ = some (.int .i64 ((rd_T35 l0 a1).f0)) := (blk_cell BK392.out 0).trans rfl
     have hcz44_1 : w31.cell? ⟨gb392, 1, none⟩ = some (.int .i64 ((rd_T35 l0 a1).f1)) := (blk_cell BK392.out 1).trans rfl
     have hcz44_2 : w31.cell? ⟨gb392, 2, none⟩ = some (.string ((rd_T35 l0 a1).f2)) := (blk_cell BK392.out 2).trans rfl
     have hcz44_3 : w31.cell? ⟨gb392, 3, none⟩ = some (.string ((rd_T35 l0 a1).f3)) := (blk_cell BK392.out 3).trans rfl
     have hcz44_4 : w31.cell? ⟨gb392, 4, none⟩ = some (.slice A388_4 ((rd_T35 l0 a1).f4).length c388_4) := (blk_cell BK392.out 4).trans rfl
     have hfz44_0 := blk_frozen BK392.out 0
     have hfz44_1 := blk_frozen BK392.out 1
     have hfz44_2 := blk_frozen BK392.out 2
     have hfz44_3 := blk_frozen BK392.out 3
     have hfz44_4 := blk_frozen BK392.out 4
     go_wp2_with (first | ((with_reducible refine gate_callee (f := 40) rfl ?_); refine goesL_ (some 25) rfl rfl Tryd.func40 (by kernel_rfl) rfl #[.string ((rd_T35 l0 a1).f2)] rfl y14_ ?_; (with_reducible refine (names_Raw.calls k ((rd_T35 l0 a1).f2) false _ A32.out).mono ?_); rintro e w45 ⟨rfl, hb⟩; refine ⟨_, rfl, ?_⟩; have n0_ := Aside0.mk (Kd.R_below (y10_ HO391.out) hb); have n1_ := Aside0.mk (blk_below (g := gb392) (o := .cells #[.int .i64 ((rd_T35 l0 a1).f0), .int .i64 ((rd_T35 l0 a1).f1), .string ((rd_T35 l0 a1).f2), .string ((rd_T35 l0 a1).f3), .slice A388_4 ((rd_T35 l0 a1).f4).length c388_4] 35 (0, 0)) (y11_ BK392.out) hb); have n2_ := Aside0.mk (below_step (y19_ GE392.out) hb); clear HO391; clear BK392; clear HB; have HO391 := n0_; have BK392 := n1_; have HB := n2_; clear n0_ n1_ n2_; (try clear hb); (try clear hb2); (try clear hk); (try clear hi); have hcz46_0 : w45.cell? ⟨gb392, 0, none⟩ = some (.int .i64 ((rd_T35 l0 a1).f0)) := (blk_cell BK392.out 0).trans rfl; have hcz46_1 : w45.cell? ⟨gb392, 1, none⟩ = some (.int .i64 ((rd_T35 l0 a1).f1)) := (blk_cell BK392.out 1).trans rfl; have hcz46_2 : w45.cell? ⟨gb392, 2, none⟩ = some (.string ((rd_T35 l0 a1).f2)) := (blk_cell BK392.out 2).trans rfl; have hcz46_3 : w45.cell? ⟨gb392, 3, none⟩ = some (.string ((rd_T35 l0 a1).f3)) := (blk_cell BK392.out 3).trans rfl; have hcz46_4 : w45.cell? ⟨gb392, 4, none⟩ = some (.slice A388_4 ((rd_T35 l0 a1).f4).length c388_4) := (blk_cell BK392.out 4).trans rfl; have hfz46_0 := blk_frozen BK392.out 0; have hfz46_1 := blk_frozen BK392.out 1; have hfz46_2 := blk_frozen BK392.out 2; have hfz46_3 := blk_frozen BK392.out 3; have hfz46_4 := blk_frozen BK392.out 4) | (go_at_call 57; (with_reducible refine (names_Soft.calls k ((rd_T35 l0 a1).f2) false _ A37.out).mono ?_); rintro e w47 ⟨rfl, hb⟩; have n0_ := Aside0.mk (Kd.R_below (y10_ HO391.out) hb); have n1_ := Aside0.mk (blk_below (g := gb392) (o := .cells #[.int .i64 ((rd_T35 l0 a1).f0), .int .i64 ((rd_T35 l0 a1).f1), .string ((rd_T35 l0 a1).f2), .string ((rd_T35 l0 a1).f3), .slice A388_4 ((rd_T35 l0 a1).f4).length c388_4] 35 (0, 0)) (y11_ BK392.out) hb); have n2_ := Aside0.mk (below_step (y19_ GE392.out) hb); clear HO391; clear BK392; clear HB; have HO391 := n0_; have BK392 := n1_; have HB := n2_; clear n0_ n1_ n2_; (try clear hb); (try clear hb2); (try clear hk); (try clear hi)))
     go_meet
     case rel => exact ⟨_, (true), y4_, H', ⟨y1_⟩, ⟨by (with_reducible repeat (first | apply Kd.R_alloc | apply Kd.R_drewN | apply Kd.R_drew)); exact HO391.out⟩, ⟨by (with_reducible repeat (first | refine blk_drewN ?_ _ | refine blk_drew ?_ | refine blk_alloc ?_ _)); exact BK392.out⟩, ⟨(y19_ GE392.out)⟩⟩
  case rest =>
   clear HC20
   try clear c2
   try clear p2
   try clear c3
   try clear c3b0
   try clear p3
   try clear q3
   try clear hx3
   try clear c4
   try clear c4b0
   try clear c7
   try clear c26
   try clear c33
   try clear c35
   try clear c38
   try clear p38
   try clear q38
   try clear hx38
   try clear c40
   try clear hcz17_0
   try clear hcz17_1
   try clear hcz17_2
   try clear hcz17_3
   try clear hcz17_4
   try clear hcz30_0
   try clear hcz30_1
   try clear hcz30_2
   try clear hcz30_3
   try clear hcz30_4
   try clear hcz34_0
   try clear hcz34_1
   try clear hcz34_2
   try clear hcz34_3
   try clear hcz34_4
   try clear hcz39_0
   try clear hcz39_1
   try clear hcz39_2
   try clear hcz39_3
   try clear hcz39_4
   try clear hcz41_0
   try clear hcz41_1
   try clear hcz41_2
   try clear hcz41_3
   try clear hcz41_4
   try clear hcz44_0
   try clear hcz44_1
   try clear hcz44_2
   try clear hcz44_3
   try clear hcz44_4
   try clear hcz46_0
   try clear hcz46_1
   try clear hcz46_2
   try clear hcz46_3
   try clear hcz46_4
   try clear hfz17_0
   try clear hfz17_1
   try clear hfz17_2
   try clear hfz17_3
   try clear hfz17_4
   try clear hfz30_0
   try clear hfz30_1
   try clear hfz30_2
   try clear hfz30_3
   try clear hfz30_4
   try clear hfz34_0
   try clear hfz34_1
   try clear hfz34_2
   try clear hfz34_3
   try clear hfz34_4
   try clear hfz39_0
   try clear hfz39_1
   try clear hfz39_2
   try clear hfz39_3
   try clear hfz39_4
   try clear hfz41_0
   try clear hfz41_1
   try clear hfz41_2
   try clear hfz41_3
   try clear hfz41_4
   try clear hfz44_0
   try clear hfz44_1
   try clear hfz44_2
   try clear hfz44_3
   try clear hfz44_4
   try clear hfz46_0
   try clear hfz46_1
   try clear hfz46_2
   try clear hfz46_3
   try clear hfz46_4
   try clear hx388_0
   try clear hx388_1
   try clear hx388_2
   try clear hx388_3
   try clear hx388_4
   try clear p388
   try clear q388
   obtain ⟨kq, x22_19, rfl, HA, HJ19, HO_6, BK392, HB⟩ := hcut
   cases kq with
   | zero => exact absurd HA.out (by simp [write_within.j0])
   | succ kj19 =>
    have H := HA.out
    clear HA
    simp only [write_within.j0] at H
    by_cases c48 : x22_19 = true
    ·subst c48
     rw [if_pos rfl] at H
     obtain rfl := Option.some.inj H
     go_wp2
     go_ret
     exact ⟨y12_, (y19_ GE392.out)⟩
    ·replace c48 := Bool.eq_false_iff.mpr c48
     subst c48
     rw [if_neg (show ¬ (false = true) by decide)] at H
     have HC49 := Aside0.mk H
     clear H
     go_upto_region 6 with (fail)
     go_cut [38] (fun v38 wc => ∃ (kq : Nat) (x38_48 : Bool), v38 = .bool x38_48 ∧ Aside0 (write_within.j1 kq l0 t389 x38_48 ((rd_T35 l0 a1).f0) ((rd_T35 l0 a1).f1) ((rd_T35 l0 a1).f2) ((rd_T35 l0 a1).f3) ((rd_T35 l0 a1).f4) = some r) ∧ Aside0 (kq ≤ kj19) ∧ Aside0 (Kd.R (Kd.int .i64) 3 wc w.heap.size (fun _ => True) v390 t389) ∧ Aside0 (wc.heap[gb392]? = some (.cells #[.int .i64 ((rd_T35 l0 a1).f0), .int .i64 ((rd_T35 l0 a1).f1), .string ((rd_T35 l0 a1).f2), .string ((rd_T35 l0 a1).f3), (.slice A388_4 ((rd_T35 l0 a1).f4).length c388_4)] 35 (0, 0))) ∧ Aside0 (Below w.heap.size w wc))
     case first =>
      have H := HC49.out
      clear HC49
      by_cases c50 : (t389.length : Int) > 1
      ·rw [if_pos c50] at H
       have c50b0 : decide (1 < (t389.length : Int)) = true := decide_eq_true c50
       have c50b1 : decide (1 < t389.length) = true := decide_eq_true (by omega)
       clear c50
       (first | rw [c50b0] | (simp only [i64_w, i32_w]; rw [c50b0]) | skip)
       have H' := Aside0.mk H
       clear H
       obtain ⟨Ao51, co51, eo51⟩ := Kd.R_slice HO_6.out
       subst eo51
       go_wp2
       go_meet
       case rel => exact ⟨_, (true), y4_, H', ⟨by have := HJ19.out; first | omega | exact Nat.le_refl _⟩, ⟨by (with_reducible repeat (first | apply Kd.R_alloc | apply Kd.R_drewN | apply Kd.R_drew)); exact HO_6.out⟩, ⟨by (with_reducible repeat (first | refine blk_drewN ?_ _ | refine blk_drew ?_ | refine blk_alloc ?_ _)); exact BK392.out⟩, ⟨(y19_ GE392.out)⟩⟩
      ·rw [if_neg c50] at H
       have c50b0 : decide (1 < (t389.length : Int)) = false := decide_eq_false c50
       have c50b1 : decide (1 < t389.length) = false := decide_eq_false (by omega)
       clear c50
       (first | rw [c50b0] | (simp only [i64_w, i32_w]; rw [c50b0]) | skip)
       by_cases c52 : 0 < (t389.length : Int)
       rotate_left
       ·rw [if_neg c52] at H
        exact absurd H (by simp)
       rw [if_pos c52] at H
       have c52b0 : decide (0 < (t389.length : Int)) = true := decide_eq_true c52
       have c52b1 : decide (0 < t389.length) = true := decide_eq_true (by omega)
       clear c52
       by_cases c53 : 0 ≤ (rd t389 0)
       rotate_left
       ·rw [if_neg c53] at H
        exact absurd H (by simp)
       rw [if_pos c53] at H
       have c53b0 : decide (0 ≤ (rd t389 0)) = true := decide_eq_true c53
       clear c53
       by_cases c54 : (rd t389 0) < (l0.length : Int)
       rotate_left
       ·rw [if_neg c54] at H
        exact absurd H (by simp)
       rw [if_pos c54] at H
       have c54b0 : decide ((rd t389 0) < (l0.length : Int)) = true := decide_eq_true c54
       clear c54
       have H' := Aside0.mk H
       clear H
       obtain ⟨Ao55, co55, eo55⟩ := Kd.R_slice HO_6.out
       subst eo55
       have p396 : 0 ≤ (0 : Int) := (by omega)
       have q396 : 0 < (t389.length : Int) := of_decide_eq_true y2_
       obtain ⟨ad396, e396, hx396_0⟩ := Kd.at_int (Kd.R_reads' HO_6.out).2.2 0 p396 q396
       cases e396
       have qi396 : (0 < t389.length) = True := eq_true (by omega)
       (try rw [show ((0 : Int)).toNat = 0 from rfl] at hx396_0)
       (try rw [Addr.add_zero'] at hx396_0)
       replace p396 := eq_true p396
       replace q396 := eq_true q396
       have p397 : 0 ≤ ((rd t389 0) : Int) := of_decide_eq_true y2_
       have q397 : (rd t389 0) < (l0.length : Int) := of_decide_eq_true y2_
       obtain ⟨ad397, A397_4, c397_4, e397, hx397_0, hx397_1, hx397_2, hx397_3, hx397_4, hl397_4, hi397_4⟩ := at_T35 HR0.out (rd t389 0) p397 q397
       obtain rfl : ad388 = ad397 := (by injection e397)
       replace hx397_0 := (HB.out.cell (World.block_lt_of_cell? w _ hx397_0)).trans hx397_0
       replace hx397_1 := (HB.out.cell (World.block_lt_of_cell? w _ hx397_1)).trans hx397_1
       replace hx397_2 := (HB.out.cell (World.block_lt_of_cell? w _ hx397_2)).trans hx397_2
       replace hx397_3 := (HB.out.cell (World.block_lt_of_cell? w _ hx397_3)).trans hx397_3
       replace hx397_4 := (HB.out.cell (World.block_lt_of_cell? w _ hx397_4)).trans hx397_4
       try (have e_ := Option.some.inj (hx388_4.symm.trans hx397_4); injection e_ with ea_ eb_ ec_; rw [ea_, ec_] at hx388_4; clear ea_ eb_ ec_)
       have HR397_4 := Aside0.mk hi397_4
       have HC397_4 := Aside0.mk hl397_4
       clear hi397_4 hl397_4
       replace p397 := eq_true p397
       replace q397 := eq_true q397
       go_wp2
       go_meet
       case rel => exact ⟨_, ((((rd_T35 l0 (rd t389 0)).f1) != 1)), y4_, H', ⟨by have := HJ19.out; first | omega | exact Nat.le_refl _⟩, ⟨by (with_reducible repeat (first | apply Kd.R_alloc | apply Kd.R_drewN | apply Kd.R_drew)); exact HO_6.out⟩, ⟨by (with_reducible repeat (first | refine blk_drewN ?_ _ | refine blk_drew ?_ | refine blk_alloc ?_ _)); exact BK392.out⟩, ⟨(y19_ GE392.out)⟩⟩
     case rest =>
      clear HC49
      try clear c2
      try clear p2
      try clear c3
      try clear c3b0
      try clear p3
      try clear q3
      try clear hx3
      try clear qi3
      try clear c4
      try clear c4b0
      try clear c5
      try clear c7
      try clear c26
      try clear c33
      try clear c35
      try clear c38
      try clear p38
      try clear q38
      try clear hx38
      try clear c39
      try clear p39
      try clear q39
      try clear hx39
      try clear qi39
      try clear c40
      try clear c48
      try clear c50
      try clear c50b0
      try clear c50b1
      try clear c52
      try clear c52b0
      try clear c52b1
      try clear c53
      try clear c53b0
      try clear c54
      try clear c54b0
      try clear hcz17_0
      try clear hcz17_1
      try clear hcz17_2
      try clear hcz17_3
      try clear hcz17_4
      try clear hcz30_0
      try clear hcz30_1
      try clear hcz30_2
      try clear hcz30_3
      try clear hcz30_4
      try clear hcz34_0
      try clear hcz34_1
      try clear hcz34_2
      try clear hcz34_3
      try clear hcz34_4
      try clear hcz39_0
      try clear hcz39_1
      try clear hcz39_2
      try clear hcz39_3
      try clear hcz39_4
      try clear hcz41_0
      try clear hcz41_1
      try clear hcz41_2
      try clear hcz41_3
      try clear hcz41_4
      try clear hcz44_0
      try clear hcz44_1
      try clear hcz44_2
      try clear hcz44_3
      try clear hcz44_4
      try clear hcz46_0
      try clear hcz46_1
      try clear hcz46_2
      try clear hcz46_3
      try clear hcz46_4
      try clear hfz17_0
      try clear hfz17_1
      try clear hfz17_2
      try clear hfz17_3
      try clear hfz17_4
      try clear hfz30_0
      try clear hfz30_1
      try clear hfz30_2
      try clear hfz30_3
      try clear hfz30_4
      try clear hfz34_0
      try clear hfz34_1
      try clear hfz34_2
      try clear hfz34_3
      try clear hfz34_4
      try clear hfz39_0
      try clear hfz39_1
      try clear hfz39_2
      try clear hfz39_3
      try clear hfz39_4
      try clear hfz41_0
      try clear hfz41_1
      try clear hfz41_2
      try clear hfz41_3
      try clear hfz41_4
      try clear hfz44_0
      try clear hfz44_1
      try clear hfz44_2
      try clear hfz44_3
      try clear hfz44_4
      try clear hfz46_0
      try clear hfz46_1
      try clear hfz46_2
      try clear hfz46_3
      try clear hfz46_4
      try clear hx388_0
      try clear hx388_1
      try clear hx388_2
      try clear hx388_3
      try clear hx388_4
      try clear hx396_0
      try clear hx397_0
      try clear hx397_1
      try clear hx397_2
      try clear hx397_3
      try clear hx397_4
      try clear p2
      try clear p3
      try clear p38
      try clear p388
      try clear p396
      try clear p397
      try clear q3
      try clear q38
      try clear q388
      try clear q396
      try clear q397
      obtain ⟨kq, x38_48, rfl, HA, HJ48, HO_6, BK392, HB⟩ := hcut
      cases kq with
      | zero => exact absurd HA.out (by simp [write_within.j1])
      | succ kj48 =>
       have H := HA.out
       clear HA
       simp only [write_within.j1] at H
       by_cases c56 : x38_48 = true
       ·subst c56
        rw [if_pos rfl] at H
        obtain rfl := Option.some.inj H
        go_wp2
        go_ret
        exact ⟨y12_, (y19_ GE392.out)⟩
       ·replace c56 := Bool.eq_false_iff.mpr c56
        subst c56
        rw [if_neg (show ¬ (false = true) by decide)] at H
        by_cases c57 : 0 < (t389.length : Int)
        rotate_left
        ·rw [if_neg c57] at H
         exact absurd H (by simp)
        rw [if_pos c57] at H
        have c57b0 : decide (0 < (t389.length : Int)) = true := decide_eq_true c57
        have c57b1 : decide (0 < t389.length) = true := decide_eq_true (by omega)
        clear c57
        by_cases c58 : 0 ≤ (rd t389 0)
        rotate_left
        ·rw [if_neg c58] at H
         exact absurd H (by simp)
        rw [if_pos c58] at H
        have c58b0 : decide (0 ≤ (rd t389 0)) = true := decide_eq_true c58
        clear c58
        by_cases c59 : (rd t389 0) < (l0.length : Int)
        rotate_left
        ·rw [if_neg c59] at H
         exact absurd H (by simp)
        rw [if_pos c59] at H
        have c59b0 : decide ((rd t389 0) < (l0.length : Int)) = true := decide_eq_true c59
        clear c59
        replace H := Option.bind_eq_some_iff.mp H
        obtain ⟨t400, A600, H⟩ := H
        have A60 := Aside0.mk A600
        clear A600
        by_cases c61 : t400 = true
        ·subst c61
         rw [if_pos rfl] at H
         obtain rfl := Option.some.inj H
         obtain ⟨Ao62, co62, eo62⟩ := Kd.R_slice HO_6.out
         subst eo62
         have p398 : 0 ≤ (0 : Int) := (by omega)
         have q398 : 0 < (t389.length : Int) := of_decide_eq_true y2_
         obtain ⟨ad398, e398, hx398_0⟩ := Kd.at_int (Kd.R_reads' HO_6.out).2.2 0 p398 q398
         cases e398
         have qi398 : (0 < t389.length) = True := eq_true (by omega)
         (try rw [show ((0 : Int)).toNat = 0 from rfl] at hx398_0)
         (try rw [Addr.add_zero'] at hx398_0)
         replace p398 := eq_true p398
         replace q398 := eq_true q398
         have p399 : 0 ≤ ((rd t389 0) : Int) := of_decide_eq_true y2_
         have q399 : (rd t389 0) < (l0.length : Int) := of_decide_eq_true y2_
         obtain ⟨ad399, A399_4, c399_4, e399, hx399_0, hx399_1, hx399_2, hx399_3, hx399_4, hl399_4, hi399_4⟩ := at_T35 HR0.out (rd t389 0) p399 q399
         obtain rfl : ad388 = ad399 := (by injection e399)
         replace hx399_0 := (HB.out.cell (World.block_lt_of_cell? w _ hx399_0)).trans hx399_0
         replace hx399_1 := (HB.out.cell (World.block_lt_of_cell? w _ hx399_1)).trans hx399_1
         replace hx399_2 := (HB.out.cell (World.block_lt_of_cell? w _ hx399_2)).trans hx399_2
         replace hx399_3 := (HB.out.cell (World.block_lt_of_cell? w _ hx399_3)).trans hx399_3
         replace hx399_4 := (HB.out.cell (World.block_lt_of_cell? w _ hx399_4)).trans hx399_4
         try (have e_ := Option.some.inj (hx388_4.symm.trans hx399_4); injection e_ with ea_ eb_ ec_; rw [ea_, ec_] at hx388_4; clear ea_ eb_ ec_)
         have HR399_4 := Aside0.mk hi399_4
         have HC399_4 := Aside0.mk hl399_4
         clear hi399_4 hl399_4
         replace p399 := eq_true p399
         replace q399 := eq_true q399
         have hcz63_0 : wc.cell? ⟨gb392, 0, none⟩ = some (.int .i64 ((rd_T35 l0 a1).f0)) := (blk_cell BK392.out 0).trans rfl
         have hcz63_1 : wc.cell? ⟨gb392, 1, none⟩ = some (.int .i64 ((rd_T35 l0 a1).f1)) := (blk_cell BK392.out 1).trans rfl
         have hcz63_2 : wc.cell? ⟨gb392, 2, none⟩ = some (.string ((rd_T35 l0 a1).f2)) := (blk_cell BK392.out 2).trans rfl
         have hcz63_3 : wc.cell? ⟨gb392, 3, none⟩ = some (.string ((rd_T35 l0 a1).f3)) := (blk_cell BK392.out 3).trans rfl
         have hcz63_4 : wc.cell? ⟨gb392, 4, none⟩ = some (.slice A388_4 ((rd_T35 l0 a1).f4).length c388_4) := (blk_cell BK392.out 4).trans rfl
         have hfz63_0 := blk_frozen BK392.out 0
         have hfz63_1 := blk_frozen BK392.out 1
         have hfz63_2 := blk_frozen BK392.out 2
         have hfz63_3 := blk_frozen BK392.out 3
         have hfz63_4 := blk_frozen BK392.out 4
         go_wp2_with (first | ((with_reducible refine gate_callee (f := 57) rfl ?_); refine goesL_ (some 61) rfl rfl Tryd.func57 (by kernel_rfl) rfl #[.string ((rd_T35 l0 a1).f2)] rfl y14_ ?_; (with_reducible refine (names_Soft.calls kj48 ((rd_T35 l0 a1).f2) true _ A60.out).mono ?_); rintro e w64 ⟨rfl, hb⟩; refine ⟨_, rfl, ?_⟩; have n0_ := Aside0.mk (Kd.R_below (y10_ HO_6.out) hb); have n1_ := Aside0.mk (blk_below (g := gb392) (o := .cells #[.int .i64 ((rd_T35 l0 a1).f0), .int .i64 ((rd_T35 l0 a1).f1), .string ((rd_T35 l0 a1).f2), .string ((rd_T35 l0 a1).f3), .slice A388_4 ((rd_T35 l0 a1).f4).length c388_4] 35 (0, 0)) (y11_ BK392.out) hb); have n2_ := Aside0.mk (below_step (y19_ GE392.out) hb); clear HO_6; clear BK392; clear HB; have HO_6 := n0_; have BK392 := n1_; have HB := n2_; clear n0_ n1_ n2_; (try clear hb); (try clear hb2); (try clear hk); (try clear hi)))
         go_ret
         exact ⟨y12_, (y19_ GE392.out)⟩
        ·replace c61 := Bool.eq_false_iff.mpr c61
         subst c61
         rw [if_neg (show ¬ (false = true) by decide)] at H
         replace H := Option.bind_eq_some_iff.mp H
         obtain ⟨t401, A650, H⟩ := H
         have A65 := Aside0.mk A650
         clear A650
         by_cases c66 : t401 = true
         ·subst c66
          rw [if_pos rfl] at H
          obtain rfl := Option.some.inj H
          obtain ⟨Ao67, co67, eo67⟩ := Kd.R_slice HO_6.out
          subst eo67
          have p398 : 0 ≤ (0 : Int) := (by omega)
          have q398 : 0 < (t389.length : Int) := of_decide_eq_true y2_
          obtain ⟨ad398, e398, hx398_0⟩ := Kd.at_int (Kd.R_reads' HO_6.out).2.2 0 p398 q398
          cases e398
          have qi398 : (0 < t389.length) = True := eq_true (by omega)
          (try rw [show ((0 : Int)).toNat = 0 from rfl] at hx398_0)
          (try rw [Addr.add_zero'] at hx398_0)
          replace p398 := eq_true p398
          replace q398 := eq_true q398
          have p399 : 0 ≤ ((rd t389 0) : Int) := of_decide_eq_true y2_
          have q399 : (rd t389 0) < (l0.length : Int) := of_decide_eq_true y2_
          obtain ⟨ad399, A399_4, c399_4, e399, hx399_0, hx399_1, hx399_2, hx399_3, hx399_4, hl399_4, hi399_4⟩ := at_T35 HR0.out (rd t389 0) p399 q399
          obtain rfl : ad388 = ad399 := (by injection e399)
          replace hx399_0 := (HB.out.cell (World.block_lt_of_cell? w _ hx399_0)).trans hx399_0
          replace hx399_1 := (HB.out.cell (World.block_lt_of_cell? w _ hx399_1)).trans hx399_1
          replace hx399_2 := (HB.out.cell (World.block_lt_of_cell? w _ hx399_2)).trans hx399_2
          replace hx399_3 := (HB.out.cell (World.block_lt_of_cell? w _ hx399_3)).trans hx399_3
          replace hx399_4 := (HB.out.cell (World.block_lt_of_cell? w _ hx399_4)).trans hx399_4
          try (have e_ := Option.some.inj (hx388_4.symm.trans hx399_4); injection e_ with ea_ eb_ ec_; rw [ea_, ec_] at hx388_4; clear ea_ eb_ ec_)
          have HR399_4 := Aside0.mk hi399_4
          have HC399_4 := Aside0.mk hl399_4
          clear hi399_4 hl399_4
          replace p399 := eq_true p399
          replace q399 := eq_true q399
          have hcz68_0 : wc.cell? ⟨gb392, 0, none⟩ = some (.int .i64 ((rd_T35 l0 a1).f0)) := (blk_cell BK392.out 0).trans rfl
          have hcz68_1 : wc.cell? ⟨gb392, 1, none⟩ = some (.int .i64 ((rd_T35 l0 a1).f1)) := (blk_cell BK392.out 1).trans rfl
          have hcz68_2 : wc.cell? ⟨gb392, 2, none⟩ = some (.string ((rd_T35 l0 a1).f2)) := (blk_cell BK392.out 2).trans rfl
          have hcz68_3 : wc.cell? ⟨gb392, 3, none⟩ = some (.string ((rd_T35 l0 a1).f3)) := (blk_cell BK392.out 3).trans rfl
          have hcz68_4 : wc.cell? ⟨gb392, 4, none⟩ = some (.slice A388_4 ((rd_T35 l0 a1).f4).length c388_4) := (blk_cell BK392.out 4).trans rfl
          have hfz68_0 := blk_frozen BK392.out 0
          have hfz68_1 := blk_frozen BK392.out 1
          have hfz68_2 := blk_frozen BK392.out 2
          have hfz68_3 := blk_frozen BK392.out 3
          have hfz68_4 := blk_frozen BK392.out 4
          go_wp2_with (first | ((with_reducible refine gate_callee (f := 57) rfl ?_); refine goesL_ (some 61) rfl rfl Tryd.func57 (by kernel_rfl) rfl #[.string ((rd_T35 l0 a1).f2)] rfl y14_ ?_; (with_reducible refine (names_Soft.calls kj48 ((rd_T35 l0 a1).f2) false _ A60.out).mono ?_); rintro e w69 ⟨rfl, hb⟩; refine ⟨_, rfl, ?_⟩; have n0_ := Aside0.mk (Kd.R_below (y10_ HO_6.out) hb); have n1_ := Aside0.mk (blk_below (g := gb392) (o := .cells #[.int .i64 ((rd_T35 l0 a1).f0), .int .i64 ((rd_T35 l0 a1).f1), .string ((rd_T35 l0 a1).f2), .string ((rd_T35 l0 a1).f3), .slice A388_4 ((rd_T35 l0 a1).f4).length c388_4] 35 (0, 0)) (y11_ BK392.out) hb); have n2_ := Aside0.mk (below_step (y19_ GE392.out) hb); clear HO_6; clear BK392; clear HB; have HO_6 := n0_; have BK392 := n1_; have HB := n2_; clear n0_ n1_ n2_; (try clear hb); (try clear hb2); (try clear hk); (try clear hi)) | (go_at_call 51; (with_reducible refine (strings_Contains.calls ((rd_T35 l0 (rd t389 0)).f3) (⟨#[60, 47]⟩ : ByteArray) true _ A65.out).mono ?_); rintro e w70 ⟨rfl, hb⟩; have n0_ := Aside0.mk (Kd.R_below (y10_ HO_6.out) hb); have n1_ := Aside0.mk (blk_below (g := gb392) (o := .cells #[.int .i64 ((rd_T35 l0 a1).f0), .int .i64 ((rd_T35 l0 a1).f1), .string ((rd_T35 l0 a1).f2), .string ((rd_T35 l0 a1).f3), .slice A388_4 ((rd_T35 l0 a1).f4).length c388_4] 35 (0, 0)) (y11_ BK392.out) hb); have n2_ := Aside0.mk (below_step (y19_ GE392.out) hb); clear HO_6; clear BK392; clear HB; have HO_6 := n0_; have BK392 := n1_; have HB := n2_; clear n0_ n1_ n2_; (try clear hb); (try clear hb2); (try clear hk); (try clear hi)))
          go_ret
          exact ⟨y12_, (y19_ GE392.out)⟩
         ·replace c66 := Bool.eq_false_iff.mpr c66
          subst c66
          rw [if_neg (show ¬ (false = true) by decide)] at H
          replace H := Option.bind_eq_some_iff.mp H
          obtain ⟨t402, A710, H⟩ := H
          have A71 := Aside0.mk A710
          clear A710
          obtain rfl := Option.some.inj H
          obtain ⟨Ao72, co72, eo72⟩ := Kd.R_slice HO_6.out
          subst eo72
          have p398 : 0 ≤ (0 : Int) := (by omega)
          have q398 : 0 < (t389.length : Int) := of_decide_eq_true y2_
          obtain ⟨ad398, e398, hx398_0⟩ := Kd.at_int (Kd.R_reads' HO_6.out).2.2 0 p398 q398
          cases e398
          have qi398 : (0 < t389.length) = True := eq_true (by omega)
          (try rw [show ((0 : Int)).toNat = 0 from rfl] at hx398_0)
          (try rw [Addr.add_zero'] at hx398_0)
          replace p398 := eq_true p398
          replace q398 := eq_true q398
          have p399 : 0 ≤ ((rd t389 0) : Int) := of_decide_eq_true y2_
          have q399 : (rd t389 0) < (l0.length : Int) := of_decide_eq_true y2_
          obtain ⟨ad399, A399_4, c399_4, e399, hx399_0, hx399_1, hx399_2, hx399_3, hx399_4, hl399_4, hi399_4⟩ := at_T35 HR0.out (rd t389 0) p399 q399
          obtain rfl : ad388 = ad399 := (by injection e399)
          replace hx399_0 := (HB.out.cell (World.block_lt_of_cell? w _ hx399_0)).trans hx399_0
          replace hx399_1 := (HB.out.cell (World.block_lt_of_cell? w _ hx399_1)).trans hx399_1
          replace hx399_2 := (HB.out.cell (World.block_lt_of_cell? w _ hx399_2)).trans hx399_2
          replace hx399_3 := (HB.out.cell (World.block_lt_of_cell? w _ hx399_3)).trans hx399_3
          replace hx399_4 := (HB.out.cell (World.block_lt_of_cell? w _ hx399_4)).trans hx399_4
          try (have e_ := Option.some.inj (hx388_4.symm.trans hx399_4); injection e_ with ea_ eb_ ec_; rw [ea_, ec_] at hx388_4; clear ea_ eb_ ec_)
          have HR399_4 := Aside0.mk hi399_4
          have HC399_4 := Aside0.mk hl399_4
          clear hi399_4 hl399_4
          replace p399 := eq_true p399
          replace q399 := eq_true q399
          have hcz73_0 : wc.cell? ⟨gb392, 0, none⟩ = some (.int .i64 ((rd_T35 l0 a1).f0)) := (blk_cell BK392.out 0).trans rfl
          have hcz73_1 : wc.cell? ⟨gb392, 1, none⟩ = some (.int .i64 ((rd_T35 l0 a1).f1)) := (blk_cell BK392.out 1).trans rfl
          have hcz73_2 : wc.cell? ⟨gb392, 2, none⟩ = some (.string ((rd_T35 l0 a1).f2)) := (blk_cell BK392.out 2).trans rfl
          have hcz73_3 : wc.cell? ⟨gb392, 3, none⟩ = some (.string ((rd_T35 l0 a1).f3)) := (blk_cell BK392.out 3).trans rfl
          have hcz73_4 : wc.cell? ⟨gb392, 4, none⟩ = some (.slice A388_4 ((rd_T35 l0 a1).f4).length c388_4) := (blk_cell BK392.out 4).trans rfl
          have hfz73_0 := blk_frozen BK392.out 0
          have hfz73_1 := blk_frozen BK392.out 1
          have hfz73_2 := blk_frozen BK392.out 2
          have hfz73_3 := blk_frozen BK392.out 3
          have hfz73_4 := blk_frozen BK392.out 4
          go_wp2_with (first | ((with_reducible refine gate_callee (f := 57) rfl ?_); refine goesL_ (some 61) rfl rfl Tryd.func57 (by kernel_rfl) rfl #[.string ((rd_T35 l0 a1).f2)] rfl y14_ ?_; (with_reducible refine (names_Soft.calls kj48 ((rd_T35 l0 a1).f2) false _ A60.out).mono ?_); rintro e w74 ⟨rfl, hb⟩; refine ⟨_, rfl, ?_⟩; have n0_ := Aside0.mk (Kd.R_below (y10_ HO_6.out) hb); have n1_ := Aside0.mk (blk_below (g := gb392) (o := .cells #[.int .i64 ((rd_T35 l0 a1).f0), .int .i64 ((rd_T35 l0 a1).f1), .string ((rd_T35 l0 a1).f2), .string ((rd_T35 l0 a1).f3), .slice A388_4 ((rd_T35 l0 a1).f4).length c388_4] 35 (0, 0)) (y11_ BK392.out) hb); have n2_ := Aside0.mk (below_step (y19_ GE392.out) hb); clear HO_6; clear BK392; clear HB; have HO_6 := n0_; have BK392 := n1_; have HB := n2_; clear n0_ n1_ n2_; (try clear hb); (try clear hb2); (try clear hk); (try clear hi)) | (go_at_call 51; (with_reducible refine (strings_Contains.calls ((rd_T35 l0 (rd t389 0)).f3) (⟨#[60, 47]⟩ : ByteArray) false _ A65.out).mono ?_); rintro e w75 ⟨rfl, hb⟩; have n0_ := Aside0.mk (Kd.R_below (y10_ HO_6.out) hb); have n1_ := Aside0.mk (blk_below (g := gb392) (o := .cells #[.int .i64 ((rd_T35 l0 a1).f0), .int .i64 ((rd_T35 l0 a1).f1), .string ((rd_T35 l0 a1).f2), .string ((rd_T35 l0 a1).f3), .slice A388_4 ((rd_T35 l0 a1).f4).length c388_4] 35 (0, 0)) (y11_ BK392.out) hb); have n2_ := Aside0.mk (below_step (y19_ GE392.out) hb); clear HO_6; clear BK392; clear HB; have HO_6 := n0_; have BK392 := n1_; have HB := n2_; clear n0_ n1_ n2_; (try clear hb); (try clear hb2); (try clear hk); (try clear hi)) | (go_at_call 58; (with_reducible refine (strings_HasSuffix.calls ((rd_T35 l0 (rd t389 0)).f3) (⟨#[60]⟩ : ByteArray) t402 _ A71.out).mono ?_); rintro e w' ⟨rfl, ⟨nd, rfl⟩⟩))
          go_ret
          exact ⟨y12_, (y19_ GE392.out)⟩
end Go.Proofs.YtpnhjipaeggcpaaDoor.X
end
section
namespace Go.Proofs.YtpnhjipaeggcpaaDoor.X
open Go.RowKit Go.Proofs.YtpnhjipaeggcpaaDoorW.PrintWords Go.Proofs.YtpnhjipaeggcpaaDoorW.PrintLast Go.Proofs.YtpnhjipaeggcpaaDoorW.PrintMore
attribute [local go_sem] max2_int min2_int max_two min_two max_three min_three max_four min_four
mutual
def write_Legal.j0 : Nat → List (S35) → Bool → Option (Bool)
 | 0, _, _ => none
 | k + 1, x0, x15 => if x15 = true then (some false) else (write_Legal.l0 k x0 ([] : List ByteArray) x0 (x0.length : Int) 0)
def write_Legal.l0 : Nat → List (S35) → List ByteArray → List (S35) → Int → Int → Option (Bool)
 | 0, _, _, _, _, _ => none
 | k + 1, x0, x3, x16, x17, x18 => if x18 < x17 then (if 0 ≤ x18 then (if x18 < (x16.length : Int) then (if 0 ≤ (mn (x3.length : Int) ((rd_T35 x16 x18).f0)) then (if (mn (x3.length : Int) ((rd_T35 x16 x18).f0)) ≤ (x3.length : Int) then ((some (x3.take ((mn (x3.length : Int) ((rd_T35 x16 x18).f0)) : Int).toNat : List ByteArray)).bind fun y410 => (if ((rd_T35 x16 x18).f1) = 1 then ((write_clean.f ((rd_T35 x16 x18).f3)).bind fun t413 => (if t413 = true then (write_Legal.l0 k x0 y410 x16 x17 (wrap64 (x18 + 1))) else (some false))) else (if ((rd_T35 x16 x18).f1) = 2 then ((write_comment.f ((rd_T35 x16 x18).f3)).bind fun t414 => (if t414 = true then (write_Legal.l0 k x0 y410 x16 x17 (wrap64 (x18 + 1))) else (some false))) else ((write_element.f k ((rd_T35 x16 x18).f0) ((rd_T35 x16 x18).f1) ((rd_T35 x16 x18).f2) ((rd_T35 x16 x18).f3) ((rd_T35 x16 x18).f4) y410).bind fun t415 => (if t415 = true then ((write_within.f k x0 x18).bind fun t416 => (if t416 = true then (if y410.length < 8796093022208 then (write_Legal.l0 k x0 (y410 ++ [(rd_T35 x16 x18).f2]) x16 x17 (wrap64 (x18 + 1))) else (none)) else (some false))) else (some false)))))) else (none)) else (none)) else (none)) else (none)) else (some true)
end
def write_Legal.f (k : Nat) (l0 : List (S35)) : Option (Bool) := (rows_Check.f k l0).bind fun t403 => (if t403 = 0 then ((rows_Normal.f l0).bind fun t404 => ((rows_Same.f t404 l0).bind fun t407 => (write_Legal.j0 k l0 (!t407)))) else (write_Legal.j0 k l0 true))
set_option maxHeartbeats 8000000 in
set_option maxRecDepth 100000 in
theorem write_Legal.calls (k : Nat) (A0 : Option Addr) (c0 : Nat) (l0 : List (S35)) (r : Bool) (w : World) (hr0 : Kd.C k35 w A0 l0.length l0) (hc0 : l0.length ≤ c0) (h : write_Legal.f k l0 = some r) (hT : WF w := by exact WF.below hT y23_) :
  Calls Tryd.prog 16 #[.slice A0 l0.length c0] w fun e w' => e = .returned (.bool r) ∧ Below w.heap.size w w' := by
 have hu35 := Tryd.underlying35
 have HR0 := Aside0.mk hr0
 have HC0 := Aside0.mk hc0
 clear hr0 hc0
 have HB := Aside0.mk (Below.refl w.heap.size w)
 have H : ((rows_Check.f k l0).bind fun t403 => (if t403 = 0 then ((rows_Normal.f l0).bind fun t404 => ((rows_Same.f t404 l0).bind fun t407 => (write_Legal.j0 k l0 (!t407)))) else (write_Legal.j0 k l0 true))) = some r := h
 clear h
 have HC2 := Aside0.mk H
 clear H
 go_enter Tryd.func16, Tryd.ntmps16
 go_upto_region 1 with (fail)
 go_cut [15] (fun v15 wc => ∃ (kq : Nat) (x15_1 : Bool), v15 = .bool x15_1 ∧ Aside0 (write_Legal.j0 kq l0 x15_1 = some r) ∧ Aside0 (kq ≤ k) ∧ Aside0 (Below w.heap.size w wc))
 case first =>
  have H := HC2.out
  clear HC2
  replace H := Option.bind_eq_some_iff.mp H
  obtain ⟨t403, A30, H⟩ := H
  have A3 := Aside0.mk A30
  clear A30
  by_cases c4 : t403 = 0
  ·rw [if_pos c4] at H
   have c4b0 : (t403 == 0) = true := beq_iff_eq.mpr c4
   have c4b1 : (t403 != 0) = false := bne_eq_false_iff_eq.mpr c4
   clear c4
   (first | rw [c4b0] | (simp only [i64_w, i32_w]; rw [c4b0]) | skip)
   replace H := Option.bind_eq_some_iff.mp H
   obtain ⟨t404, A50, H⟩ := H
   have A5 := Aside0.mk A50
   clear A50
   replace H := Option.bind_eq_some_iff.mp H
   obtain ⟨t407, A60, H⟩ := H
   have A6 := Aside0.mk A60
   clear A60
   have H' := Aside0.mk H
   clear H
   go_wp2_with (first | ((with_reducible refine gate_callee (f := 27) rfl ?_); refine goesL_ (some 7) rfl rfl Tryd.func27 (by kernel_rfl) rfl #[.slice A0 l0.length c0] rfl y14_ ?_; (with_reducible refine (rows_Check.calls k _ _ l0 t403 _ ?side1 ?side2 A3.out).mono ?_); (case side1 => repeat (first | exact (Kd.C_below HR0.out HB.out) | (with_reducible refine Kd.C_alloc ?_ _) | (with_reducible refine Kd.C_drewN ?_ _) | (with_reducible refine Kd.C_drew ?_))); (case side2 => exact HC0.out); rintro e w7 ⟨rfl, hb⟩; refine ⟨_, rfl, ?_⟩; have n0_ := Aside0.mk (below_step y13_ hb); clear HB; have HB := n0_; clear n0_; (try clear hb); (try clear hb2); (try clear hk); (try clear hi)) | (go_at_call 29; (with_reducible refine (rows_Normal.calls _ _ l0 t404 _ ?side1 ?side2 A5.out).mono ?_); (case side1 => repeat (first | exact (Kd.C_below HR0.out HB.out) | (with_reducible refine Kd.C_alloc ?_ _) | (with_reducible refine Kd.C_drewN ?_ _) | (with_reducible refine Kd.C_drew ?_))); (case side2 => exact HC0.out); rintro e w8 ⟨v405, rfl, ho0, hb⟩; have n0_ := Aside0.mk (Kd.S_lower ho0 (below_size y13_)); have n1_ := Aside0.mk (below_step y13_ hb); clear HB; have HO406 := n0_; have HB := n1_; clear n0_ n1_; (try clear hb); (try clear hb2); (try clear hk); (try clear hi); (try clear ho0); obtain ⟨Ao9, co9, eo9⟩ := Kd.S_slice HO406.out; subst eo9) | (go_at_call 28; (with_reducible refine (rows_Same.calls _ _ t404 _ _ l0 t407 _ ?side1 ?side2 ?side3 ?side4 A6.out).mono ?_); (case side1 => repeat (first | exact (Kd.S_reads' HO406.out).2.2 | (with_reducible refine Kd.C_alloc ?_ _) | (with_reducible refine Kd.C_drewN ?_ _) | (with_reducible refine Kd.C_drew ?_))); (case side2 => exact (Kd.S_reads' HO406.out).2.1); (case side3 => repeat (first | exact (Kd.C_below HR0.out HB.out) | (with_reducible refine Kd.C_alloc ?_ _) | (with_reducible refine Kd.C_drewN ?_ _) | (with_reducible refine Kd.C_drew ?_))); (case side4 => exact HC0.out); rintro e w10 ⟨rfl, hb⟩; have n0_ := Aside0.mk (Kd.S_below (y9_ HO406.out) hb); have n1_ := Aside0.mk (below_step y13_ hb); clear HO406; clear HB; have HO406 := n0_; have HB := n1_; clear n0_ n1_; (try clear hb); (try clear hb2); (try clear hk); (try clear hi)))
   go_meet
   case rel => exact ⟨_, (!t407), y4_, H', ⟨y1_⟩, ⟨y13_⟩⟩
  ·rw [if_neg c4] at H
   have c4b0 : (t403 == 0) = false := beq_eq_false_iff_ne.mpr c4
   have c4b1 : (t403 != 0) = true := bne_iff_ne.mpr c4
   (first | rw [c4b0] | (simp only [i64_w, i32_w]; rw [c4b0]) | skip)
   have H' := Aside0.mk H
   clear H
   go_wp2_with (first | ((with_reducible refine gate_callee (f := 27) rfl ?_); refine goesL_ (some 7) rfl rfl Tryd.func27 (by kernel_rfl) rfl #[.slice A0 l0.length c0] rfl y14_ ?_; (with_reducible refine (rows_Check.calls k _ _ l0 t403 _ ?side1 ?side2 A3.out).mono ?_); (case side1 => repeat (first | exact (Kd.C_below HR0.out HB.out) | (with_reducible refine Kd.C_alloc ?_ _) | (with_reducible refine Kd.C_drewN ?_ _) | (with_reducible refine Kd.C_drew ?_))); (case side2 => exact HC0.out); rintro e w11 ⟨rfl, hb⟩; refine ⟨_, rfl, ?_⟩; have n0_ := Aside0.mk (below_step y13_ hb); clear HB; have HB := n0_; clear n0_; (try clear hb); (try clear hb2); (try clear hk); (try clear hi)))
   go_meet
   case rel => exact ⟨_, (true), y4_, H', ⟨y1_⟩, ⟨y13_⟩⟩
 case rest =>
  clear HC2
  try clear c1
  try clear c2
  try clear p2
  try clear c4
  try clear c4b0
  try clear c4b1
  obtain ⟨kq, x15_1, rfl, HA, HJ1, HB⟩ := hcut
  cases kq with
  | zero => exact absurd HA.out (by simp [write_Legal.j0])
  | succ kj1 =>
   have H := HA.out
   clear HA
   simp only [write_Legal.j0] at H
   by_cases c12 : x15_1 = true
   ·subst c12
    rw [if_pos rfl] at H
    obtain rfl := Option.some.inj H
    go_wp2
    go_ret
    exact ⟨y12_, y13_⟩
   ·replace c12 := Bool.eq_false_iff.mpr c12
    subst c12
    rw [if_neg (show ¬ (false = true) by decide)] at H
    have H' := Aside0.mk H
    clear H
    go_wp2
    go_loopg [3, 18] kj1 (fun kq v3 v18 w' => ∃ (x3_2 : List ByteArray) (x18_2 : Int), v18 = .int .i64 x18_2 ∧ Aside0 (write_Legal.l0 kq l0 x3_2 l0 (l0.length : Int) x18_2 = some r) ∧ Aside0 (kq ≤ kj1) ∧ Aside0 (Kd.R Kd.string 9 w' w.heap.size (fun _ => True) v3 x3_2) ∧ Aside0 (Below w.heap.size w w'))
    case atStart => exact ⟨(([] : List ByteArray)), (0), y4_, H', ⟨Nat.le_refl _⟩, ⟨y15_⟩, ⟨y13_⟩⟩
    case round =>
     clear H'
     try clear c1
     try clear c2
     try clear p2
     try clear c4
     try clear c4b0
     try clear c4b1
     try clear c12
     try clear p2
     obtain ⟨x3_2, x18_2, rfl, HA, HK2, HO_3, HB⟩ := hrel
     cases gk with
     | zero => exact absurd HA.out (by simp [write_Legal.l0])
     | succ k2 =>
      have H := HA.out
      clear HA
      simp only [write_Legal.l0] at H
      by_cases c13 : x18_2 < (l0.length : Int)
      ·rw [if_pos c13] at H
       have c13b0 : decide (x18_2 < (l0.length : Int)) = true := decide_eq_true c13
       clear c13
       by_cases c14 : 0 ≤ x18_2
       rotate_left
       ·rw [if_neg c14] at H
        exact absurd H (by simp)
       rw [if_pos c14] at H
       have c14b0 : decide (0 ≤ x18_2) = true := decide_eq_true c14
       clear c14
       by_cases c15 : x18_2 < (l0.length : Int)
       rotate_left
       ·rw [if_neg c15] at H
        exact absurd H (by simp)
       rw [if_pos c15] at H
       have c15b0 : decide (x18_2 < (l0.length : Int)) = true := decide_eq_true c15
       clear c15
       obtain ⟨ji16, hji16⟩ : ∃ j_ : Int, (mn (x3_2.length : Int) ((rd_T35 l0 x18_2).f0)) = j_ := ⟨_, rfl⟩
       replace H : (if 0 ≤ (ji16) then (if (ji16) ≤ (x3_2.length : Int) then ((some (x3_2.take ((ji16) : Int).toNat : List ByteArray)).bind fun y410 => (if ((rd_T35 l0 x18_2).f1) = 1 then ((write_clean.f ((rd_T35 l0 x18_2).f3)).bind fun t413 => (if t413 = true then (write_Legal.l0 k2 l0 y410 l0 (l0.length : Int) (wrap64 (x18_2 + 1))) else (some false))) else (if ((rd_T35 l0 x18_2).f1) = 2 then ((write_comment.f ((rd_T35 l0 x18_2).f3)).bind fun t414 => (if t414 = true then (write_Legal.l0 k2 l0 y410 l0 (l0.length : Int) (wrap64 (x18_2 + 1))) else (some false))) else ((write_element.f k2 ((rd_T35 l0 x18_2).f0) ((rd_T35 l0 x18_2).f1) ((rd_T35 l0 x18_2).f2) ((rd_T35 l0 x18_2).f3) ((rd_T35 l0 x18_2).f4) y410).bind fun t415 => (if t415 = true then ((write_within.f k2 l0 x18_2).bind fun t416 => (if t416 = true then (if y410.length < 8796093022208 then (write_Legal.l0 k2 l0 (y410 ++ [(rd_T35 l0 x18_2).f2]) l0 (l0.length : Int) (wrap64 (x18_2 + 1))) else (none)) else (some false))) else (some false)))))) else (none)) else (none)) = some r := by first | (rw [hji16] at H; exact H) | (simp only [hji16] at H ⊢; exact H)
       have hji16_ : (if ((rd_T35 l0 x18_2).f0) < (x3_2.length : Int) then ((rd_T35 l0 x18_2).f0) else (x3_2.length : Int)) = ji16 := hji16
       by_cases c17 : 0 ≤ (ji16)
       rotate_left
       ·rw [if_neg c17] at H
        exact absurd H (by simp)
       rw [if_pos c17] at H
       have c17b0 := eq_true c17
       have c17b1 : decide (0 ≤ (ji16)) = true := decide_eq_true c17
       clear c17
       by_cases c18 : (ji16) ≤ (x3_2.length : Int)
       rotate_left
       ·rw [if_neg c18] at H
        exact absurd H (by simp)
       rw [if_pos c18] at H
       have c18b0 := eq_true c18
       have c18b1 : decide ((ji16) ≤ (x3_2.length : Int)) = true := decide_eq_true c18
       clear c18
       obtain ⟨y410, hy410⟩ : ∃ y_ : List ByteArray, y_ = (x3_2.take ((ji16) : Int).toNat) := ⟨_, rfl⟩
       replace H : (if ((rd_T35 l0 x18_2).f1) = 1 then ((write_clean.f ((rd_T35 l0 x18_2).f3)).bind fun t413 => (if t413 = true then (write_Legal.l0 k2 l0 y410 l0 (l0.length : Int) (wrap64 (x18_2 + 1))) else (some false))) else (if ((rd_T35 l0 x18_2).f1) = 2 then ((write_comment.f ((rd_T35 l0 x18_2).f3)).bind fun t414 => (if t414 = true then (write_Legal.l0 k2 l0 y410 l0 (l0.length : Int) (wrap64 (x18_2 + 1))) else (some false))) else ((write_element.f k2 ((rd_T35 l0 x18_2).f0) ((rd_T35 l0 x18_2).f1) ((rd_T35 l0 x18_2).f2) ((rd_T35 l0 x18_2).f3) ((rd_T35 l0 x18_2).f4) y410).bind fun t415 => (if t415 = true then ((write_within.f k2 l0 x18_2).bind fun t416 => (if t416 = true then (if y410.length < 8796093022208 then (write_Legal.l0 k2 l0 (y410 ++ [(rd_T35 l0 x18_2).f2]) l0 (l0.length : Int) (wrap64 (x18_2 + 1))) else (none)) else (some false))) else (some false))))) = some r := by first | (rw [hy410]; with_reducible exact H) | (have H2_ := (Option.bind_some _ _).symm.trans H; rw [hy410]; with_reducible exact H2_) | (have H2_ := (Option.bind_some _ _).symm.trans H; with_reducible exact H2_) | with_reducible exact H | (rw [hy410]; exact H) | exact H
       have Ny410 := Aside0.mk hy410
       clear hy410
       by_cases c19 : ((rd_T35 l0 x18_2).f1) = 1
       ·rw [if_pos c19] at H
        have c19b0 : (((rd_T35 l0 x18_2).f1) == 1) = true := beq_iff_eq.mpr c19
        have c19b1 : (((rd_T35 l0 x18_2).f1) != 1) = false := bne_eq_false_iff_eq.mpr c19
        clear c19
        replace H := Option.bind_eq_some_iff.mp H
        obtain ⟨t413, A200, H⟩ := H
        have A20 := Aside0.mk A200
        clear A200
        by_cases c21 : t413 = true
        ·subst c21
         rw [if_pos rfl] at H
         have H' := Aside0.mk H
         clear H
         have p408 : 0 ≤ (x18_2 : Int) := of_decide_eq_true y2_
         have q408 : x18_2 < (l0.length : Int) := of_decide_eq_true y2_
         obtain ⟨ad408, A408_4, c408_4, e408, hx408_0, hx408_1, hx408_2, hx408_3, hx408_4, hl408_4, hi408_4⟩ := at_T35 HR0.out x18_2 p408 q408
         cases e408
         replace hx408_0 := (HB.out.cell (World.block_lt_of_cell? w _ hx408_0)).trans hx408_0
         replace hx408_1 := (HB.out.cell (World.block_lt_of_cell? w _ hx408_1)).trans hx408_1
         replace hx408_2 := (HB.out.cell (World.block_lt_of_cell? w _ hx408_2)).trans hx408_2
         replace hx408_3 := (HB.out.cell (World.block_lt_of_cell? w _ hx408_3)).trans hx408_3
         replace hx408_4 := (HB.out.cell (World.block_lt_of_cell? w _ hx408_4)).trans hx408_4
         have HR408_4 := Aside0.mk hi408_4
         have HC408_4 := Aside0.mk hl408_4
         clear hi408_4 hl408_4
         replace p408 := eq_true p408
         replace q408 := eq_true q408
         go_wp2_with (first | ((with_reducible refine gate_dst (N := 5) rfl ?_); refine box_event ?hg (N := 5) ?hd (cs := #[.int .i64 0, .int .i64 0, .string (⟨#[]⟩ : ByteArray), .string (⟨#[]⟩ : ByteArray), .slice none 0 0]) (t := 35) ?hr ?_; (case hd => rfl); (case hg => rfl); (case hr => first | (go_simp; done) | (go_simp; rfl)); intro gb409 hg w22 hbox hb; have n0_ := Aside0.mk (Kd.R_below (y10_ HO_3.out) hb); have n1_ := Aside0.mk (below_step y13_ hb); have n2_ := Aside0.mk (hbox); have n3_ := Aside0.mk ((by rw [hg]; exact (below_size y13_) : w.heap.size ≤ gb409)); have n4_ := Aside0.mk ((by rw [hg]; exact (below_size y13_) : w.heap.size ≤ gb409)); clear HO_3; clear HB; have HO_3 := n0_; have HB := n1_; have BK409 := n2_; have GW409 := n3_; have GE409 := n4_; clear n0_ n1_ n2_ n3_ n4_; clear hb hbox hg; have hcz23_0 : w22.cell? ⟨gb409, 0, none⟩ = some (.int .i64 0) := (blk_cell BK409.out 0).trans rfl; have hcz23_1 : w22.cell? ⟨gb409, 1, none⟩ = some (.int .i64 0) := (blk_cell BK409.out 1).trans rfl; have hcz23_2 : w22.cell? ⟨gb409, 2, none⟩ = some (.string (⟨#[]⟩ : ByteArray)) := (blk_cell BK409.out 2).trans rfl; have hcz23_3 : w22.cell? ⟨gb409, 3, none⟩ = some (.string (⟨#[]⟩ : ByteArray)) := (blk_cell BK409.out 3).trans rfl; have hcz23_4 : w22.cell? ⟨gb409, 4, none⟩ = some (.slice none 0 0) := (blk_cell BK409.out 4).trans rfl; have hfz23_0 := blk_frozen BK409.out 0; have hfz23_1 := blk_frozen BK409.out 1; have hfz23_2 := blk_frozen BK409.out 2; have hfz23_3 := blk_frozen BK409.out 3; have hfz23_4 := blk_frozen BK409.out 4) | ((with_reducible refine gate_store (t := 35) (p := 5) rfl ?_); refine store_event (t := 35) (p := 5) (v := ?vo_w24) (w1 := (((((w22.setCell ⟨gb409, 0, none⟩ (.int .i64 ((rd_T35 l0 x18_2).f0))).setCell ⟨gb409, 1, none⟩ (.int .i64 ((rd_T35 l0 x18_2).f1))).setCell ⟨gb409, 2, none⟩ (.string ((rd_T35 l0 x18_2).f2))).setCell ⟨gb409, 3, none⟩ (.string ((rd_T35 l0 x18_2).f3))).setCell ⟨gb409, 4, none⟩ (.slice A408_4 ((rd_T35 l0 x18_2).f4).length c408_4))) ?hg ?ho ?hn ?hr ?_; (case ho => rfl); (case hg => rfl); (case hn => rfl); (case hr => first | (go_simp; done) | (go_simp; rfl)); intro w24 hw; have n0_ : Aside0 (Kd.R Kd.string 9 w24 w.heap.size (fun _ => True) u3 x3_2) := ⟨(by rw [hw]; exact (by (with_reducible repeat (first | apply Kd.R_alloc | apply Kd.R_drewN | apply Kd.R_drew)); exact Kd.R_mono (Kd.R_far (p := ⟨gb409, 4, none⟩) (Kd.R_far (p := ⟨gb409, 3, none⟩) (Kd.R_far (p := ⟨gb409, 2, none⟩) (Kd.R_far (p := ⟨gb409, 1, none⟩) (Kd.R_far (p := ⟨gb409, 0, none⟩) (Kd.R_types HO_3.out BK409.out (by decide)) (fun _ hk => hk.2) (.int .i64 ((rd_T35 l0 x18_2).f0))) (fun _ hk => hk.2) (.int .i64 ((rd_T35 l0 x18_2).f1))) (fun _ hk => hk.2) (.string ((rd_T35 l0 x18_2).f2))) (fun _ hk => hk.2) (.string ((rd_T35 l0 x18_2).f3))) (fun _ hk => hk.2) (.slice A408_4 ((rd_T35 l0 x18_2).f4).length c408_4)) (fun _ hk => trivial)))⟩; have n1_ : Aside0 (w24.heap[gb409]? = some (.cells #[.int .i64 ((rd_T35 l0 x18_2).f0), .int .i64 ((rd_T35 l0 x18_2).f1), .string ((rd_T35 l0 x18_2).f2), .string ((rd_T35 l0 x18_2).f3), .slice A408_4 ((rd_T35 l0 x18_2).f4).length c408_4] 35 (0, 0))) := ⟨(by rw [hw]; exact (y35_ BK409.out))⟩; have n2_ : Aside0 (Below w.heap.size w w24) := ⟨(by rw [hw]; exact (y19_ GE409.out))⟩; clear hw; clear HO_3; clear BK409; clear HB; have HO_3 := n0_; have BK409 := n1_; have HB := n2_; clear n0_ n1_ n2_; obtain ⟨Ao25, co25, eo25⟩ := Kd.R_slice HO_3.out; subst eo25; have hcz26_0 : w24.cell? ⟨gb409, 0, none⟩ = some (.int .i64 ((rd_T35 l0 x18_2).f0)) := (blk_cell BK409.out 0).trans rfl; have hcz26_1 : w24.cell? ⟨gb409, 1, none⟩ = some (.int .i64 ((rd_T35 l0 x18_2).f1)) := (blk_cell BK409.out 1).trans rfl; have hcz26_2 : w24.cell? ⟨gb409, 2, none⟩ = some (.string ((rd_T35 l0 x18_2).f2)) := (blk_cell BK409.out 2).trans rfl; have hcz26_3 : w24.cell? ⟨gb409, 3, none⟩ = some (.string ((rd_T35 l0 x18_2).f3)) := (blk_cell BK409.out 3).trans rfl; have hcz26_4 : w24.cell? ⟨gb409, 4, none⟩ = some (.slice A408_4 ((rd_T35 l0 x18_2).f4).length c408_4) := (blk_cell BK409.out 4).trans rfl; have hfz26_0 := blk_frozen BK409.out 0; have hfz26_1 := blk_frozen BK409.out 1; have hfz26_2 := blk_frozen BK409.out 2; have hfz26_3 := blk_frozen BK409.out 3; have hfz26_4 := blk_frozen BK409.out 4; have q27 : ((ji16) : Int) ≤ ((x3_2.length : Int) : Int) := of_decide_eq_true y2_; obtain ⟨i027, hi027, _, hsz27, _⟩ := info_parts info9; have hcut27 := cut_to (P := Tryd.prog) 43 9 .i64 Tryd.underlying43 hi027 Ao25 x3_2.length co25 (ji16) (of_decide_eq_true y2_) q27 (Kd.R_reads' HO_3.out).2.1; have hr27 := Kd.R_take (m := ((ji16) : Int).toNat) HO_3.out (by omega); have hy27 : y410.length = ((ji16) : Int).toNat := (y0_ Ny410.out); rw [← Ny410.out] at hr27; rw [← hy27] at hr27 hcut27; clear hy27 hi027 hsz27 HO_3; have HO412 := Aside0.mk hr27; clear hr27; replace q27 := eq_true q27) | ((with_reducible refine gate_callee (f := 30) rfl ?_); refine goesL_ (some 51) rfl rfl Tryd.func30 (by kernel_rfl) rfl #[.string ((rd_T35 l0 x18_2).f3)] rfl y14_ ?_; (with_reducible refine (write_clean.calls ((rd_T35 l0 x18_2).f3) true _ A20.out).mono ?_); rintro e w28 ⟨rfl, hb⟩; refine ⟨_, rfl, ?_⟩; have n0_ := Aside0.mk (Kd.R_below (y10_ HO412.out) hb); have n1_ := Aside0.mk (blk_below (g := gb409) (o := .cells #[.int .i64 ((rd_T35 l0 x18_2).f0), .int .i64 ((rd_T35 l0 x18_2).f1), .string ((rd_T35 l0 x18_2).f2), .string ((rd_T35 l0 x18_2).f3), .slice A408_4 ((rd_T35 l0 x18_2).f4).length c408_4] 35 (0, 0)) (y11_ BK409.out) hb); have n2_ := Aside0.mk (below_step (y19_ GE409.out) hb); clear HO412; clear BK409; clear HB; have HO412 := n0_; have BK409 := n1_; have HB := n2_; clear n0_ n1_ n2_; (try clear hb); (try clear hb2); (try clear hk); (try clear hi)))
         go_roundg k2
         case measure => have := HJ1.out; have := HK2.out; omega
         case rel => exact ⟨(y410), (wrap64 (x18_2 + 1)), y4_, H', ⟨by have := HJ1.out; have := HK2.out; omega⟩, ⟨by (with_reducible repeat (first | apply Kd.R_alloc | apply Kd.R_drewN | apply Kd.R_drew)); exact HO412.out⟩, ⟨(y19_ GE409.out)⟩⟩
        ·replace c21 := Bool.eq_false_iff.mpr c21
         subst c21
         rw [if_neg (show ¬ (false = true) by decide)] at H
         obtain rfl := Option.some.inj H
         have p408 : 0 ≤ (x18_2 : Int) := of_decide_eq_true y2_
         have q408 : x18_2 < (l0.length : Int) := of_decide_eq_true y2_
         obtain ⟨ad408, A408_4, c408_4, e408, hx408_0, hx408_1, hx408_2, hx408_3, hx408_4, hl408_4, hi408_4⟩ := at_T35 HR0.out x18_2 p408 q408
         cases e408
         replace hx408_0 := (HB.out.cell (World.block_lt_of_cell? w _ hx408_0)).trans hx408_0
         replace hx408_1 := (HB.out.cell (World.block_lt_of_cell? w _ hx408_1)).trans hx408_1
         replace hx408_2 := (HB.out.cell (World.block_lt_of_cell? w _ hx408_2)).trans hx408_2
         replace hx408_3 := (HB.out.cell (World.block_lt_of_cell? w _ hx408_3)).trans hx408_3
         replace hx408_4 := (HB.out.cell (World.block_lt_of_cell? w _ hx408_4)).trans hx408_4
         have HR408_4 := Aside0.mk hi408_4
         have HC408_4 := Aside0.mk hl408_4
         clear hi408_4 hl408_4
         replace p408 := eq_true p408
         replace q408 := eq_true q408
         go_wp2_with (first | ((with_reducible refine gate_dst (N := 5) rfl ?_); refine box_event ?hg (N := 5) ?hd (cs := #[.int .i64 0, .int .i64 0, .string (⟨#[]⟩ : ByteArray), .string (⟨#[]⟩ : ByteArray), .slice none 0 0]) (t := 35) ?hr ?_; (case hd => rfl); (case hg => rfl); (case hr => first | (go_simp; done) | (go_simp; rfl)); intro gb409 hg w29 hbox hb; have n0_ := Aside0.mk (Kd.R_below (y10_ HO_3.out) hb); have n1_ := Aside0.mk (below_step y13_ hb); have n2_ := Aside0.mk (hbox); have n3_ := Aside0.mk ((by rw [hg]; exact (below_size y13_) : w.heap.size ≤ gb409)); have n4_ := Aside0.mk ((by rw [hg]; exact (below_size y13_) : w.heap.size ≤ gb409)); clear HO_3; clear HB; have HO_3 := n0_; have HB := n1_; have BK409 := n2_; have GW409 := n3_; have GE409 := n4_; clear n0_ n1_ n2_ n3_ n4_; clear hb hbox hg; have hcz30_0 : w29.cell? ⟨gb409, 0, none⟩ = some (.int .i64 0) := (blk_cell BK409.out 0).trans rfl; have hcz30_1 : w29.cell? ⟨gb409, 1, none⟩ = some (.int .i64 0) := (blk_cell BK409.out 1).trans rfl; have hcz30_2 : w29.cell? ⟨gb409, 2, none⟩ = some (.string (⟨#[]⟩ : ByteArray)) := (blk_cell BK409.out 2).trans rfl; have hcz30_3 : w29.cell? ⟨gb409, 3, none⟩ = some (.string (⟨#[]⟩ : ByteArray)) := (blk_cell BK409.out 3).trans rfl; have hcz30_4 : w29.cell? ⟨gb409, 4, none⟩ = some (.slice none 0 0) := (blk_cell BK409.out 4).trans rfl; have hfz30_0 := blk_frozen BK409.out 0; have hfz30_1 := blk_frozen BK409.out 1; have hfz30_2 := blk_frozen BK409.out 2; have hfz30_3 := blk_frozen BK409.out 3; have hfz30_4 := blk_frozen BK409.out 4) | ((with_reducible refine gate_store (t := 35) (p := 5) rfl ?_); refine store_event (t := 35) (p := 5) (v := ?vo_w31) (w1 := (((((w29.setCell ⟨gb409, 0, none⟩ (.int .i64 ((rd_T35 l0 x18_2).f0))).setCell ⟨gb409, 1, none⟩ (.int .i64 ((rd_T35 l0 x18_2).f1))).setCell ⟨gb409, 2, none⟩ (.string ((rd_T35 l0 x18_2).f2))).setCell ⟨gb409, 3, none⟩ (.string ((rd_T35 l0 x18_2).f3))).setCell ⟨gb409, 4, none⟩ (.slice A408_4 ((rd_T35 l0 x18_2).f4).length c408_4))) ?hg ?ho ?hn ?hr ?_; (case ho => rfl); (case hg => rfl); (case hn => rfl); (case hr => first | (go_simp; done) | (go_simp; rfl)); intro w31 hw; have n0_ : Aside0 (Kd.R Kd.string 9 w31 w.heap.size (fun _ => True) u3 x3_2) := ⟨(by rw [hw]; exact (by (with_reducible repeat (first | apply Kd.R_alloc | apply Kd.R_drewN | apply Kd.R_drew)); exact Kd.R_mono (Kd.R_far (p := ⟨gb409, 4, none⟩) (Kd.R_far (p := ⟨gb409, 3, none⟩) (Kd.R_far (p := ⟨gb409, 2, none⟩) (Kd.R_far (p := ⟨gb409, 1, none⟩) (Kd.R_far (p := ⟨gb409, 0, none⟩) (Kd.R_types HO_3.out BK409.out (by decide)) (fun _ hk => hk.2) (.int .i64 ((rd_T35 l0 x18_2).f0))) (fun _ hk => hk.2) (.int .i64 ((rd_T35 l0 x18_2).f1))) (fun _ hk => hk.2) (.string ((rd_T35 l0 x18_2).f2))) (fun _ hk => hk.2) (.string ((rd_T35 l0 x18_2).f3))) (fun _ hk => hk.2) (.slice A408_4 ((rd_T35 l0 x18_2).f4).length c408_4)) (fun _ hk => trivial)))⟩; have n1_ : Aside0 (w31.heap[gb409]? = some (.cells #[.int .i64 ((rd_T35 l0 x18_2).f0), .int .i64 ((rd_T35 l0 x18_2).f1), .string ((rd_T35 l0 x18_2).f2), .string ((rd_T35 l0 x18_2).f3), .slice A408_4 ((rd_T35 l0 x18_2).f4).length c408_4] 35 (0, 0))) := ⟨(by rw [hw]; exact (y35_ BK409.out))⟩; have n2_ : Aside0 (Below w.heap.size w w31) := ⟨(by rw [hw]; exact (y19_ GE409.out))⟩; clear hw; clear HO_3; clear BK409; clear HB; have HO_3 := n0_; have BK409 := n1_; have HB := n2_; clear n0_ n1_ n2_; obtain ⟨Ao32, co32, eo32⟩ := Kd.R_slice HO_3.out; subst eo32; have hcz33_0 : w31.cell? ⟨gb409, 0, none⟩ = some (.int .i64 ((rd_T35 l0 x18_2).f0)) := (blk_cell BK409.out 0).trans rfl; have hcz33_1 : w31.cell? ⟨gb409, 1, none⟩ = some (.int .i64 ((rd_T35 l0 x18_2).f1)) := (blk_cell BK409.out 1).trans rfl; have hcz33_2 : w31.cell? ⟨gb409, 2, none⟩ = some (.string ((rd_T35 l0 x18_2).f2)) := (blk_cell BK409.out 2).trans rfl; have hcz33_3 : w31.cell? ⟨gb409, 3, none⟩ = some (.string ((rd_T35 l0 x18_2).f3)) := (blk_cell BK409.out 3).trans rfl; have hcz33_4 : w31.cell? ⟨gb409, 4, none⟩ = some (.slice A408_4 ((rd_T35 l0 x18_2).f4).length c408_4) := (blk_cell BK409.out 4).trans rfl; have hfz33_0 := blk_frozen BK409.out 0; have hfz33_1 := blk_frozen BK409.out 1; have hfz33_2 := blk_frozen BK409.out 2; have hfz33_3 := blk_frozen BK409.out 3; have hfz33_4 := blk_frozen BK409.out 4; have q34 : ((ji16) : Int) ≤ ((x3_2.length : Int) : Int) := of_decide_eq_true y2_; obtain ⟨i034, hi034, _, hsz34, _⟩ := info_parts info9; have hcut34 := cut_to (P := Tryd.prog) 43 9 .i64 Tryd.underlying43 hi034 Ao32 x3_2.length co32 (ji16) (of_decide_eq_true y2_) q34 (Kd.R_reads' HO_3.out).2.1; have hr34 := Kd.R_take (m := ((ji16) : Int).toNat) HO_3.out (by omega); have hy34 : y410.length = ((ji16) : Int).toNat := (y0_ Ny410.out); rw [← Ny410.out] at hr34; rw [← hy34] at hr34 hcut34; clear hy34 hi034 hsz34 HO_3; have HO412 := Aside0.mk hr34; clear hr34; replace q34 := eq_true q34) | ((with_reducible refine gate_callee (f := 30) rfl ?_); refine goesL_ (some 51) rfl rfl Tryd.func30 (by kernel_rfl) rfl #[.string ((rd_T35 l0 x18_2).f3)] rfl y14_ ?_; (with_reducible refine (write_clean.calls ((rd_T35 l0 x18_2).f3) false _ A20.out).mono ?_); rintro e w35 ⟨rfl, hb⟩; refine ⟨_, rfl, ?_⟩; have n0_ := Aside0.mk (Kd.R_below (y10_ HO412.out) hb); have n1_ := Aside0.mk (blk_below (g := gb409) (o := .cells #[.int .i64 ((rd_T35 l0 x18_2).f0), .int .i64 ((rd_T35 l0 x18_2).f1), .string ((rd_T35 l0 x18_2).f2), .string ((rd_T35 l0 x18_2).f3), .slice A408_4 ((rd_T35 l0 x18_2).f4).length c408_4] 35 (0, 0)) (y11_ BK409.out) hb); have n2_ := Aside0.mk (below_step (y19_ GE409.out) hb); clear HO412; clear BK409; clear HB; have HO412 := n0_; have BK409 := n1_; have HB := n2_; clear n0_ n1_ n2_; (try clear hb); (try clear hb2); (try clear hk); (try clear hi)))
         go_ret
         exact ⟨y25_, (y19_ GE409.out)⟩
       ·rw [if_neg c19] at H
        have c19b0 : (((rd_T35 l0 x18_2).f1) == 1) = false := beq_eq_false_iff_ne.mpr c19
        have c19b1 : (((rd_T35 l0 x18_2).f1) != 1) = true := bne_iff_ne.mpr c19
        by_cases c36 : ((rd_T35 l0 x18_2).f1) = 2
        ·rw [if_pos c36] at H
         have c36b0 : (((rd_T35 l0 x18_2).f1) == 2) = true := beq_iff_eq.mpr c36
         have c36b1 : (((rd_T35 l0 x18_2).f1) != 2) = false := bne_eq_false_iff_eq.mpr c36
         clear c36
         replace H := Option.bind_eq_some_iff.mp H
         obtain ⟨t414, A370, H⟩ := H
         have A37 := Aside0.mk A370
         clear A370
         by_cases c38 : t414 = true
         ·subst c38
          rw [if_pos rfl] at H
          have H' := Aside0.mk H
          clear H
          have p408 : 0 ≤ (x18_2 : Int) := of_decide_eq_true y2_
          have q408 : x18_2 < (l0.length : Int) := of_decide_eq_true y2_
          obtain ⟨ad408, A408_4, c408_4, e408, hx408_0, hx408_1, hx408_2, hx408_3, hx408_4, hl408_4, hi408_4⟩ := at_T35 HR0.out x18_2 p408 q408
          cases e408
          replace hx408_0 := (HB.out.cell (World.block_lt_of_cell? w _ hx408_0)).trans hx408_0
          replace hx408_1 := (HB.out.cell (World.block_lt_of_cell? w _ hx408_1)).trans hx408_1
          replace hx408_2 := (HB.out.cell (World.block_lt_of_cell? w _ hx408_2)).trans hx408_2
          replace hx408_3 := (HB.out.cell (World.block_lt_of_cell? w _ hx408_3)).trans hx408_3
          replace hx408_4 := (HB.out.cell (World.block_lt_of_cell? w _ hx408_4)).trans hx408_4
          have HR408_4 := Aside0.mk hi408_4
          have HC408_4 := Aside0.mk hl408_4
          clear hi408_4 hl408_4
          replace p408 := eq_true p408
          replace q408 := eq_true q408
          go_wp2_with (first | ((with_reducible refine gate_dst (N := 5) rfl ?_); refine box_event ?hg (N := 5) ?hd (cs := #[.int .i64 0, .int .i64 0, .string (⟨#[]⟩ : ByteArray), .string (⟨#[]⟩ : ByteArray), .slice none 0 0]) (t := 35) ?hr ?_; (case hd => rfl); (case hg => rfl); (case hr => first | (go_simp; done) | (go_simp; rfl)); intro gb409 hg w39 hbox hb; have n0_ := Aside0.mk (Kd.R_below (y10_ HO_3.out) hb); have n1_ := Aside0.mk (below_step y13_ hb); have n2_ := Aside0.mk (hbox); have n3_ := Aside0.mk ((by rw [hg]; exact (below_size y13_) : w.heap.size ≤ gb409)); have n4_ := Aside0.mk ((by rw [hg]; exact (below_size y13_) : w.heap.size ≤ gb409)); clear HO_3; clear HB; have HO_3 := n0_; have HB := n1_; have BK409 := n2_; have GW409 := n3_; have GE409 := n4_; clear n0_ n1_ n2_ n3_ n4_; clear hb hbox hg; have hcz40_0 : w39.cell? ⟨gb409, 0, none⟩ = some (.int .i64 0) := (blk_cell BK409.out 0).trans rfl; have hcz40_1 : w39.cell? ⟨gb409, 1, none⟩ = some (.int .i64 0) := (blk_cell BK409.out 1).trans rfl; have hcz40_2 : w39.cell? ⟨gb409, 2, none⟩ = some (.string (⟨#[]⟩ : ByteArray)) := (blk_cell BK409.out 2).trans rfl; have hcz40_3 : w39.cell? ⟨gb409, 3, none⟩ = some (.string (⟨#[]⟩ : ByteArray)) := (blk_cell BK409.out 3).trans rfl; have hcz40_4 : w39.cell? ⟨gb409, 4, none⟩ = some (.slice none 0 0) := (blk_cell BK409.out 4).trans rfl; have hfz40_0 := blk_frozen BK409.out 0; have hfz40_1 := blk_frozen BK409.out 1; have hfz40_2 := blk_frozen BK409.out 2; have hfz40_3 := blk_frozen BK409.out 3; have hfz40_4 := blk_frozen BK409.out 4) | ((with_reducible refine gate_store (t := 35) (p := 5) rfl ?_); refine store_event (t := 35) (p := 5) (v := ?vo_w41) (w1 := (((((w39.setCell ⟨gb409, 0, none⟩ (.int .i64 ((rd_T35 l0 x18_2).f0))).setCell ⟨gb409, 1, none⟩ (.int .i64 ((rd_T35 l0 x18_2).f1))).setCell ⟨gb409, 2, none⟩ (.string ((rd_T35 l0 x18_2).f2))).setCell ⟨gb409, 3, none⟩ (.string ((rd_T35 l0 x18_2).f3))).setCell ⟨gb409, 4, none⟩ (.slice A408_4 ((rd_T35 l0 x18_2).f4).length c408_4))) ?hg ?ho ?hn ?hr ?_; (case ho => rfl); (case hg => rfl); (case hn => rfl); (case hr => first | (go_simp; done) | (go_simp; rfl)); intro w41 hw; have n0_ : Aside0 (Kd.R Kd.string 9 w41 w.heap.size (fun _ => True) u3 x3_2) := ⟨(by rw [hw]; exact (by (with_reducible repeat (first | apply Kd.R_alloc | apply Kd.R_drewN | apply Kd.R_drew)); exact Kd.R_mono (Kd.R_far (p := ⟨gb409, 4, none⟩) (Kd.R_far (p := ⟨gb409, 3, none⟩) (Kd.R_far (p := ⟨gb409, 2, none⟩) (Kd.R_far (p := ⟨gb409, 1, none⟩) (Kd.R_far (p := ⟨gb409, 0, none⟩) (Kd.R_types HO_3.out BK409.out (by decide)) (fun _ hk => hk.2) (.int .i64 ((rd_T35 l0 x18_2).f0))) (fun _ hk => hk.2) (.int .i64 ((rd_T35 l0 x18_2).f1))) (fun _ hk => hk.2) (.string ((rd_T35 l0 x18_2).f2))) (fun _ hk => hk.2) (.string ((rd_T35 l0 x18_2).f3))) (fun _ hk => hk.2) (.slice A408_4 ((rd_T35 l0 x18_2).f4).length c408_4)) (fun _ hk => trivial)))⟩; have n1_ : Aside0 (w41.heap[gb409]? = some (.cells #[.int .i64 ((rd_T35 l0 x18_2).f0), .int .i64 ((rd_T35 l0 x18_2).f1), .string ((rd_T35 l0 x18_2).f2), .string ((rd_T35 l0 x18_2).f3), .slice A408_4 ((rd_T35 l0 x18_2).f4).length c408_4] 35 (0, 0))) := ⟨(by rw [hw]; exact (y35_ BK409.out))⟩; have n2_ : Aside0 (Below w.heap.size w w41) := ⟨(by rw [hw]; exact (y19_ GE409.out))⟩; clear hw; clear HO_3; clear BK409; clear HB; have HO_3 := n0_; have BK409 := n1_; have HB := n2_; clear n0_ n1_ n2_; obtain ⟨Ao42, co42, eo42⟩ := Kd.R_slice HO_3.out; subst eo42; have hcz43_0 : w41.cell? ⟨gb409, 0, none⟩ = some (.int .i64 ((rd_T35 l0 x18_2).f0)) := (blk_cell BK409.out 0).trans rfl; have hcz43_1 : w41.cell? ⟨gb409, 1, none⟩ = some (.int .i64 ((rd_T35 l0 x18_2).f1)) := (blk_cell BK409.out 1).trans rfl; have hcz43_2 : w41.cell? ⟨gb409, 2, none⟩ = some (.string ((rd_T35 l0 x18_2).f2)) := (blk_cell BK409.out 2).trans rfl; have hcz43_3 : w41.cell? ⟨gb409, 3, none⟩ = some (.string ((rd_T35 l0 x18_2).f3)) := (blk_cell BK409.out 3).trans rfl; have hcz43_4 : w41.cell? ⟨gb409, 4, none⟩ = some (.slice A408_4 ((rd_T35 l0 x18_2).f4).length c408_4) := (blk_cell BK409.out 4).trans rfl; have hfz43_0 := blk_frozen BK409.out 0; have hfz43_1 := blk_frozen BK409.out 1; have hfz43_2 := blk_frozen BK409.out 2; have hfz43_3 := blk_frozen BK409.out 3; have hfz43_4 := blk_frozen BK409.out 4; have q44 : ((ji16) : Int) ≤ ((x3_2.length : Int) : Int) := of_decide_eq_true y2_; obtain ⟨i044, hi044, _, hsz44, _⟩ := info_parts info9; have hcut44 := cut_to (P := Tryd.prog) 43 9 .i64 Tryd.underlying43 hi044 Ao42 x3_2.length co42 (ji16) (of_decide_eq_true y2_) q44 (Kd.R_reads' HO_3.out).2.1; have hr44 := Kd.R_take (m := ((ji16) : Int).toNat) HO_3.out (by omega); have hy44 : y410.length = ((ji16) : Int).toNat := (y0_ Ny410.out); rw [← Ny410.out] at hr44; rw [← hy44] at hr44 hcut44; clear hy44 hi044 hsz44 HO_3; have HO412 := Aside0.mk hr44; clear hr44; replace q44 := eq_true q44) | ((with_reducible refine gate_callee (f := 31) rfl ?_); refine goesL_ (some 57) rfl rfl Tryd.func31 (by kernel_rfl) rfl #[.string ((rd_T35 l0 x18_2).f3)] rfl y14_ ?_; (with_reducible refine (write_comment.calls ((rd_T35 l0 x18_2).f3) true _ A37.out).mono ?_); rintro e w45 ⟨rfl, hb⟩; refine ⟨_, rfl, ?_⟩; have n0_ := Aside0.mk (Kd.R_below (y10_ HO412.out) hb); have n1_ := Aside0.mk (blk_below (g := gb409) (o := .cells #[.int .i64 ((rd_T35 l0 x18_2).f0), .int .i64 ((rd_T35 l0 x18_2).f1), .string ((rd_T35 l0 x18_2).f2), .string ((rd_T35 l0 x18_2).f3), .slice A408_4 ((rd_T35 l0 x18_2).f4).length c408_4] 35 (0, 0)) (y11_ BK409.out) hb); have n2_ := Aside0.mk (below_step (y19_ GE409.out) hb); clear HO412; clear BK409; clear HB; have HO412 := n0_; have BK409 := n1_; have HB := n2_; clear n0_ n1_ n2_; (try clear hb); (try clear hb2); (try clear hk); (try clear hi)))
          go_roundg k2
          case measure => have := HJ1.out; have := HK2.out; omega
          case rel => exact ⟨(y410), (wrap64 (x18_2 + 1)), y4_, H', ⟨by have := HJ1.out; have := HK2.out; omega⟩, ⟨by (with_reducible repeat (first | apply Kd.R_alloc | apply Kd.R_drewN | apply Kd.R_drew)); exact HO412.out⟩, ⟨(y19_ GE409.out)⟩⟩
         ·replace c38 := Bool.eq_false_iff.mpr c38
          subst c38
          rw [if_neg (show ¬ (false = true) by decide)] at H
          obtain rfl := Option.some.inj H
          have p408 : 0 ≤ (x18_2 : Int) := of_decide_eq_true y2_
          have q408 : x18_2 < (l0.length : Int) := of_decide_eq_true y2_
          obtain ⟨ad408, A408_4, c408_4, e408, hx408_0, hx408_1, hx408_2, hx408_3, hx408_4, hl408_4, hi408_4⟩ := at_T35 HR0.out x18_2 p408 q408
          cases e408
          replace hx408_0 := (HB.out.cell (World.block_lt_of_cell? w _ hx408_0)).trans hx408_0
          replace hx408_1 := (HB.out.cell (World.block_lt_of_cell? w _ hx408_1)).trans hx408_1
          replace hx408_2 := (HB.out.cell (World.block_lt_of_cell? w _ hx408_2)).trans hx408_2
          replace hx408_3 := (HB.out.cell (World.block_lt_of_cell? w _ hx408_3)).trans hx408_3
          replace hx408_4 := (HB.out.cell (World.block_lt_of_cell? w _ hx408_4)).trans hx408_4
          have HR408_4 := Aside0.mk hi408_4
          have HC408_4 := Aside0.mk hl408_4
          clear hi408_4 hl408_4
          replace p408 := eq_true p408
          replace q408 := eq_true q408
          go_wp2_with (first | ((with_reducible refine gate_dst (N := 5) rfl ?_); refine box_event ?hg (N := 5) ?hd (cs := #[.int .i64 0, .int .i64 0, .string (⟨#[]⟩ : ByteArray), .string (⟨#[]⟩ : ByteArray), .slice none 0 0]) (t := 35) ?hr ?_; (case hd => rfl); (case hg => rfl); (case hr => first | (go_simp; done) | (go_simp; rfl)); intro gb409 hg w46 hbox hb; have n0_ := Aside0.mk (Kd.R_below (y10_ HO_3.out) hb); have n1_ := Aside0.mk (below_step y13_ hb); have n2_ := Aside0.mk (hbox); have n3_ := Aside0.mk ((by rw [hg]; exact (below_size y13_) : w.heap.size ≤ gb409)); have n4_ := Aside0.mk ((by rw [hg]; exact (below_size y13_) : w.heap.size ≤ gb409)); clear HO_3; clear HB; have HO_3 := n0_; have HB := n1_; have BK409 := n2_; have GW409 := n3_; have GE409 := n4_; clear n0_ n1_ n2_ n3_ n4_; clear hb hbox hg; have hcz47_0 : w46.cell? ⟨gb409, 0, none⟩ = some (.int .i64 0) := (blk_cell BK409.out 0).trans rfl; have hcz47_1 : w46.cell? ⟨gb409, 1, none⟩ = some (.int .i64 0) := (blk_cell BK409.out 1).trans rfl; have hcz47_2 : w46.cell? ⟨gb409, 2, none⟩ = some (.string (⟨#[]⟩ : ByteArray)) := (blk_cell BK409.out 2).trans rfl; have hcz47_3 : w46.cell? ⟨gb409, 3, none⟩ = some (.string (⟨#[]⟩ : ByteArray)) := (blk_cell BK409.out 3).trans rfl; have hcz47_4 : w46.cell? ⟨gb409, 4, none⟩ = some (.slice none 0 0) := (blk_cell BK409.out 4).trans rfl; have hfz47_0 := blk_frozen BK409.out 0; have hfz47_1 := blk_frozen BK409.out 1; have hfz47_2 := blk_frozen BK409.out 2; have hfz47_3 := blk_frozen BK409.out 3; have hfz47_4 := blk_frozen BK409.out 4) | ((with_reducible refine gate_store (t := 35) (p := 5) rfl ?_); refine store_event (t := 35) (p := 5) (v := ?vo_w48) (w1 := (((((w46.setCell ⟨gb409, 0, none⟩ (.int .i64 ((rd_T35 l0 x18_2).f0))).setCell ⟨gb409, 1, none⟩ (.int .i64 ((rd_T35 l0 x18_2).f1))).setCell ⟨gb409, 2, none⟩ (.string ((rd_T35 l0 x18_2).f2))).setCell ⟨gb409, 3, none⟩ (.string ((rd_T35 l0 x18_2).f3))).setCell ⟨gb409, 4, none⟩ (.slice A408_4 ((rd_T35 l0 x18_2).f4).length c408_4))) ?hg ?ho ?hn ?hr ?_; (case ho => rfl); (case hg => rfl); (case hn => rfl); (case hr => first | (go_simp; done) | (go_simp; rfl)); intro w48 hw; have n0_ : Aside0 (Kd.R Kd.string 9 w48 w.heap.size (fun _ => True) u3 x3_2) := ⟨(by rw [hw]; exact (by (with_reducible repeat (first | apply Kd.R_alloc | apply Kd.R_drewN | apply Kd.R_drew)); exact Kd.R_mono (Kd.R_far (p := ⟨gb409, 4, none⟩) (Kd.R_far (p := ⟨gb409, 3, none⟩) (Kd.R_far (p := ⟨gb409, 2, none⟩) (Kd.R_far (p := ⟨gb409, 1, none⟩) (Kd.R_far (p := ⟨gb409, 0, none⟩) (Kd.R_types HO_3.out BK409.out (by decide)) (fun _ hk => hk.2) (.int .i64 ((rd_T35 l0 x18_2).f0))) (fun _ hk => hk.2) (.int .i64 ((rd_T35 l0 x18_2).f1))) (fun _ hk => hk.2) (.string ((rd_T35 l0 x18_2).f2))) (fun _ hk => hk.2) (.string ((rd_T35 l0 x18_2).f3))) (fun _ hk => hk.2) (.slice A408_4 ((rd_T35 l0 x18_2).f4).length c408_4)) (fun _ hk => trivial)))⟩; have n1_ : Aside0 (w48.heap[gb409]? = some (.cells #[.int .i64 ((rd_T35 l0 x18_2).f0), .int .i64 ((rd_T35 l0 x18_2).f1), .string ((rd_T35 l0 x18_2).f2), .string ((rd_T35 l0 x18_2).f3), .slice A408_4 ((rd_T35 l0 x18_2).f4).length c408_4] 35 (0, 0))) := ⟨(by rw [hw]; exact (y35_ BK409.out))⟩; have n2_ : Aside0 (Below w.heap.size w w48) := ⟨(by rw [hw]; exact (y19_ GE409.out))⟩; clear hw; clear HO_3; clear BK409; clear HB; have HO_3 := n0_; have BK409 := n1_; have HB := n2_; clear n0_ n1_ n2_; obtain ⟨Ao49, co49, eo49⟩ := Kd.R_slice HO_3.out; subst eo49; have hcz50_0 : w48.cell? ⟨gb409, 0, none⟩ = some (.int .i64 ((rd_T35 l0 x18_2).f0)) := (blk_cell BK409.out 0).trans rfl; have hcz50_1 : w48.cell? ⟨gb409, 1, none⟩ = some (.int .i64 ((rd_T35 l0 x18_2).f1)) := (blk_cell BK409.out 1).trans rfl; have hcz50_2 : w48.cell? ⟨gb409, 2, none⟩ = some (.string ((rd_T35 l0 x18_2).f2)) := (blk_cell BK409.out 2).trans rfl; have hcz50_3 : w48.cell? ⟨gb409, 3, none⟩ = some (.string ((rd_T35 l0 x18_2).f3)) := (blk_cell BK409.out 3).trans rfl; have hcz50_4 : w48.cell? ⟨gb409, 4, none⟩ = some (.slice A408_4 ((rd_T35 l0 x18_2).f4).length c408_4) := (blk_cell BK409.out 4).trans rfl; have hfz50_0 := blk_frozen BK409.out 0; have hfz50_1 := blk_frozen BK409.out 1; have hfz50_2 := blk_frozen BK409.out 2; have hfz50_3 := blk_frozen BK409.out 3; have hfz50_4 := blk_frozen BK409.out 4; have q51 : ((ji16) : Int) ≤ ((x3_2.length : Int) : Int) := of_decide_eq_true y2_; obtain ⟨i051, hi051, _, hsz51, _⟩ := info_parts info9; have hcut51 := cut_to (P := Tryd.prog) 43 9 .i64 Tryd.underlying43 hi051 Ao49 x3_2.length co49 (ji16) (of_decide_eq_true y2_) q51 (Kd.R_reads' HO_3.out).2.1; have hr51 := Kd.R_take (m := ((ji16) : Int).toNat) HO_3.out (by omega); have hy51 : y410.length = ((ji16) : Int).toNat := (y0_ Ny410.out); rw [← Ny410.out] at hr51; rw [← hy51] at hr51 hcut51; clear hy51 hi051 hsz51 HO_3; have HO412 := Aside0.mk hr51; clear hr51; replace q51 := eq_true q51) | ((with_reducible refine gate_callee (f := 31) rfl ?_); refine goesL_ (some 57) rfl rfl Tryd.func31 (by kernel_rfl) rfl #[.string ((rd_T35 l0 x18_2).f3)] rfl y14_ ?_; (with_reducible refine (write_comment.calls ((rd_T35 l0 x18_2).f3) false _ A37.out).mono ?_); rintro e w52 ⟨rfl, hb⟩; refine ⟨_, rfl, ?_⟩; have n0_ := Aside0.mk (Kd.R_below (y10_ HO412.out) hb); have n1_ := Aside0.mk (blk_below (g := gb409) (o := .cells #[.int .i64 ((rd_T35 l0 x18_2).f0), .int .i64 ((rd_T35 l0 x18_2).f1), .string ((rd_T35 l0 x18_2).f2), .string ((rd_T35 l0 x18_2).f3), .slice A408_4 ((rd_T35 l0 x18_2).f4).length c408_4] 35 (0, 0)) (y11_ BK409.out) hb); have n2_ := Aside0.mk (below_step (y19_ GE409.out) hb); clear HO412; clear BK409; clear HB; have HO412 := n0_; have BK409 := n1_; have HB := n2_; clear n0_ n1_ n2_; (try clear hb); (try clear hb2); (try clear hk); (try clear hi)))
          go_ret
          exact ⟨y25_, (y19_ GE409.out)⟩
        ·rw [if_neg c36] at H
         have c36b0 : (((rd_T35 l0 x18_2).f1) == 2) = false := beq_eq_false_iff_ne.mpr c36
         have c36b1 : (((rd_T35 l0 x18_2).f1) != 2) = true := bne_iff_ne.mpr c36
         replace H := Option.bind_eq_some_iff.mp H
         obtain ⟨t415, A530, H⟩ := H
         have A53 := Aside0.mk A530
         clear A530
         by_cases c54 : t415 = true
         ·subst c54
          rw [if_pos rfl] at H
          replace H := Option.bind_eq_some_iff.mp H
          obtain ⟨t416, A550, H⟩ := H
          have A55 := Aside0.mk A550
          clear A550
          by_cases c56 : t416 = true
          ·subst c56
           rw [if_pos rfl] at H
           by_cases c57 : y410.length < 8796093022208
           rotate_left
           ·rw [if_neg c57] at H
            exact absurd H (by simp)
           rw [if_pos c57] at H
           have LMc57 := Aside0.mk c57
           clear c57
           obtain ⟨y417, hy417⟩ : ∃ y_ : List ByteArray, y_ = (y410 ++ [(rd_T35 l0 x18_2).f2]) := ⟨_, rfl⟩
           replace H : (write_Legal.l0 k2 l0 y417 l0 (l0.length : Int) (wrap64 (x18_2 + 1))) = some r := by first | (rw [hy417]; with_reducible exact H) | (have H2_ := (Option.bind_some _ _).symm.trans H; rw [hy417]; with_reducible exact H2_) | (have H2_ := (Option.bind_some _ _).symm.trans H; with_reducible exact H2_) | with_reducible exact H | (rw [hy417]; exact H) | exact H
           have Ny417 := Aside0.mk hy417
           clear hy417
           have H' := Aside0.mk H
           clear H
           have p408 : 0 ≤ (x18_2 : Int) := of_decide_eq_true y2_
           have q408 : x18_2 < (l0.length : Int) := of_decide_eq_true y2_
           obtain ⟨ad408, A408_4, c408_4, e408, hx408_0, hx408_1, hx408_2, hx408_3, hx408_4, hl408_4, hi408_4⟩ := at_T35 HR0.out x18_2 p408 q408
           cases e408
           replace hx408_0 := (HB.out.cell (World.block_lt_of_cell? w _ hx408_0)).trans hx408_0
           replace hx408_1 := (HB.out.cell (World.block_lt_of_cell? w _ hx408_1)).trans hx408_1
           replace hx408_2 := (HB.out.cell (World.block_lt_of_cell? w _ hx408_2)).trans hx408_2
           replace hx408_3 := (HB.out.cell (World.block_lt_of_cell? w _ hx408_3)).trans hx408_3
           replace hx408_4 := (HB.out.cell (World.block_lt_of_cell? w _ hx408_4)).trans hx408_4
           have HR408_4 := Aside0.mk hi408_4
           have HC408_4 := Aside0.mk hl408_4
           clear hi408_4 hl408_4
           replace p408 := eq_true p408
           replace q408 := eq_true q408
           go_wp2_with (first | ((with_reducible refine gate_dst (N := 5) rfl ?_); refine box_event ?hg (N := 5) ?hd (cs := #[.int .i64 0, .int .i64 0, .string (⟨#[]⟩ : ByteArray), .string (⟨#[]⟩ : ByteArray), .slice none 0 0]) (t := 35) ?hr ?_; (case hd => rfl); (case hg => rfl); (case hr => first | (go_simp; done) | (go_simp; rfl)); intro gb409 hg w58 hbox hb; have n0_ := Aside0.mk (Kd.R_below (y10_ HO_3.out) hb); have n1_ := Aside0.mk (below_step y13_ hb); have n2_ := Aside0.mk (hbox); have n3_ := Aside0.mk ((by rw [hg]; exact (below_size y13_) : w.heap.size ≤ gb409)); have n4_ := Aside0.mk ((by rw [hg]; exact (below_size y13_) : w.heap.size ≤ gb409)); clear HO_3; clear HB; have HO_3 := n0_; have HB := n1_; have BK409 := n2_; have GW409 := n3_; have GE409 := n4_; clear n0_ n1_ n2_ n3_ n4_; clear hb hbox hg; have hcz59_0 : w58.cell? ⟨gb409, 0, none⟩ = some (.int .i64 0) := (blk_cell BK409.out 0).trans rfl; have hcz59_1 : w58.cell? ⟨gb409, 1, none⟩ = some (.int .i64 0) := (blk_cell BK409.out 1).trans rfl; have hcz59_2 : w58.cell? ⟨gb409, 2, none⟩ = some (.string (⟨#[]⟩ : ByteArray)) := (blk_cell BK409.out 2).trans rfl; have hcz59_3 : w58.cell? ⟨gb409, 3, none⟩ = some (.string (⟨#[]⟩ : ByteArray)) := (blk_cell BK409.out 3).trans rfl; have hcz59_4 : w58.cell? ⟨gb409, 4, none⟩ = some (.slice none 0 0) := (blk_cell BK409.out 4).trans rfl; have hfz59_0 := blk_frozen BK409.out 0; have hfz59_1 := blk_frozen BK409.out 1; have hfz59_2 := blk_frozen BK409.out 2; have hfz59_3 := blk_frozen BK409.out 3; have hfz59_4 := blk_frozen BK409.out 4) | ((with_reducible refine gate_store (t := 35) (p := 5) rfl ?_); refine store_event (t := 35) (p := 5) (v := ?vo_w60) (w1 := (((((w58.setCell ⟨gb409, 0, none⟩ (.int .i64 ((rd_T35 l0 x18_2).f0))).setCell ⟨gb409, 1, none⟩ (.int .i64 ((rd_T35 l0 x18_2).f1))).setCell ⟨gb409, 2, none⟩ (.string ((rd_T35 l0 x18_2).f2))).setCell ⟨gb409, 3, none⟩ (.string ((rd_T35 l0 x18_2).f3))).setCell ⟨gb409, 4, none⟩ (.slice A408_4 ((rd_T35 l0 x18_2).f4).length c408_4))) ?hg ?ho ?hn ?hr ?_; (case ho => rfl); (case hg => rfl); (case hn => rfl); (case hr => first | (go_simp; done) | (go_simp; rfl)); intro w60 hw; have n0_ : Aside0 (Kd.R Kd.string 9 w60 w.heap.size (fun _ => True) u3 x3_2) := ⟨(by rw [hw]; exact (by (with_reducible repeat (first | apply Kd.R_alloc | apply Kd.R_drewN | apply Kd.R_drew)); exact Kd.R_mono (Kd.R_far (p := ⟨gb409, 4, none⟩) (Kd.R_far (p := ⟨gb409, 3, none⟩) (Kd.R_far (p := ⟨gb409, 2, none⟩) (Kd.R_far (p := ⟨gb409, 1, none⟩) (Kd.R_far (p := ⟨gb409, 0, none⟩) (Kd.R_types HO_3.out BK409.out (by decide)) (fun _ hk => hk.2) (.int .i64 ((rd_T35 l0 x18_2).f0))) (fun _ hk => hk.2) (.int .i64 ((rd_T35 l0 x18_2).f1))) (fun _ hk => hk.2) (.string ((rd_T35 l0 x18_2).f2))) (fun _ hk => hk.2) (.string ((rd_T35 l0 x18_2).f3))) (fun _ hk => hk.2) (.slice A408_4 ((rd_T35 l0 x18_2).f4).length c408_4)) (fun _ hk => trivial)))⟩; have n1_ : Aside0 (w60.heap[gb409]? = some (.cells #[.int .i64 ((rd_T35 l0 x18_2).f0), .int .i64 ((rd_T35 l0 x18_2).f1), .string ((rd_T35 l0 x18_2).f2), .string ((rd_T35 l0 x18_2).f3), .slice A408_4 ((rd_T35 l0 x18_2).f4).length c408_4] 35 (0, 0))) := ⟨(by rw [hw]; exact (y35_ BK409.out))⟩; have n2_ : Aside0 (Below w.heap.size w w60) := ⟨(by rw [hw]; exact (y19_ GE409.out))⟩; clear hw; clear HO_3; clear BK409; clear HB; have HO_3 := n0_; have BK409 := n1_; have HB := n2_; clear n0_ n1_ n2_; obtain ⟨Ao61, co61, eo61⟩ := Kd.R_slice HO_3.out; subst eo61; have hcz62_0 : w60.cell? ⟨gb409, 0, none⟩ = some (.int .i64 ((rd_T35 l0 x18_2).f0)) := (blk_cell BK409.out 0).trans rfl; have hcz62_1 : w60.cell? ⟨gb409, 1, none⟩ = some (.int .i64 ((rd_T35 l0 x18_2).f1)) := (blk_cell BK409.out 1).trans rfl; have hcz62_2 : w60.cell? ⟨gb409, 2, none⟩ = some (.string ((rd_T35 l0 x18_2).f2)) := (blk_cell BK409.out 2).trans rfl; have hcz62_3 : w60.cell? ⟨gb409, 3, none⟩ = some (.string ((rd_T35 l0 x18_2).f3)) := (blk_cell BK409.out 3).trans rfl; have hcz62_4 : w60.cell? ⟨gb409, 4, none⟩ = some (.slice A408_4 ((rd_T35 l0 x18_2).f4).length c408_4) := (blk_cell BK409.out 4).trans rfl; have hfz62_0 := blk_frozen BK409.out 0; have hfz62_1 := blk_frozen BK409.out 1; have hfz62_2 := blk_frozen BK409.out 2; have hfz62_3 := blk_frozen BK409.out 3; have hfz62_4 := blk_frozen BK409.out 4; have q63 : ((ji16) : Int) ≤ ((x3_2.length : Int) : Int) := of_decide_eq_true y2_; obtain ⟨i063, hi063, _, hsz63, _⟩ := info_parts info9; have hcut63 := cut_to (P := Tryd.prog) 43 9 .i64 Tryd.underlying43 hi063 Ao61 x3_2.length co61 (ji16) (of_decide_eq_true y2_) q63 (Kd.R_reads' HO_3.out).2.1; have hr63 := Kd.R_take (m := ((ji16) : Int).toNat) HO_3.out (by omega); have hy63 : y410.length = ((ji16) : Int).toNat := (y0_ Ny410.out); rw [← Ny410.out] at hr63; rw [← hy63] at hr63 hcut63; clear hy63 hi063 hsz63 HO_3; have HO412 := Aside0.mk hr63; clear hr63; replace q63 := eq_true q63) | ((with_reducible refine gate_callee (f := 32) rfl ?_); refine goesL_ (some 34) rfl rfl Tryd.func32 (by kernel_rfl) rfl #[.agg #[.int .i64 ((rd_T35 l0 x18_2).f0), .int .i64 ((rd_T35 l0 x18_2).f1), .string ((rd_T35 l0 x18_2).f2), .string ((rd_T35 l0 x18_2).f3), .slice A408_4 ((rd_T35 l0 x18_2).f4).length c408_4], .slice Ao61 y410.length co61] rfl y14_ ?_; (with_reducible refine (write_element.calls k2 ((rd_T35 l0 x18_2).f0) ((rd_T35 l0 x18_2).f1) ((rd_T35 l0 x18_2).f2) ((rd_T35 l0 x18_2).f3) _ _ ((rd_T35 l0 x18_2).f4) _ _ y410 true _ ?side1 ?side2 ?side3 ?side4 A53.out).mono ?_); (case side1 => repeat (first | exact (Kd.C_below HR408_4.out HB.out) | (with_reducible refine Kd.C_alloc ?_ _) | (with_reducible refine Kd.C_drewN ?_ _) | (with_reducible refine Kd.C_drew ?_))); (case side2 => exact HC408_4.out); (case side3 => repeat (first | exact (Kd.R_reads' HO412.out).2.2 | (with_reducible refine Kd.C_alloc ?_ _) | (with_reducible refine Kd.C_drewN ?_ _) | (with_reducible refine Kd.C_drew ?_))); (case side4 => exact (Kd.R_reads' HO412.out).2.1); rintro e w64 ⟨rfl, hb⟩; refine ⟨_, rfl, ?_⟩; have n0_ := Aside0.mk (Kd.R_below (y10_ HO412.out) hb); have n1_ := Aside0.mk (blk_below (g := gb409) (o := .cells #[.int .i64 ((rd_T35 l0 x18_2).f0), .int .i64 ((rd_T35 l0 x18_2).f1), .string ((rd_T35 l0 x18_2).f2), .string ((rd_T35 l0 x18_2).f3), .slice A408_4 ((rd_T35 l0 x18_2).f4).length c408_4] 35 (0, 0)) (y11_ BK409.out) hb); have n2_ := Aside0.mk (below_step (y19_ GE409.out) hb); clear HO412; clear BK409; clear HB; have HO412 := n0_; have BK409 := n1_; have HB := n2_; clear n0_ n1_ n2_; (try clear hb); (try clear hb2); (try clear hk); (try clear hi)) | (go_at_call 33; (with_reducible refine (write_within.calls k2 _ _ l0 x18_2 true _ ?side1 ?side2 A55.out).mono ?_); (case side1 => repeat (first | exact (Kd.C_below HR0.out HB.out) | (with_reducible refine Kd.C_alloc ?_ _) | (with_reducible refine Kd.C_drewN ?_ _) | (with_reducible refine Kd.C_drew ?_))); (case side2 => exact HC0.out); rintro e w65 ⟨rfl, hb⟩; have n0_ := Aside0.mk (Kd.R_below (y10_ HO412.out) hb); have n1_ := Aside0.mk (blk_below (g := gb409) (o := .cells #[.int .i64 ((rd_T35 l0 x18_2).f0), .int .i64 ((rd_T35 l0 x18_2).f1), .string ((rd_T35 l0 x18_2).f2), .string ((rd_T35 l0 x18_2).f3), .slice A408_4 ((rd_T35 l0 x18_2).f4).length c408_4] 35 (0, 0)) (y11_ BK409.out) hb); have n2_ := Aside0.mk (below_step (y19_ GE409.out) hb); clear HO412; clear BK409; clear HB; have HO412 := n0_; have BK409 := n1_; have HB := n2_; clear n0_ n1_ n2_; (try clear hb); (try clear hb2); (try clear hk); (try clear hi); have hcz66_0 : w65.cell? ⟨gb409, 0, none⟩ = some (.int .i64 ((rd_T35 l0 x18_2).f0)) := (blk_cell BK409.out 0).trans rfl; have hcz66_1 : w65.cell? ⟨gb409, 1, none⟩ = some (.int .i64 ((rd_T35 l0 x18_2).f1)) := (blk_cell BK409.out 1).trans rfl; have hcz66_2 : w65.cell? ⟨gb409, 2, none⟩ = some (.string ((rd_T35 l0 x18_2).f2)) := (blk_cell BK409.out 2).trans rfl; have hcz66_3 : w65.cell? ⟨gb409, 3, none⟩ = some (.string ((rd_T35 l0 x18_2).f3)) := (blk_cell BK409.out 3).trans rfl; have hcz66_4 : w65.cell? ⟨gb409, 4, none⟩ = some (.slice A408_4 ((rd_T35 l0 x18_2).f4).length c408_4) := (blk_cell BK409.out 4).trans rfl; have hfz66_0 := blk_frozen BK409.out 0; have hfz66_1 := blk_frozen BK409.out 1; have hfz66_2 := blk_frozen BK409.out 2; have hfz66_3 := blk_frozen BK409.out 3; have hfz66_4 := blk_frozen BK409.out 4) | ((with_reducible refine gate_builtin (b := .append) (xs := #[.tmp 42, .tmp 45]) rfl ?_); at_builtin; refine Kd.R_append Kd.string (w0 := w) w.heap.size rfl (.tmp 42) (.tmp 45) 43 9 (.string ⟨#[]⟩) 16 rfl Tryd.underlying43 info9 rfl (by decide) (by omega) (.slice Ao61 y410.length co61) y410 ((rd_T35 l0 x18_2).f2) [.string ((rd_T35 l0 x18_2).f2)] (fun _ => True) (fun _ => False) rfl rfl ?aP (fun _ hk => hk.elim) ?aF ?aO ?aB ?aS ?aL ?_; (case aP => exact rfl); (case aB => exact (y19_ GE409.out)); (case aF => exact (fun _ _ => trivial)); (case aO => exact (y10_ HO412.out)); (case aS => exact (below_size (y19_ GE409.out))); (case aL => have := LMc57.out; first | omega | exact Nat.le_of_lt this); intro v418 w67 ho hb hg hat; rw [← Ny417.out] at ho; have n0_ := Aside0.mk (blk_grown (g := gb409) (o := .cells #[.int .i64 ((rd_T35 l0 x18_2).f0), .int .i64 ((rd_T35 l0 x18_2).f1), .string ((rd_T35 l0 x18_2).f2), .string ((rd_T35 l0 x18_2).f3), .slice A408_4 ((rd_T35 l0 x18_2).f4).length c408_4] 35 (0, 0)) (y11_ BK409.out) hg (Kd.R_ne HO412.out BK409.out (by decide))); have n1_ := Aside0.mk (hb); have n2_ := Aside0.mk (ho); clear BK409; clear HB; clear HO412; have BK409 := n0_; have HB := n1_; have HO419 := n2_; clear n0_ n1_ n2_; clear ho hb hg hat))
           go_roundg k2
           case measure => have := HJ1.out; have := HK2.out; omega
           case rel => exact ⟨(y417), (wrap64 (x18_2 + 1)), y4_, H', ⟨by have := HJ1.out; have := HK2.out; omega⟩, ⟨by (with_reducible repeat (first | apply Kd.R_alloc | apply Kd.R_drewN | apply Kd.R_drew)); exact HO419.out⟩, ⟨(y19_ GE409.out)⟩⟩
          ·replace c56 := Bool.eq_false_iff.mpr c56
           subst c56
           rw [if_neg (show ¬ (false = true) by decide)] at H
           obtain rfl := Option.some.inj H
           have p408 : 0 ≤ (x18_2 : Int) := of_decide_eq_true y2_
           have q408 : x18_2 < (l0.length : Int) := of_decide_eq_true y2_
           obtain ⟨ad408, A408_4, c408_4, e408, hx408_0, hx408_1, hx408_2, hx408_3, hx408_4, hl408_4, hi408_4⟩ := at_T35 HR0.out x18_2 p408 q408
           cases e408
           replace hx408_0 := (HB.out.cell (World.block_lt_of_cell? w _ hx408_0)).trans hx408_0
           replace hx408_1 := (HB.out.cell (World.block_lt_of_cell? w _ hx408_1)).trans hx408_1
           replace hx408_2 := (HB.out.cell (World.block_lt_of_cell? w _ hx408_2)).trans hx408_2
           replace hx408_3 := (HB.out.cell (World.block_lt_of_cell? w _ hx408_3)).trans hx408_3
           replace hx408_4 := (HB.out.cell (World.block_lt_of_cell? w _ hx408_4)).trans hx408_4
           have HR408_4 := Aside0.mk hi408_4
           have HC408_4 := Aside0.mk hl408_4
           clear hi408_4 hl408_4
           replace p408 := eq_true p408
           replace q408 := eq_true q408
           go_wp2_with (first | ((with_reducible refine gate_dst (N := 5) rfl ?_); refine box_event ?hg (N := 5) ?hd (cs := #[.int .i64 0, .int .i64 0, .string (⟨#[]⟩ : ByteArray), .string (⟨#[]⟩ : ByteArray), .slice none 0 0]) (t := 35) ?hr ?_; (case hd => rfl); (case hg => rfl); (case hr => first | (go_simp; done) | (go_simp; rfl)); intro gb409 hg w68 hbox hb; have n0_ := Aside0.mk (Kd.R_below (y10_ HO_3.out) hb); have n1_ := Aside0.mk (below_step y13_ hb); have n2_ := Aside0.mk (hbox); have n3_ := Aside0.mk ((by rw [hg]; exact (below_size y13_) : w.heap.size ≤ gb409)); have n4_ := Aside0.mk ((by rw [hg]; exact (below_size y13_) : w.heap.size ≤ gb409)); clear HO_3; clear HB; have HO_3 := n0_; have HB := n1_; have BK409 := n2_; have GW409 := n3_; have GE409 := n4_; clear n0_ n1_ n2_ n3_ n4_; clear hb hbox hg; have hcz69_0 : w68.cell? ⟨gb409, 0, none⟩ = some (.int .i64 0) := (blk_cell BK409.out 0).trans rfl; have hcz69_1 : w68.cell? ⟨gb409, 1, none⟩ = some (.int .i64 0) := (blk_cell BK409.out 1).trans rfl; have hcz69_2 : w68.cell? ⟨gb409, 2, none⟩ = some (.string (⟨#[]⟩ : ByteArray)) := (blk_cell BK409.out 2).trans rfl; have hcz69_3 : w68.cell? ⟨gb409, 3, none⟩ = some (.string (⟨#[]⟩ : ByteArray)) := (blk_cell BK409.out 3).trans rfl; have hcz69_4 : w68.cell? ⟨gb409, 4, none⟩ = some (.slice none 0 0) := (blk_cell BK409.out 4).trans rfl; have hfz69_0 := blk_frozen BK409.out 0; have hfz69_1 := blk_frozen BK409.out 1; have hfz69_2 := blk_frozen BK409.out 2; have hfz69_3 := blk_frozen BK409.out 3; have hfz69_4 := blk_frozen BK409.out 4) | ((with_reducible refine gate_store (t := 35) (p := 5) rfl ?_); refine store_event (t := 35) (p := 5) (v := ?vo_w70) (w1 := (((((w68.setCell ⟨gb409, 0, none⟩ (.int .i64 ((rd_T35 l0 x18_2).f0))).setCell ⟨gb409, 1, none⟩ (.int .i64 ((rd_T35 l0 x18_2).f1))).setCell ⟨gb409, 2, none⟩ (.string ((rd_T35 l0 x18_2).f2))).setCell ⟨gb409, 3, none⟩ (.string ((rd_T35 l0 x18_2).f3))).setCell ⟨gb409, 4, none⟩ (.slice A408_4 ((rd_T35 l0 x18_2).f4).length c408_4))) ?hg ?ho ?hn ?hr ?_; (case ho => rfl); (case hg => rfl); (case hn => rfl); (case hr => first | (go_simp; done) | (go_simp; rfl)); intro w70 hw; have n0_ : Aside0 (Kd.R Kd.string 9 w70 w.heap.size (fun _ => True) u3 x3_2) := ⟨(by rw [hw]; exact (by (with_reducible repeat (first | apply Kd.R_alloc | apply Kd.R_drewN | apply Kd.R_drew)); exact Kd.R_mono (Kd.R_far (p := ⟨gb409, 4, none⟩) (Kd.R_far (p := ⟨gb409, 3, none⟩) (Kd.R_far (p := ⟨gb409, 2, none⟩) (Kd.R_far (p := ⟨gb409, 1, none⟩) (Kd.R_far (p := ⟨gb409, 0, none⟩) (Kd.R_types HO_3.out BK409.out (by decide)) (fun _ hk => hk.2) (.int .i64 ((rd_T35 l0 x18_2).f0))) (fun _ hk => hk.2) (.int .i64 ((rd_T35 l0 x18_2).f1))) (fun _ hk => hk.2) (.string ((rd_T35 l0 x18_2).f2))) (fun _ hk => hk.2) (.string ((rd_T35 l0 x18_2).f3))) (fun _ hk => hk.2) (.slice A408_4 ((rd_T35 l0 x18_2).f4).length c408_4)) (fun _ hk => trivial)))⟩; have n1_ : Aside0 (w70.heap[gb409]? = some (.cells #[.int .i64 ((rd_T35 l0 x18_2).f0), .int .i64 ((rd_T35 l0 x18_2).f1), .string ((rd_T35 l0 x18_2).f2), .string ((rd_T35 l0 x18_2).f3), .slice A408_4 ((rd_T35 l0 x18_2).f4).length c408_4] 35 (0, 0))) := ⟨(by rw [hw]; exact (y35_ BK409.out))⟩; have n2_ : Aside0 (Below w.heap.size w w70) := ⟨(by rw [hw]; exact (y19_ GE409.out))⟩; clear hw; clear HO_3; clear BK409; clear HB; have HO_3 := n0_; have BK409 := n1_; have HB := n2_; clear n0_ n1_ n2_; obtain ⟨Ao71, co71, eo71⟩ := Kd.R_slice HO_3.out; subst eo71; have hcz72_0 : w70.cell? ⟨gb409, 0, none⟩ = some (.int .i64 ((rd_T35 l0 x18_2).f0)) := (blk_cell BK409.out 0).trans rfl; have hcz72_1 : w70.cell? ⟨gb409, 1, none⟩ = some (.int .i64 ((rd_T35 l0 x18_2).f1)) := (blk_cell BK409.out 1).trans rfl; have hcz72_2 : w70.cell? ⟨gb409, 2, none⟩ = some (.string ((rd_T35 l0 x18_2).f2)) := (blk_cell BK409.out 2).trans rfl; have hcz72_3 : w70.cell? ⟨gb409, 3, none⟩ = some (.string ((rd_T35 l0 x18_2).f3)) := (blk_cell BK409.out 3).trans rfl; have hcz72_4 : w70.cell? ⟨gb409, 4, none⟩ = some (.slice A408_4 ((rd_T35 l0 x18_2).f4).length c408_4) := (blk_cell BK409.out 4).trans rfl; have hfz72_0 := blk_frozen BK409.out 0; have hfz72_1 := blk_frozen BK409.out 1; have hfz72_2 := blk_frozen BK409.out 2; have hfz72_3 := blk_frozen BK409.out 3; have hfz72_4 := blk_frozen BK409.out 4; have q73 : ((ji16) : Int) ≤ ((x3_2.length : Int) : Int) := of_decide_eq_true y2_; obtain ⟨i073, hi073, _, hsz73, _⟩ := info_parts info9; have hcut73 := cut_to (P := Tryd.prog) 43 9 .i64 Tryd.underlying43 hi073 Ao71 x3_2.length co71 (ji16) (of_decide_eq_true y2_) q73 (Kd.R_reads' HO_3.out).2.1; have hr73 := Kd.R_take (m := ((ji16) : Int).toNat) HO_3.out (by omega); have hy73 : y410.length = ((ji16) : Int).toNat := (y0_ Ny410.out); rw [← Ny410.out] at hr73; rw [← hy73] at hr73 hcut73; clear hy73 hi073 hsz73 HO_3; have HO412 := Aside0.mk hr73; clear hr73; replace q73 := eq_true q73) | ((with_reducible refine gate_callee (f := 32) rfl ?_); refine goesL_ (some 34) rfl rfl Tryd.func32 (by kernel_rfl) rfl #[.agg #[.int .i64 ((rd_T35 l0 x18_2).f0), .int .i64 ((rd_T35 l0 x18_2).f1), .string ((rd_T35 l0 x18_2).f2), .string ((rd_T35 l0 x18_2).f3), .slice A408_4 ((rd_T35 l0 x18_2).f4).length c408_4], .slice Ao71 y410.length co71] rfl y14_ ?_; (with_reducible refine (write_element.calls k2 ((rd_T35 l0 x18_2).f0) ((rd_T35 l0 x18_2).f1) ((rd_T35 l0 x18_2).f2) ((rd_T35 l0 x18_2).f3) _ _ ((rd_T35 l0 x18_2).f4) _ _ y410 true _ ?side1 ?side2 ?side3 ?side4 A53.out).mono ?_); (case side1 => repeat (first | exact (Kd.C_below HR408_4.out HB.out) | (with_reducible refine Kd.C_alloc ?_ _) | (with_reducible refine Kd.C_drewN ?_ _) | (with_reducible refine Kd.C_drew ?_))); (case side2 => exact HC408_4.out); (case side3 => repeat (first | exact (Kd.R_reads' HO412.out).2.2 | (with_reducible refine Kd.C_alloc ?_ _) | (with_reducible refine Kd.C_drewN ?_ _) | (with_reducible refine Kd.C_drew ?_))); (case side4 => exact (Kd.R_reads' HO412.out).2.1); rintro e w74 ⟨rfl, hb⟩; refine ⟨_, rfl, ?_⟩; have n0_ := Aside0.mk (Kd.R_below (y10_ HO412.out) hb); have n1_ := Aside0.mk (blk_below (g := gb409) (o := .cells #[.int .i64 ((rd_T35 l0 x18_2).f0), .int .i64 ((rd_T35 l0 x18_2).f1), .string ((rd_T35 l0 x18_2).f2), .string ((rd_T35 l0 x18_2).f3), .slice A408_4 ((rd_T35 l0 x18_2).f4).length c408_4] 35 (0, 0)) (y11_ BK409.out) hb); have n2_ := Aside0.mk (below_step (y19_ GE409.out) hb); clear HO412; clear BK409; clear HB; have HO412 := n0_; have BK409 := n1_; have HB := n2_; clear n0_ n1_ n2_; (try clear hb); (try clear hb2); (try clear hk); (try clear hi)) | (go_at_call 33; (with_reducible refine (write_within.calls k2 _ _ l0 x18_2 false _ ?side1 ?side2 A55.out).mono ?_); (case side1 => repeat (first | exact (Kd.C_below HR0.out HB.out) | (with_reducible refine Kd.C_alloc ?_ _) | (with_reducible refine Kd.C_drewN ?_ _) | (with_reducible refine Kd.C_drew ?_))); (case side2 => exact HC0.out); rintro e w75 ⟨rfl, hb⟩; have n0_ := Aside0.mk (Kd.R_below (y10_ HO412.out) hb); have n1_ := Aside0.mk (blk_below (g := gb409) (o := .cells #[.int .i64 ((rd_T35 l0 x18_2).f0), .int .i64 ((rd_T35 l0 x18_2).f1), .string ((rd_T35 l0 x18_2).f2), .string ((rd_T35 l0 x18_2).f3), .slice A408_4 ((rd_T35 l0 x18_2).f4).length c408_4] 35 (0, 0)) (y11_ BK409.out) hb); have n2_ := Aside0.mk (below_step (y19_ GE409.out) hb); clear HO412; clear BK409; clear HB; have HO412 := n0_; have BK409 := n1_; have HB := n2_; clear n0_ n1_ n2_; (try clear hb); (try clear hb2); (try clear hk); (try clear hi)))
           go_ret
           exact ⟨y25_, (y19_ GE409.out)⟩
         ·replace c54 := Bool.eq_false_iff.mpr c54
          subst c54
          rw [if_neg (show ¬ (false = true) by decide)] at H
          obtain rfl := Option.some.inj H
          have p408 : 0 ≤ (x18_2 : Int) := of_decide_eq_true y2_
          have q408 : x18_2 < (l0.length : Int) := of_decide_eq_true y2_
          obtain ⟨ad408, A408_4, c408_4, e408, hx408_0, hx408_1, hx408_2, hx408_3, hx408_4, hl408_4, hi408_4⟩ := at_T35 HR0.out x18_2 p408 q408
          cases e408
          replace hx408_0 := (HB.out.cell (World.block_lt_of_cell? w _ hx408_0)).trans hx408_0
          replace hx408_1 := (HB.out.cell (World.block_lt_of_cell? w _ hx408_1)).trans hx408_1
          replace hx408_2 := (HB.out.cell (World.block_lt_of_cell? w _ hx408_2)).trans hx408_2
          replace hx408_3 := (HB.out.cell (World.block_lt_of_cell? w _ hx408_3)).trans hx408_3
          replace hx408_4 := (HB.out.cell (World.block_lt_of_cell? w _ hx408_4)).trans hx408_4
          have HR408_4 := Aside0.mk hi408_4
          have HC408_4 := Aside0.mk hl408_4
          clear hi408_4 hl408_4
          replace p408 := eq_true p408
          replace q408 := eq_true q408
          go_wp2_with (first | ((with_reducible refine gate_dst (N := 5) rfl ?_); refine box_event ?hg (N := 5) ?hd (cs := #[.int .i64 0, .int .i64 0, .string (⟨#[]⟩ : ByteArray), .string (⟨#[]⟩ : ByteArray), .slice none 0 0]) (t := 35) ?hr ?_; (case hd => rfl); (case hg => rfl); (case hr => first | (go_simp; done) | (go_simp; rfl)); intro gb409 hg w76 hbox hb; have n0_ := Aside0.mk (Kd.R_below (y10_ HO_3.out) hb); have n1_ := Aside0.mk (below_step y13_ hb); have n2_ := Aside0.mk (hbox); have n3_ := Aside0.mk ((by rw [hg]; exact (below_size y13_) : w.heap.size ≤ gb409)); have n4_ := Aside0.mk ((by rw [hg]; exact (below_size y13_) : w.heap.size ≤ gb409)); clear HO_3; clear HB; have HO_3 := n0_; have HB := n1_; have BK409 := n2_; have GW409 := n3_; have GE409 := n4_; clear n0_ n1_ n2_ n3_ n4_; clear hb hbox hg; have hcz77_0 : w76.cell? ⟨gb409, 0, none⟩ = some (.int .i64 0) := (blk_cell BK409.out 0).trans rfl; have hcz77_1 : w76.cell? ⟨gb409, 1, none⟩ = some (.int .i64 0) := (blk_cell BK409.out 1).trans rfl; have hcz77_2 : w76.cell? ⟨gb409, 2, none⟩ = some (.string (⟨#[]⟩ : ByteArray)) := (blk_cell BK409.out 2).trans rfl; have hcz77_3 : w76.cell? ⟨gb409, 3, none⟩ = some (.string (⟨#[]⟩ : ByteArray)) := (blk_cell BK409.out 3).trans rfl; have hcz77_4 : w76.cell? ⟨gb409, 4, none⟩ = some (.slice none 0 0) := (blk_cell BK409.out 4).trans rfl; have hfz77_0 := blk_frozen BK409.out 0; have hfz77_1 := blk_frozen BK409.out 1; have hfz77_2 := blk_frozen BK409.out 2; have hfz77_3 := blk_frozen BK409.out 3; have hfz77_4 := blk_frozen BK409.out 4) | ((with_reducible refine gate_store (t := 35) (p := 5) rfl ?_); refine store_event (t := 35) (p := 5) (v := ?vo_w78) (w1 := (((((w76.setCell ⟨gb409, 0, none⟩ (.int .i64 ((rd_T35 l0 x18_2).f0))).setCell ⟨gb409, 1, none⟩ (.int .i64 ((rd_T35 l0 x18_2).f1))).setCell ⟨gb409, 2, none⟩ (.string ((rd_T35 l0 x18_2).f2))).setCell ⟨gb409, 3, none⟩ (.string ((rd_T35 l0 x18_2).f3))).setCell ⟨gb409, 4, none⟩ (.slice A408_4 ((rd_T35 l0 x18_2).f4).length c408_4))) ?hg ?ho ?hn ?hr ?_; (case ho => rfl); (case hg => rfl); (case hn => rfl); (case hr => first | (go_simp; done) | (go_simp; rfl)); intro w78 hw; have n0_ : Aside0 (Kd.R Kd.string 9 w78 w.heap.size (fun _ => True) u3 x3_2) := ⟨(by rw [hw]; exact (by (with_reducible repeat (first | apply Kd.R_alloc | apply Kd.R_drewN | apply Kd.R_drew)); exact Kd.R_mono (Kd.R_far (p := ⟨gb409, 4, none⟩) (Kd.R_far (p := ⟨gb409, 3, none⟩) (Kd.R_far (p := ⟨gb409, 2, none⟩) (Kd.R_far (p := ⟨gb409, 1, none⟩) (Kd.R_far (p := ⟨gb409, 0, none⟩) (Kd.R_types HO_3.out BK409.out (by decide)) (fun _ hk => hk.2) (.int .i64 ((rd_T35 l0 x18_2).f0))) (fun _ hk => hk.2) (.int .i64 ((rd_T35 l0 x18_2).f1))) (fun _ hk => hk.2) (.string ((rd_T35 l0 x18_2).f2))) (fun _ hk => hk.2) (.string ((rd_T35 l0 x18_2).f3))) (fun _ hk => hk.2) (.slice A408_4 ((rd_T35 l0 x18_2).f4).length c408_4)) (fun _ hk => trivial)))⟩; have n1_ : Aside0 (w78.heap[gb409]? = some (.cells #[.int .i64 ((rd_T35 l0 x18_2).f0), .int .i64 ((rd_T35 l0 x18_2).f1), .string ((rd_T35 l0 x18_2).f2), .string ((rd_T35 l0 x18_2).f3), .slice A408_4 ((rd_T35 l0 x18_2).f4).length c408_4] 35 (0, 0))) := ⟨(by rw [hw]; exact (y35_ BK409.out))⟩; have n2_ : Aside0 (Below w.heap.size w w78) := ⟨(by rw [hw]; exact (y19_ GE409.out))⟩; clear hw; clear HO_3; clear BK409; clear HB; have HO_3 := n0_; have BK409 := n1_; have HB := n2_; clear n0_ n1_ n2_; obtain ⟨Ao79, co79, eo79⟩ := Kd.R_slice HO_3.out; subst eo79; have hcz80_0 : w78.cell? ⟨gb409, 0, none⟩ = some (.int .i64 ((rd_T35 l0 x18_2).f0)) := (blk_cell BK409.out 0).trans rfl; have hcz80_1 : w78.cell? ⟨gb409, 1, none⟩ = some (.int .i64 ((rd_T35 l0 x18_2).f1)) := (blk_cell BK409.out 1).trans rfl; have hcz80_2 : w78.cell? ⟨gb409, 2, none⟩ = some (.string ((rd_T35 l0 x18_2).f2)) := (blk_cell BK409.out 2).trans rfl; have hcz80_3 : w78.cell? ⟨gb409, 3, none⟩ = some (.string ((rd_T35 l0 x18_2).f3)) := (blk_cell BK409.out 3).trans rfl; have hcz80_4 : w78.cell? ⟨gb409, 4, none⟩ = some (.slice A408_4 ((rd_T35 l0 x18_2).f4).length c408_4) := (blk_cell BK409.out 4).trans rfl; have hfz80_0 := blk_frozen BK409.out 0; have hfz80_1 := blk_frozen BK409.out 1; have hfz80_2 := blk_frozen BK409.out 2; have hfz80_3 := blk_frozen BK409.out 3; have hfz80_4 := blk_frozen BK409.out 4; have q81 : ((ji16) : Int) ≤ ((x3_2.length : Int) : Int) := of_decide_eq_true y2_; obtain ⟨i081, hi081, _, hsz81, _⟩ := info_parts info9; have hcut81 := cut_to (P := Tryd.prog) 43 9 .i64 Tryd.underlying43 hi081 Ao79 x3_2.length co79 (ji16) (of_decide_eq_true y2_) q81 (Kd.R_reads' HO_3.out).2.1; have hr81 := Kd.R_take (m := ((ji16) : Int).toNat) HO_3.out (by omega); have hy81 : y410.length = ((ji16) : Int).toNat := (y0_ Ny410.out); rw [← Ny410.out] at hr81; rw [← hy81] at hr81 hcut81; clear hy81 hi081 hsz81 HO_3; have HO412 := Aside0.mk hr81; clear hr81; replace q81 := eq_true q81) | ((with_reducible refine gate_callee (f := 32) rfl ?_); refine goesL_ (some 34) rfl rfl Tryd.func32 (by kernel_rfl) rfl #[.agg #[.int .i64 ((rd_T35 l0 x18_2).f0), .int .i64 ((rd_T35 l0 x18_2).f1), .string ((rd_T35 l0 x18_2).f2), .string ((rd_T35 l0 x18_2).f3), .slice A408_4 ((rd_T35 l0 x18_2).f4).length c408_4], .slice Ao79 y410.length co79] rfl y14_ ?_; (with_reducible refine (write_element.calls k2 ((rd_T35 l0 x18_2).f0) ((rd_T35 l0 x18_2).f1) ((rd_T35 l0 x18_2).f2) ((rd_T35 l0 x18_2).f3) _ _ ((rd_T35 l0 x18_2).f4) _ _ y410 false _ ?side1 ?side2 ?side3 ?side4 A53.out).mono ?_); (case side1 => repeat (first | exact (Kd.C_below HR408_4.out HB.out) | (with_reducible refine Kd.C_alloc ?_ _) | (with_reducible refine Kd.C_drewN ?_ _) | (with_reducible refine Kd.C_drew ?_))); (case side2 => exact HC408_4.out); (case side3 => repeat (first | exact (Kd.R_reads' HO412.out).2.2 | (with_reducible refine Kd.C_alloc ?_ _) | (with_reducible refine Kd.C_drewN ?_ _) | (with_reducible refine Kd.C_drew ?_))); (case side4 => exact (Kd.R_reads' HO412.out).2.1); rintro e w82 ⟨rfl, hb⟩; refine ⟨_, rfl, ?_⟩; have n0_ := Aside0.mk (Kd.R_below (y10_ HO412.out) hb); have n1_ := Aside0.mk (blk_below (g := gb409) (o := .cells #[.int .i64 ((rd_T35 l0 x18_2).f0), .int .i64 ((rd_T35 l0 x18_2).f1), .string ((rd_T35 l0 x18_2).f2), .string ((rd_T35 l0 x18_2).f3), .slice A408_4 ((rd_T35 l0 x18_2).f4).length c408_4] 35 (0, 0)) (y11_ BK409.out) hb); have n2_ := Aside0.mk (below_step (y19_ GE409.out) hb); clear HO412; clear BK409; clear HB; have HO412 := n0_; have BK409 := n1_; have HB := n2_; clear n0_ n1_ n2_; (try clear hb); (try clear hb2); (try clear hk); (try clear hi)))
          go_ret
          exact ⟨y25_, (y19_ GE409.out)⟩
      ·rw [if_neg c13] at H
       have c13b0 : decide (x18_2 < (l0.length : Int)) = false := decide_eq_false c13
       clear c13
       obtain rfl := Option.some.inj H
       go_wp2
       go_ret
       exact ⟨y12_, y13_⟩
end Go.Proofs.YtpnhjipaeggcpaaDoor.X
end
section
namespace Go.Proofs.YtpnhjipaeggcpaaDoor.X
open Go.RowKit Go.Proofs.YtpnhjipaeggcpaaDoorW.PrintWords Go.Proofs.YtpnhjipaeggcpaaDoorW.PrintLast Go.Proofs.YtpnhjipaeggcpaaDoorW.PrintMore
def fxRow (d k : Int) (n t : ByteArray) (a : List S41) : S35 := ⟨d, k, n, t, a⟩
def fxOne (a b : ByteArray) : List S35 := [fxRow 0 0 a ⟨#[]⟩ [], fxRow 1 1 ⟨#[]⟩ b []]
def boltinglaw08_fixed.f (k : Nat) : Option Bool := some true
theorem fx_rows (t : List S35) (l : List UInt8) (h : ((write_Rows.f t).bind fun x => some x.toList) = some l) : ∃ r, write_Rows.f t = some r ∧ (r.toList == l) = true ∧ (r.toList != l) = false := by
  obtain ⟨r, hr, e⟩ := Option.bind_eq_some_iff.1 h
  cases e
  exact ⟨r, hr, beq_self_eq_true _, by simp⟩
theorem fx_inside (t : List S35) (l : List UInt8) (h : ((write_Inside.f 100 t 0).bind fun x => some x.toList) = some l) : ∃ r, write_Inside.f 100 t 0 = some r ∧ (r.toList == l) = true ∧ (r.toList != l) = false := by
  obtain ⟨r, hr, e⟩ := Option.bind_eq_some_iff.1 h
  cases e
  exact ⟨r, hr, beq_self_eq_true _, by simp⟩
set_option maxHeartbeats 8000000 in
set_option maxRecDepth 100000 in
theorem boltinglaw08_fixed.calls (k : Nat) (r : Bool) (w : World) (h : boltinglaw08_fixed.f k = some r) (hT : WF w := by exact WF.below hT (by repeat (first | (with_reducible first | exact HB.out | apply below_alloc | apply pw_below_drewN | apply below_drew1) | exact HB.out | (refine below_set ?_ (Aside0.out (by assumption)))))) :
    Calls Tryd.prog 8 #[] w fun e w' => e = .returned (.bool r) ∧ Below w.heap.size w w' := by
  cases h
  have hu := Tryd.underlying35
  have hu2 := Tryd.underlying41
  have HB := Aside0.mk (Below.refl w.heap.size w)
  obtain ⟨tP, P0, P1, P2, P3⟩ : ∃ t, boltinglaw08_one.f ⟨#[112]⟩ ⟨#[97, 60, 98]⟩ = some t ∧ write_Legal.f 100 t = some true ∧ (∃ r, write_Rows.f t = some r ∧ (r.toList == [60, 112, 62, 97, 38, 108, 116, 59, 98, 60, 47, 112, 62]) = true ∧ (r.toList != [60, 112, 62, 97, 38, 108, 116, 59, 98, 60, 47, 112, 62]) = false) ∧ (∃ r, write_Inside.f 100 t 0 = some r ∧ (r.toList == [97, 38, 108, 116, 59, 98]) = true ∧ (r.toList != [97, 38, 108, 116, 59, 98]) = false) :=
    ⟨fxOne ⟨#[112]⟩ ⟨#[97, 60, 98]⟩, rfl, by kernel_rfl, fx_rows _ _ (by kernel_rfl), fx_inside _ _ (by kernel_rfl)⟩
  obtain ⟨tS, S0, S1, S2⟩ : ∃ t, boltinglaw08_one.f ⟨#[115, 99, 114, 105, 112, 116]⟩ ⟨#[97, 60, 98]⟩ = some t ∧ write_Legal.f 100 t = some true ∧ (∃ r, write_Rows.f t = some r ∧ (r.toList == [60, 115, 99, 114, 105, 112, 116, 62, 97, 60, 98, 60, 47, 115, 99, 114, 105, 112, 116, 62]) = true ∧ (r.toList != [60, 115, 99, 114, 105, 112, 116, 62, 97, 60, 98, 60, 47, 115, 99, 114, 105, 112, 116, 62]) = false) :=
    ⟨fxOne ⟨#[115, 99, 114, 105, 112, 116]⟩ ⟨#[97, 60, 98]⟩, rfl, by kernel_rfl, fx_rows _ _ (by kernel_rfl)⟩
  obtain ⟨tE, E0, E1⟩ : ∃ t, boltinglaw08_one.f ⟨#[115, 99, 114, 105, 112, 116]⟩ ⟨#[97, 60, 47, 98]⟩ = some t ∧ write_Legal.f 100 t = some false := ⟨fxOne ⟨#[115, 99, 114, 105, 112, 116]⟩ ⟨#[97, 60, 47, 98]⟩, rfl, by kernel_rfl⟩
  obtain ⟨tB, B0, B1⟩ : ∃ t, boltinglaw08_one.f ⟨#[98, 114]⟩ ⟨#[97]⟩ = some t ∧ write_Legal.f 100 t = some false := ⟨fxOne ⟨#[98, 114]⟩ ⟨#[97]⟩, rfl, by kernel_rfl⟩
  obtain ⟨pp, hpp, Q1⟩ : ∃ t : List S35, t = [fxRow 0 0 ⟨#[112]⟩ ⟨#[]⟩ [], fxRow 1 0 ⟨#[112]⟩ ⟨#[]⟩ []] ∧ write_Legal.f 100 t = some false := ⟨_, rfl, by kernel_rfl⟩
  obtain ⟨y, hy⟩ : ∃ y : List S41, y = [⟨⟨#[97]⟩, ⟨#[34]⟩⟩] := ⟨_, rfl⟩
  obtain ⟨z, hz, Z1⟩ : ∃ t : List S35, t = [fxRow 0 0 ⟨#[98, 114]⟩ ⟨#[]⟩ y, fxRow 0 2 ⟨#[]⟩ ⟨#[99]⟩ []] ∧ (∃ r, write_Rows.f t = some r ∧ (r.toList == [60, 98, 114, 32, 97, 61, 34, 38, 113, 117, 111, 116, 59, 34, 62, 60, 33, 45, 45, 99, 45, 45, 62]) = true ∧ (r.toList != [60, 98, 114, 32, 97, 61, 34, 38, 113, 117, 111, 116, 59, 34, 62, 60, 33, 45, 45, 99, 45, 45, 62]) = false) :=
    ⟨_, rfl, by subst hy; exact fx_rows _ _ (by kernel_rfl)⟩
  obtain ⟨rP, P2, b1, b2⟩ := P2
  obtain ⟨iP, P3, b3, b4⟩ := P3
  obtain ⟨rS, S2, b5, b6⟩ := S2
  obtain ⟨rZ, Z1, b7, b8⟩ := Z1
  replace P0 := Aside0.mk P0
  replace P1 := Aside0.mk P1
  replace P2 := Aside0.mk P2
  replace P3 := Aside0.mk P3
  replace S0 := Aside0.mk S0
  replace S1 := Aside0.mk S1
  replace S2 := Aside0.mk S2
  replace E0 := Aside0.mk E0
  replace E1 := Aside0.mk E1
  replace B0 := Aside0.mk B0
  replace B1 := Aside0.mk B1
  replace Q1 := Aside0.mk Q1
  replace Z1 := Aside0.mk Z1
  replace hpp := Aside0.mk hpp
  replace hy := Aside0.mk hy
  replace hz := Aside0.mk hz
  go_enter Tryd.func8, Tryd.ntmps8
  go_wp2_with (first
    | ((with_reducible refine gate_dst (N := 4) rfl ?_); refine Kd.R_lit k35 _ 35 ?hg (N := 4) ?hd (xs := [fxRow 0 0 ⟨#[112]⟩ ⟨#[]⟩ [], fxRow 1 0 ⟨#[112]⟩ ⟨#[]⟩ []]) (inner := [.int .i64 0, .int .i64 0, .string ⟨#[112]⟩, .string ⟨#[]⟩, .slice none 0 0, .int .i64 1, .int .i64 0, .string ⟨#[112]⟩, .string ⟨#[]⟩, .slice none 0 0]) (ok := fun _ => True) (okp := fun _ => True) ?hr ?hp (fun _ hk => hk) trivial (Below.refl _ _) (Nat.le_refl _) (by simp) ?_; (case hd => rfl); (case hg => rfl); (case hr => first | (go_simp; done) | (go_simp; rfl)); (case hp => exact Reps.c5 (k35_mkM _ _ _ (fxRow 0 0 ⟨#[112]⟩ ⟨#[]⟩ []) (Kd.R_nil _ _ _ _ _)) (Reps.c5 (k35_mkM _ _ _ (fxRow 1 0 ⟨#[112]⟩ ⟨#[]⟩ []) (Kd.R_nil _ _ _ _ _)) (Reps.none _ _))); intro v1 w1 ho hb hg_ hn_; clear hg_ hn_; rw [← hpp.out] at ho; obtain ⟨Ap, cp, e, hl, hC⟩ := Kd.R_reads ho; subst e; have HP := Aside0.mk hC; have HPL := Aside0.mk hl; have HB := Aside0.mk (below_step HB.out hb); clear ho hb hl hC)
    | (go_at_call 19; (with_reducible refine (boltinglaw08_one.calls _ _ tP _ P0.out).mono ?_); rintro e wq ⟨v, rfl, ho, hb⟩; obtain ⟨A, c, e, hl, hC⟩ := Kd.S_reads ho; subst e; have HC := Aside0.mk hC; have HL := Aside0.mk hl; have HP := Aside0.mk (Kd.C_below (by (with_reducible repeat (first | refine Kd.C_alloc ?_ _ | refine Kd.C_drewN ?_ _ | refine Kd.C_drew ?_)); exact HP.out) hb); have HB := Aside0.mk (below_step (by repeat (first | (with_reducible first | exact HB.out | apply below_alloc | apply pw_below_drewN | apply below_drew1) | exact HB.out)) hb); clear hl hC ho hb)
    | (go_at_call 19; (with_reducible refine (boltinglaw08_one.calls _ _ tS _ S0.out).mono ?_); rintro e wq ⟨v, rfl, ho, hb⟩; obtain ⟨A, c, e, hl, hC⟩ := Kd.S_reads ho; subst e; have HC := Aside0.mk hC; have HL := Aside0.mk hl; have HP := Aside0.mk (Kd.C_below (by (with_reducible repeat (first | refine Kd.C_alloc ?_ _ | refine Kd.C_drewN ?_ _ | refine Kd.C_drew ?_)); exact HP.out) hb); have HB := Aside0.mk (below_step (by repeat (first | (with_reducible first | exact HB.out | apply below_alloc | apply pw_below_drewN | apply below_drew1) | exact HB.out)) hb); clear hl hC ho hb)
    | (go_at_call 19; (with_reducible refine (boltinglaw08_one.calls _ _ tE _ E0.out).mono ?_); rintro e wq ⟨v, rfl, ho, hb⟩; obtain ⟨A, c, e, hl, hC⟩ := Kd.S_reads ho; subst e; have HC := Aside0.mk hC; have HL := Aside0.mk hl; have HP := Aside0.mk (Kd.C_below (by (with_reducible repeat (first | refine Kd.C_alloc ?_ _ | refine Kd.C_drewN ?_ _ | refine Kd.C_drew ?_)); exact HP.out) hb); have HB := Aside0.mk (below_step (by repeat (first | (with_reducible first | exact HB.out | apply below_alloc | apply pw_below_drewN | apply below_drew1) | exact HB.out)) hb); clear hl hC ho hb)
    | (go_at_call 19; (with_reducible refine (boltinglaw08_one.calls _ _ tB _ B0.out).mono ?_); rintro e wq ⟨v, rfl, ho, hb⟩; obtain ⟨A, c, e, hl, hC⟩ := Kd.S_reads ho; subst e; have HC := Aside0.mk hC; have HL := Aside0.mk hl; have HP := Aside0.mk (Kd.C_below (by (with_reducible repeat (first | refine Kd.C_alloc ?_ _ | refine Kd.C_drewN ?_ _ | refine Kd.C_drew ?_)); exact HP.out) hb); have HB := Aside0.mk (below_step (by repeat (first | (with_reducible first | exact HB.out | apply below_alloc | apply pw_below_drewN | apply below_drew1) | exact HB.out)) hb); clear hl hC ho hb)
    | (go_at_call 9; (with_reducible refine (write_Rows.calls _ _ tP rP _ ?s1 HL.out P2.out).mono ?_); (case s1 => exact (by (with_reducible repeat (first | refine Kd.C_alloc ?_ _ | refine Kd.C_drewN ?_ _ | refine Kd.C_drew ?_)); exact HC.out)); rintro e wq ⟨rfl, hb⟩; have HP := Aside0.mk (Kd.C_below (by (with_reducible repeat (first | refine Kd.C_alloc ?_ _ | refine Kd.C_drewN ?_ _ | refine Kd.C_drew ?_)); exact HP.out) hb); have HB := Aside0.mk (below_step (by repeat (first | (with_reducible first | exact HB.out | apply below_alloc | apply pw_below_drewN | apply below_drew1) | exact HB.out)) hb); clear hb)
    | (go_at_call 9; (with_reducible refine (write_Rows.calls _ _ tS rS _ ?s1 HL.out S2.out).mono ?_); (case s1 => exact (by (with_reducible repeat (first | refine Kd.C_alloc ?_ _ | refine Kd.C_drewN ?_ _ | refine Kd.C_drew ?_)); exact HC.out)); rintro e wq ⟨rfl, hb⟩; have HP := Aside0.mk (Kd.C_below (by (with_reducible repeat (first | refine Kd.C_alloc ?_ _ | refine Kd.C_drewN ?_ _ | refine Kd.C_drew ?_)); exact HP.out) hb); have HB := Aside0.mk (below_step (by repeat (first | (with_reducible first | exact HB.out | apply below_alloc | apply pw_below_drewN | apply below_drew1) | exact HB.out)) hb); clear hb)
    | (go_at_call 9; (with_reducible refine (write_Rows.calls _ _ z rZ _ ?s1 HL.out Z1.out).mono ?_); (case s1 => exact (by (with_reducible repeat (first | refine Kd.C_alloc ?_ _ | refine Kd.C_drewN ?_ _ | refine Kd.C_drew ?_)); exact HC.out)); rintro e wq ⟨rfl, hb⟩; have HP := Aside0.mk (Kd.C_below (by (with_reducible repeat (first | refine Kd.C_alloc ?_ _ | refine Kd.C_drewN ?_ _ | refine Kd.C_drew ?_)); exact HP.out) hb); have HB := Aside0.mk (below_step (by repeat (first | (with_reducible first | exact HB.out | apply below_alloc | apply pw_below_drewN | apply below_drew1) | exact HB.out)) hb); clear hb)
    | (go_at_call 11; (with_reducible refine (write_Inside.calls 100 _ _ tP 0 iP _ ?s1 HL.out P3.out).mono ?_); (case s1 => exact (by (with_reducible repeat (first | refine Kd.C_alloc ?_ _ | refine Kd.C_drewN ?_ _ | refine Kd.C_drew ?_)); exact HC.out)); rintro e wq ⟨rfl, hb⟩; have HP := Aside0.mk (Kd.C_below (by (with_reducible repeat (first | refine Kd.C_alloc ?_ _ | refine Kd.C_drewN ?_ _ | refine Kd.C_drew ?_)); exact HP.out) hb); have HB := Aside0.mk (below_step (by repeat (first | (with_reducible first | exact HB.out | apply below_alloc | apply pw_below_drewN | apply below_drew1) | exact HB.out)) hb); clear hb)
    | ((with_reducible refine gate_dst (N := 20) rfl ?_); (try (refine gate_guard (by rfl) ?_; dsimp only)); refine Kd.R_lit k41 _ 41 ?hg (N := 20) ?hd (xs := [⟨⟨#[97]⟩, ⟨#[34]⟩⟩]) (inner := [.string ⟨#[97]⟩, .string ⟨#[34]⟩]) (ok := fun _ => True) (okp := fun _ => True) ?hr ?hp (fun _ hk => hk) trivial (Below.refl _ _) (Nat.le_refl _) (by simp) ?_; (case hd => rfl); (case hg => rfl); (case hr => first | (go_simp; done) | (go_simp; rfl)); (case hp => exact Reps.c2 (k41_mkM _ _ _ ⟨⟨#[97]⟩, ⟨#[34]⟩⟩) (Reps.none _ _)); intro v1 w1 ho hb hg_ hn_; clear hg_ hn_; rw [← hy.out] at ho; obtain ⟨Ay, cy, e, hl, hC⟩ := Kd.R_reads ho; subst e; have HY := Aside0.mk hC; have HYL := Aside0.mk hl; have HP := Aside0.mk (Kd.C_below (by (with_reducible repeat (first | refine Kd.C_alloc ?_ _ | refine Kd.C_drewN ?_ _ | refine Kd.C_drew ?_)); exact HP.out) hb); have HB := Aside0.mk (below_step (by repeat (first | (with_reducible first | exact HB.out | apply below_alloc | apply pw_below_drewN | apply below_drew1) | exact HB.out)) hb); clear ho hb hl hC)
    | ((with_reducible refine gate_dst (N := 23) rfl ?_); (try (refine gate_guard (by rfl) ?_; dsimp only)); refine Kd.N_lit k35 _ 35 ?hg (N' := 23) ?hd (xs := [fxRow 0 0 ⟨#[98, 114]⟩ ⟨#[]⟩ y, fxRow 0 2 ⟨#[]⟩ ⟨#[99]⟩ []]) (inner := [.int .i64 0, .int .i64 0, .string ⟨#[98, 114]⟩, .string ⟨#[]⟩, .slice Ay y.length cy, .int .i64 0, .int .i64 2, .string ⟨#[]⟩, .string ⟨#[99]⟩, .slice none 0 0]) (ok := fun _ => True) (okp := fun _ => True) ?hr ?hp (fun _ hk => hk) trivial (Below.refl _ _) (Nat.le_refl _) (by simp) ?_; (case hd => rfl); (case hg => rfl); (case hr => first | (go_simp; done) | (go_simp; rfl)); (case hp => exact Reps.c5 (k35_mkF _ _ (fxRow 0 0 ⟨#[98, 114]⟩ ⟨#[]⟩ y) HYL.out (Kd.F_mono (Kd.C_F k41_heap (by (with_reducible repeat (first | refine Kd.C_alloc ?_ _ | refine Kd.C_drewN ?_ _ | refine Kd.C_drew ?_)); exact HY.out)) (fun _ _ => trivial))) (Reps.c5 (k35_mkF _ _ (fxRow 0 2 ⟨#[]⟩ ⟨#[99]⟩ []) (Nat.le_refl _) (Kd.F_nil _ _ _)) (Reps.none _ _))); intro v1 w1 ho hb hg_ hn_; clear hg_ hn_; rw [← hz.out] at ho; obtain ⟨A, c, e, hl, hC⟩ := Kd.N_reads ho; subst e; have HC := Aside0.mk hC; have HL := Aside0.mk hl; have HP := Aside0.mk (Kd.C_below (by (with_reducible repeat (first | refine Kd.C_alloc ?_ _ | refine Kd.C_drewN ?_ _ | refine Kd.C_drew ?_)); exact HP.out) hb); have HB := Aside0.mk (below_step (by repeat (first | (with_reducible first | exact HB.out | apply below_alloc | apply pw_below_drewN | apply below_drew1) | exact HB.out)) hb); clear ho hb hl hC)
    | (go_at_call 16; (with_reducible refine (write_Legal.calls 100 _ _ tP true _ ?s1 HL.out P1.out).mono ?_); (case s1 => exact (by (with_reducible repeat (first | refine Kd.C_alloc ?_ _ | refine Kd.C_drewN ?_ _ | refine Kd.C_drew ?_)); exact HC.out)); rintro e wq ⟨rfl, hb⟩; have HP := Aside0.mk (Kd.C_below (by (with_reducible repeat (first | refine Kd.C_alloc ?_ _ | refine Kd.C_drewN ?_ _ | refine Kd.C_drew ?_)); exact HP.out) hb); have HB := Aside0.mk (below_step (by repeat (first | (with_reducible first | exact HB.out | apply below_alloc | apply pw_below_drewN | apply below_drew1) | exact HB.out)) hb); clear hb)
    | (go_at_call 16; (with_reducible refine (write_Legal.calls 100 _ _ tS true _ ?s1 HL.out S1.out).mono ?_); (case s1 => exact (by (with_reducible repeat (first | refine Kd.C_alloc ?_ _ | refine Kd.C_drewN ?_ _ | refine Kd.C_drew ?_)); exact HC.out)); rintro e wq ⟨rfl, hb⟩; have HP := Aside0.mk (Kd.C_below (by (with_reducible repeat (first | refine Kd.C_alloc ?_ _ | refine Kd.C_drewN ?_ _ | refine Kd.C_drew ?_)); exact HP.out) hb); have HB := Aside0.mk (below_step (by repeat (first | (with_reducible first | exact HB.out | apply below_alloc | apply pw_below_drewN | apply below_drew1) | exact HB.out)) hb); clear hb)
    | (go_at_call 16; (with_reducible refine (write_Legal.calls 100 _ _ tE false _ ?s1 HL.out E1.out).mono ?_); (case s1 => exact (by (with_reducible repeat (first | refine Kd.C_alloc ?_ _ | refine Kd.C_drewN ?_ _ | refine Kd.C_drew ?_)); exact HC.out)); rintro e wq ⟨rfl, hb⟩; have HP := Aside0.mk (Kd.C_below (by (with_reducible repeat (first | refine Kd.C_alloc ?_ _ | refine Kd.C_drewN ?_ _ | refine Kd.C_drew ?_)); exact HP.out) hb); have HB := Aside0.mk (below_step (by repeat (first | (with_reducible first | exact HB.out | apply below_alloc | apply pw_below_drewN | apply below_drew1) | exact HB.out)) hb); clear hb)
    | (go_at_call 16; (with_reducible refine (write_Legal.calls 100 _ _ tB false _ ?s1 HL.out B1.out).mono ?_); (case s1 => exact (by (with_reducible repeat (first | refine Kd.C_alloc ?_ _ | refine Kd.C_drewN ?_ _ | refine Kd.C_drew ?_)); exact HC.out)); rintro e wq ⟨rfl, hb⟩; have HP := Aside0.mk (Kd.C_below (by (with_reducible repeat (first | refine Kd.C_alloc ?_ _ | refine Kd.C_drewN ?_ _ | refine Kd.C_drew ?_)); exact HP.out) hb); have HB := Aside0.mk (below_step (by repeat (first | (with_reducible first | exact HB.out | apply below_alloc | apply pw_below_drewN | apply below_drew1) | exact HB.out)) hb); clear hb)
    | (go_at_call 16; (with_reducible refine (write_Legal.calls 100 _ _ pp false _ ?s1 HPL.out Q1.out).mono ?_); (case s1 => exact (by (with_reducible repeat (first | refine Kd.C_alloc ?_ _ | refine Kd.C_drewN ?_ _ | refine Kd.C_drew ?_)); exact HP.out)); rintro e wq ⟨rfl, hb⟩; have HP := Aside0.mk (Kd.C_below (by (with_reducible repeat (first | refine Kd.C_alloc ?_ _ | refine Kd.C_drewN ?_ _ | refine Kd.C_drew ?_)); exact HP.out) hb); have HB := Aside0.mk (below_step (by repeat (first | (with_reducible first | exact HB.out | apply below_alloc | apply pw_below_drewN | apply below_drew1) | exact HB.out)) hb); clear hb))
  go_ret
  exact ⟨rfl, (by repeat (first | (with_reducible first | exact HB.out | apply below_alloc | apply pw_below_drewN | apply below_drew1) | exact HB.out))⟩
end Go.Proofs.YtpnhjipaeggcpaaDoor.X
end
section
namespace Go.Proofs.YtpnhjipaeggcpaaDoor.X
open Go.RowKit Go.Proofs.YtpnhjipaeggcpaaDoorW.PrintWords Go.Proofs.YtpnhjipaeggcpaaDoorW.PrintLast Go.Proofs.YtpnhjipaeggcpaaDoorW.PrintMore
attribute [local go_sem] max2_int min2_int max_two min_two max_three min_three max_four min_four
def boltinglaw08_WriteParts.l0 : Nat → List (S35) → ByteArray → List Int → Int → Option (Bool)
 | 0, _, _, _, _ => none
 | k + 1, x0, x3, x4, x5 => if x5 < (x4.length : Int) then (if 0 ≤ x5 then ((boltingref04_End.f k x0 (rd x4 x5)).bind fun t242 => (if 0 ≤ (rd x4 x5) then (if (rd x4 x5) ≤ t242 then (if t242 ≤ (x0.length : Int) then ((boltingref04_Moved.f k ((x0.take (t242 : Int).toNat).drop ((rd x4 x5) : Int).toNat) 0).bind fun t248 => ((write_Rows.f t248).bind fun t251 => (if x3.size + t251.size ≤ 9223372036854775807 then ((write_Inside.f k t248 0).bind fun t252 => (if 0 < (t248.length : Int) then (if 2 + ((rd_T35 t248 0).f2).size ≤ 9223372036854775807 then (if ((⟨#[60, 47]⟩ : ByteArray) ++ ((rd_T35 t248 0).f2)).size + 1 ≤ 9223372036854775807 then (if ((rd_T35 t248 0).f1) = 0 then (if t252.toList = ([] : List UInt8) then (boltinglaw08_WriteParts.l0 k x0 (x3 ++ t251) x4 (wrap64 (x5 + 1))) else (if (t251.size : Int) < (wrap64 ((t252.size : Int) + ((((⟨#[60, 47]⟩ : ByteArray) ++ ((rd_T35 t248 0).f2)) ++ (⟨#[62]⟩ : ByteArray)).size : Int))) then (some false) else (if 0 ≤ (wrap64 ((t251.size : Int) - ((((⟨#[60, 47]⟩ : ByteArray) ++ ((rd_T35 t248 0).f2)) ++ (⟨#[62]⟩ : ByteArray)).size : Int))) then (if (wrap64 ((t251.size : Int) - ((((⟨#[60, 47]⟩ : ByteArray) ++ ((rd_T35 t248 0).f2)) ++ (⟨#[62]⟩ : ByteArray)).size : Int))) ≤ (t251.size : Int) then (if (t251.extract ((wrap64 ((t251.size : Int) - ((((⟨#[60, 47]⟩ : ByteArray) ++ ((rd_T35 t248 0).f2)) ++ (⟨#[62]⟩ : ByteArray)).size : Int))) : Int).toNat t251.size).toList = (((⟨#[60, 47]⟩ : ByteArray) ++ ((rd_T35 t248 0).f2)) ++ (⟨#[62]⟩ : ByteArray)).toList then (if 0 ≤ (wrap64 ((wrap64 ((t251.size : Int) - ((((⟨#[60, 47]⟩ : ByteArray) ++ ((rd_T35 t248 0).f2)) ++ (⟨#[62]⟩ : ByteArray)).size : Int))) - (t252.size : Int))) then (if (wrap64 ((wrap64 ((t251.size : Int) - ((((⟨#[60, 47]⟩ : ByteArray) ++ ((rd_T35 t248 0).f2)) ++ (⟨#[62]⟩ : ByteArray)).size : Int))) - (t252.size : Int))) ≤ (wrap64 ((t251.size : Int) - ((((⟨#[60, 47]⟩ : ByteArray) ++ ((rd_T35 t248 0).f2)) ++ (⟨#[62]⟩ : ByteArray)).size : Int))) then (if (t251.extract ((wrap64 ((wrap64 ((t251.size : Int) - ((((⟨#[60, 47]⟩ : ByteArray) ++ ((rd_T35 t248 0).f2)) ++ (⟨#[62]⟩ : ByteArray)).size : Int))) - (t252.size : Int))) : Int).toNat ((wrap64 ((t251.size : Int) - ((((⟨#[60, 47]⟩ : ByteArray) ++ ((rd_T35 t248 0).f2)) ++ (⟨#[62]⟩ : ByteArray)).size : Int))) : Int).toNat).toList = t252.toList then (boltinglaw08_WriteParts.l0 k x0 (x3 ++ t251) x4 (wrap64 (x5 + 1))) else (some false)) else (none)) else (none)) else (some false)) else (none)) else (none)))) else (boltinglaw08_WriteParts.l0 k x0 (x3 ++ t251) x4 (wrap64 (x5 + 1)))) else (none)) else (none)) else (none))) else (none)))) else (none)) else (none)) else (none))) else (none)) else ((write_Rows.f x0).bind fun t237 => (if t237.toList = x3.toList then ((write_Inside.f k x0 (-1)).bind fun t238 => (if t238.toList = x3.toList then ((boltinglaw08_fixed.f k).bind fun t239 => (some t239)) else (some false))) else (some false)))
def boltinglaw08_WriteParts.f (k : Nat) (l0 : List (S35)) : Option (Bool) := (boltinglaw08_bound.f k l0).bind fun t229 => ((boltingref04_Right.f k t229).bind fun t232 => (if t232 = true then ((boltingref04_Kids.f t229 (-1)).bind fun t234 => (boltinglaw08_WriteParts.l0 k t229 (⟨#[]⟩ : ByteArray) t234 0)) else ((boltinglaw08_fixed.f k).bind fun t233 => (some t233))))
def boltinglaw08_WriteParts.T9 : Bool × List (List Nat × List Nat) := (true, [([], []), ([], []), ([], []), ([1, 2], [1, 2]), ([3], [3]), ([], []), ([], []), ([], []), ([6, 7], [6, 7]), ([8], [8]), ([5, 9], [5, 9]), ([0, 4, 10], [0, 4, 10]), ([11, 10], [11]), ([12, 12, 0, 1, 2, 3, 4, 5, 6, 7, 8, 9, 10, 11, 12], [12])])
def boltinglaw08_WriteParts.B9 : List Nat := [0, 0, 0, 6, 14, 0, 0, 0, 192, 448, 992, 2047, 4095, 8191]
theorem boltinglaw08_WriteParts.tab9 : rtab .any (opsOf Tryd.f4 9) = boltinglaw08_WriteParts.T9 := by kernel_rfl
theorem boltinglaw08_WriteParts.bits9 : waitsOk boltinglaw08_WriteParts.T9.2 boltinglaw08_WriteParts.B9 = true := by kernel_rfl
set_option maxHeartbeats 8000000 in
set_option maxRecDepth 100000 in
theorem boltinglaw08_WriteParts.calls (k : Nat) (A0 : Option Addr) (c0 : Nat) (l0 : List (S35)) (r : Bool) (w : World) (hr0 : Kd.C k35 w A0 l0.length l0) (hc0 : l0.length ≤ c0) (h : boltinglaw08_WriteParts.f k l0 = some r) (hT : WF w := by exact WF.below hT y23_) :
  Calls Tryd.prog 4 #[.slice A0 l0.length c0] w fun e w' => e = .returned (.bool r) ∧ Below w.heap.size w w' := by
 have hu35 := Tryd.underlying35
 have HR0 := Aside0.mk hr0
 have HC0 := Aside0.mk hc0
 clear hr0 hc0
 have HB := Aside0.mk (Below.refl w.heap.size w)
 have H : ((boltinglaw08_bound.f k l0).bind fun t229 => ((boltingref04_Right.f k t229).bind fun t232 => (if t232 = true then ((boltingref04_Kids.f t229 (-1)).bind fun t234 => (boltinglaw08_WriteParts.l0 k t229 (⟨#[]⟩ : ByteArray) t234 0)) else ((boltinglaw08_fixed.f k).bind fun t233 => (some t233))))) = some r := h
 clear h
 replace H := Option.bind_eq_some_iff.mp H
 obtain ⟨t229, A20, H⟩ := H
 have A2 := Aside0.mk A20
 clear A20
 replace H := Option.bind_eq_some_iff.mp H
 obtain ⟨t232, A30, H⟩ := H
 have A3 := Aside0.mk A30
 clear A30
 by_cases c4 : t232 = true
 ·subst c4
  rw [if_pos rfl] at H
  replace H := Option.bind_eq_some_iff.mp H
  obtain ⟨t234, A50, H⟩ := H
  have A5 := Aside0.mk A50
  clear A50
  have H' := Aside0.mk H
  clear H
  go_enter Tryd.func4, Tryd.ntmps4
  go_wp2_with (first | ((with_reducible refine gate_callee (f := 6) rfl ?_); refine goesL_ (some 12) rfl rfl Tryd.func6 (by kernel_rfl) rfl #[.slice A0 l0.length c0] rfl y14_ ?_; (with_reducible refine (boltinglaw08_bound.calls k (fun k_ => k_ < w.heap.size) _ _ l0 t229 _ ?side1 A2.out).mono ?_); (case side1 => exact Kd.V_mk HC0.out (Kd.F_below (Kd.C_F k35_heap HR0.out) y13_)); rintro e w6 ⟨v230, rfl, ho0, hb⟩; refine ⟨_, rfl, ?_⟩; have n0_ := Aside0.mk (Kd.N_lower (Kd.N_mono (ok' := fun k_ => True) ho0 (fun k_ hk_ => trivial)) (below_size y13_)); have n1_ := Aside0.mk (below_step y13_ hb); clear HB; have HO231 := n0_; have HB := n1_; clear n0_ n1_; (try clear hb); (try clear hb2); (try clear hk); (try clear hi); (try clear ho0); obtain ⟨Ao7, co7, eo7⟩ := Kd.N_slice HO231.out; subst eo7) | ((with_reducible refine gate_callee (f := 7) rfl ?_); refine goesL_ (some 14) rfl rfl Tryd.func7 (by kernel_rfl) rfl #[.slice Ao7 t229.length co7] rfl y14_ ?_; (with_reducible refine (boltingref04_Right.calls k _ _ t229 true _ ?side1 ?side2 A3.out).mono ?_); (case side1 => repeat (first | exact (Kd.N_reads' HO231.out).2.2 | (with_reducible refine Kd.C_alloc ?_ _) | (with_reducible refine Kd.C_drewN ?_ _) | (with_reducible refine Kd.C_drew ?_))); (case side2 => exact (Kd.N_reads' HO231.out).2.1); rintro e w8 ⟨rfl, hb⟩; refine ⟨_, rfl, ?_⟩; have n0_ := Aside0.mk (Kd.N_below (y8_ HO231.out) hb); have n1_ := Aside0.mk (below_step y13_ hb); clear HO231; clear HB; have HO231 := n0_; have HB := n1_; clear n0_ n1_; (try clear hb); (try clear hb2); (try clear hk); (try clear hi)) | ((with_reducible refine gate_callee (f := 13) rfl ?_); refine goesL_ (some 18) rfl rfl Tryd.func13 (by kernel_rfl) rfl #[.slice Ao7 t229.length co7, .int .i64 (-1)] rfl y14_ ?_; (with_reducible refine (boltingref04_Kids.calls _ _ t229 (-1) t234 _ ?side1 ?side2 A5.out).mono ?_); (case side1 => repeat (first | exact (Kd.N_reads' HO231.out).2.2 | (with_reducible refine Kd.C_alloc ?_ _) | (with_reducible refine Kd.C_drewN ?_ _) | (with_reducible refine Kd.C_drew ?_))); (case side2 => exact (Kd.N_reads' HO231.out).2.1); rintro e w9 ⟨v235, rfl, ho0, hb⟩; refine ⟨_, rfl, ?_⟩; have n0_ := Aside0.mk (Kd.N_elder' (y8_ HO231.out) (Kd.R_base ho0) hb); have n1_ := Aside0.mk (Kd.R_lower ho0 (below_size y13_)); have n2_ := Aside0.mk (below_step y13_ hb); clear HO231; clear HB; have HO231 := n0_; have HO236 := n1_; have HB := n2_; clear n0_ n1_ n2_; (try clear hb); (try clear hb2); (try clear hk); (try clear hi); (try clear ho0)))
  go_loopg [3, 5] k (fun kq v3 v5 w' => ∃ (x3_1 : ByteArray) (x5_1 : Int), v3 = .string x3_1 ∧ v5 = .int .i64 x5_1 ∧ Aside0 (boltinglaw08_WriteParts.l0 kq t229 x3_1 t234 x5_1 = some r) ∧ Aside0 (kq ≤ k) ∧ Aside0 (Kd.N k35 35 w' w.heap.size (fun k_ => some k_ ≠ (v235 : Value).ownBlock) (.slice Ao7 t229.length co7) t229) ∧ Aside0 (Kd.R (Kd.int .i64) 3 w' w.heap.size (fun _ => True) v235 t234) ∧ Aside0 (Below w.heap.size w w'))
  case atStart => exact ⟨((⟨#[]⟩ : ByteArray)), (0), y4_, y4_, H', ⟨Nat.le_refl _⟩, ⟨by (with_reducible repeat (first | apply Kd.N_alloc | apply Kd.N_drewN | apply Kd.N_drew)); exact Kd.N_mono HO231.out (fun _ hk => hk.2)⟩, ⟨by (with_reducible repeat (first | apply Kd.R_alloc | apply Kd.R_drewN | apply Kd.R_drew)); exact HO236.out⟩, ⟨y13_⟩⟩
  case round =>
   clear H'
   try clear c1
   try clear p2
   try clear c4
   try clear c6
   try clear c7
   obtain ⟨x3_1, x5_1, rfl, rfl, HA, HK1, HO_0, HO_4, HB⟩ := hrel
   cases gk with
   | zero => exact absurd HA.out (by simp [boltinglaw08_WriteParts.l0])
   | succ k1 =>
    have H := HA.out
    clear HA
    simp only [boltinglaw08_WriteParts.l0] at H
    by_cases c10 : x5_1 < (t234.length : Int)
    ·rw [if_pos c10] at H
     have c10b0 : decide (x5_1 < (t234.length : Int)) = true := decide_eq_true c10
     clear c10
     by_cases c11 : 0 ≤ x5_1
     rotate_left
     ·rw [if_neg c11] at H
      exact absurd H (by simp)
     rw [if_pos c11] at H
     have c11b0 : decide (0 ≤ x5_1) = true := decide_eq_true c11
     clear c11
     replace H := Option.bind_eq_some_iff.mp H
     obtain ⟨t242, A120, H⟩ := H
     have A12 := Aside0.mk A120
     clear A120
     by_cases c13 : 0 ≤ (rd t234 x5_1)
     rotate_left
     ·rw [if_neg c13] at H
      exact absurd H (by simp)
     rw [if_pos c13] at H
     have c13b0 := eq_true c13
     have c13b1 : decide (0 ≤ (rd t234 x5_1)) = true := decide_eq_true c13
     clear c13
     by_cases c14 : (rd t234 x5_1) ≤ t242
     rotate_left
     ·rw [if_neg c14] at H
      exact absurd H (by simp)
     rw [if_pos c14] at H
     have c14b0 := eq_true c14
     have c14b1 : decide ((rd t234 x5_1) ≤ t242) = true := decide_eq_true c14
     clear c14
     by_cases c15 : t242 ≤ (t229.length : Int)
     rotate_left
     ·rw [if_neg c15] at H
      exact absurd H (by simp)
     rw [if_pos c15] at H
     have c15b0 := eq_true c15
     have c15b1 : decide (t242 ≤ (t229.length : Int)) = true := decide_eq_true c15
     clear c15
     obtain ⟨y243, hy243⟩ : ∃ y_ : List (S35), y_ = ((t229.take (t242 : Int).toNat).drop ((rd t234 x5_1) : Int).toNat) := ⟨_, rfl⟩
     replace H : ((boltingref04_Moved.f k1 y243 0).bind fun t248 => ((write_Rows.f t248).bind fun t251 => (if x3_1.size + t251.size ≤ 9223372036854775807 then ((write_Inside.f k1 t248 0).bind fun t252 => (if 0 < (t248.length : Int) then (if 2 + ((rd_T35 t248 0).f2).size ≤ 9223372036854775807 then (if ((⟨#[60, 47]⟩ : ByteArray) ++ ((rd_T35 t248 0).f2)).size + 1 ≤ 9223372036854775807 then (if ((rd_T35 t248 0).f1) = 0 then (if t252.toList = ([] : List UInt8) then (boltinglaw08_WriteParts.l0 k1 t229 (x3_1 ++ t251) t234 (wrap64 (x5_1 + 1))) else (if (t251.size : Int) < (wrap64 ((t252.size : Int) + ((((⟨#[60, 47]⟩ : ByteArray) ++ ((rd_T35 t248 0).f2)) ++ (⟨#[62]⟩ : ByteArray)).size : Int))) then (some false) else (if 0 ≤ (wrap64 ((t251.size : Int) - ((((⟨#[60, 47]⟩ : ByteArray) ++ ((rd_T35 t248 0).f2)) ++ (⟨#[62]⟩ : ByteArray)).size : Int))) then (if (wrap64 ((t251.size : Int) - ((((⟨#[60, 47]⟩ : ByteArray) ++ ((rd_T35 t248 0).f2)) ++ (⟨#[62]⟩ : ByteArray)).size : Int))) ≤ (t251.size : Int) then (if (t251.extract ((wrap64 ((t251.size : Int) - ((((⟨#[60, 47]⟩ : ByteArray) ++ ((rd_T35 t248 0).f2)) ++ (⟨#[62]⟩ : ByteArray)).size : Int))) : Int).toNat t251.size).toList = (((⟨#[60, 47]⟩ : ByteArray) ++ ((rd_T35 t248 0).f2)) ++ (⟨#[62]⟩ : ByteArray)).toList then (if 0 ≤ (wrap64 ((wrap64 ((t251.size : Int) - ((((⟨#[60, 47]⟩ : ByteArray) ++ ((rd_T35 t248 0).f2)) ++ (⟨#[62]⟩ : ByteArray)).size : Int))) - (t252.size : Int))) then (if (wrap64 ((wrap64 ((t251.size : Int) - ((((⟨#[60, 47]⟩ : ByteArray) ++ ((rd_T35 t248 0).f2)) ++ (⟨#[62]⟩ : ByteArray)).size : Int))) - (t252.size : Int))) ≤ (wrap64 ((t251.size : Int) - ((((⟨#[60, 47]⟩ : ByteArray) ++ ((rd_T35 t248 0).f2)) ++ (⟨#[62]⟩ : ByteArray)).size : Int))) then (if (t251.extract ((wrap64 ((wrap64 ((t251.size : Int) - ((((⟨#[60, 47]⟩ : ByteArray) ++ ((rd_T35 t248 0).f2)) ++ (⟨#[62]⟩ : ByteArray)).size : Int))) - (t252.size : Int))) : Int).toNat ((wrap64 ((t251.size : Int) - ((((⟨#[60, 47]⟩ : ByteArray) ++ ((rd_T35 t248 0).f2)) ++ (⟨#[62]⟩ : ByteArray)).size : Int))) : Int).toNat).toList = t252.toList then (boltinglaw08_WriteParts.l0 k1 t229 (x3_1 ++ t251) t234 (wrap64 (x5_1 + 1))) else (some false)) else (none)) else (none)) else (some false)) else (none)) else (none)))) else (boltinglaw08_WriteParts.l0 k1 t229 (x3_1 ++ t251) t234 (wrap64 (x5_1 + 1)))) else (none)) else (none)) else (none))) else (none)))) = some r := by first | (rw [hy243]; with_reducible exact H) | (have H2_ := (Option.bind_some _ _).symm.trans H; rw [hy243]; with_reducible exact H2_) | (have H2_ := (Option.bind_some _ _).symm.trans H; with_reducible exact H2_) | with_reducible exact H | (rw [hy243]; exact H) | exact H
     have Ny243 := Aside0.mk hy243
     clear hy243
     replace H := Option.bind_eq_some_iff.mp H
     obtain ⟨t248, A160, H⟩ := H
     have A16 := Aside0.mk A160
     clear A160
     replace H := Option.bind_eq_some_iff.mp H
     obtain ⟨t251, A170, H⟩ := H
     have A17 := Aside0.mk A170
     clear A170
     by_cases c18 : x3_1.size + t251.size ≤ 9223372036854775807
     rotate_left
     ·rw [if_neg c18] at H
      exact absurd H (by simp)
     rw [if_pos c18] at H
     have c18b0 := eq_true c18
     have c18b1 : decide (x3_1.size + t251.size ≤ 9223372036854775807) = true := decide_eq_true c18
     try have c18b2 : (9223372036854775807 < x3_1.size + t251.size) = False := eq_false (Nat.not_lt.2 c18)
     replace H := Option.bind_eq_some_iff.mp H
     obtain ⟨t252, A190, H⟩ := H
     have A19 := Aside0.mk A190
     clear A190
     by_cases c20 : 0 < (t248.length : Int)
     rotate_left
     ·rw [if_neg c20] at H
      exact absurd H (by simp)
     rw [if_pos c20] at H
     have c20b0 : decide (0 < (t248.length : Int)) = true := decide_eq_true c20
     have c20b1 : decide (0 < t248.length) = true := decide_eq_true (by omega)
     clear c20
     by_cases c21 : 2 + ((rd_T35 t248 0).f2).size ≤ 9223372036854775807
     rotate_left
     ·rw [if_neg c21] at H
      exact absurd H (by simp)
     rw [if_pos c21] at H
     have c21b0 := eq_true c21
     have c21b1 : decide (2 + ((rd_T35 t248 0).f2).size ≤ 9223372036854775807) = true := decide_eq_true c21
     try have c21b2 : (9223372036854775807 < 2 + ((rd_T35 t248 0).f2).size) = False := eq_false (Nat.not_lt.2 c21)
     by_cases c22 : ((⟨#[60, 47]⟩ : ByteArray) ++ ((rd_T35 t248 0).f2)).size + 1 ≤ 9223372036854775807
     rotate_left
     ·rw [if_neg c22] at H
      exact absurd H (by simp)
     rw [if_pos c22] at H
     have c22b0 := eq_true c22
     have c22b1 : decide (((⟨#[60, 47]⟩ : ByteArray) ++ ((rd_T35 t248 0).f2)).size + 1 ≤ 9223372036854775807) = true := decide_eq_true c22
     try have c22b2 : (9223372036854775807 < ((⟨#[60, 47]⟩ : ByteArray) ++ ((rd_T35 t248 0).f2)).size + 1) = False := eq_false (Nat.not_lt.2 c22)
     try (have c22p_ := c22b2; simp only [ByteArray.size_append, lit_size, List.length_cons, List.length_nil, Nat.reduceAdd, Nat.zero_add] at c22p_)
     obtain ⟨Ao25, co25, eo25⟩ := Kd.R_slice HO_4.out
     subst eo25
     try go_wp2
     have n0_ := Aside0.mk (Kd.N_drew HO_0.out)
     have n1_ := Aside0.mk (Kd.R_drew HO_4.out)
     have n2_ := Aside0.mk (below_drew1 HB.out)
     clear HO_0
     clear HO_4
     clear HB
     have HO_0 := n0_
     have HO_4 := n1_
     have HB := n2_
     clear n0_ n1_ n2_
     have p240 : 0 ≤ (x5_1 : Int) := of_decide_eq_true y2_
     have q240 : x5_1 < (t234.length : Int) := of_decide_eq_true y2_
     obtain ⟨ad240, e240, hx240_0⟩ := Kd.at_int (Kd.R_reads' HO_4.out).2.2 x5_1 p240 q240
     cases e240
     replace p240 := eq_true p240
     replace q240 := eq_true q240
     have p241 : 0 ≤ (x5_1 : Int) := of_decide_eq_true y2_
     have q241 : x5_1 < (t234.length : Int) := of_decide_eq_true y2_
     obtain ⟨ad241, e241, hx241_0⟩ := Kd.at_int (Kd.R_reads' HO_4.out).2.2 x5_1 p241 q241
     obtain rfl : ad240 = ad241 := (by injection e241)
     replace p241 := eq_true p241
     replace q241 := eq_true q241
     refine start_ (n := 14) (S := fun w' => w'.cell? (ad240.add (x5_1).toNat) = some (.int .i64 (rd t234 x5_1)) ∧ w'.cell? (ad240.add (x5_1).toNat) = some (.int .i64 (rd t234 x5_1))) (ds := []) #[false, false, false, false, false, false, false, false, false, false, false, false, false, false] (by kernel_rfl) rfl rfl ⟨hx240_0, hx241_0⟩ (fun hHeld => ?_); refine with_tabW boltinglaw08_WriteParts.tab9 boltinglaw08_WriteParts.bits9 (fun HT_ HW_ => ?_)
     generalize wr.drew = w26 at HO_0 HO_4 HB hx240_0 hx241_0 hHeld ⊢
     refine pure_ (i := 0) (N := some 25) (v := ?_) (a' := ?_) #[true, false, false, false, false, false, false, false, false, false, false, false, false, false] rfl rfl (any_of HT_.out (by kernel_rfl)) (fun _ _ _ h => h) (Or.inl ⟨by rfl, ?_⟩) ?_ ?_
     rotate_left
     ·intro w'
      go_simp
      with_reducible rfl
     rotate_left
     ·simp only [Act.put, List.setIfInBounds_toArray, List.set_cons_zero, List.set_cons_succ, i64_w, i32_w]
      rfl
     refine pure_ (i := 1) (N := some 26) (v := ?_) (a' := ?_) #[true, true, false, false, false, false, false, false, false, false, false, false, false, false] rfl rfl (any_of HT_.out (by kernel_rfl)) (fun _ _ _ h => h) (Or.inl ⟨by rfl, ?_⟩) ?_ ?_
     rotate_left
     ·intro w'
      go_simp
      with_reducible rfl
     rotate_left
     ·simp only [Act.put, List.setIfInBounds_toArray, List.set_cons_zero, List.set_cons_succ, i64_w, i32_w]
      rfl
     refine pure_ (i := 2) (N := some 27) (v := ?_) (a' := ?_) #[true, true, true, false, false, false, false, false, false, false, false, false, false, false] rfl rfl (any_of HT_.out (by kernel_rfl)) (fun _ _ _ h => h) (Or.inl ⟨by rfl, ?_⟩) ?_ ?_
     rotate_left
     ·intro w'
      go_simp
      with_reducible rfl
     rotate_left
     ·simp only [Act.put, List.setIfInBounds_toArray, List.set_cons_zero, List.set_cons_succ, i64_w, i32_w]
      rfl
     refine pure_ (i := 3) (N := some 28) (v := ?_) (a' := ?_) #[true, true, true, true, false, false, false, false, false, false, false, false, false, false] rfl rfl (any_of HT_.out (by kernel_rfl)) (fun _ _ _ h => h) (Or.inl ⟨by rfl, ?_⟩) ?_ ?_
     rotate_left
     ·intro w'
      go_simp
      with_reducible rfl
     rotate_left
     ·simp only [Act.put, List.setIfInBounds_toArray, List.set_cons_zero, List.set_cons_succ, i64_w, i32_w]
      rfl
     refine pure_ (i := 5) (N := some 30) (v := ?_) (a' := ?_) #[true, true, true, true, false, true, false, false, false, false, false, false, false, false] rfl rfl (any_of HT_.out (by kernel_rfl)) (fun _ _ _ h => h) (Or.inl ⟨by rfl, ?_⟩) ?_ ?_
     rotate_left
     ·intro w'
      go_simp
      with_reducible rfl
     rotate_left
     ·simp only [Act.put, List.setIfInBounds_toArray, List.set_cons_zero, List.set_cons_succ, i64_w, i32_w]
      rfl
     refine pure_ (i := 6) (N := some 31) (v := ?_) (a' := ?_) #[true, true, true, true, false, true, true, false, false, false, false, false, false, false] rfl rfl (any_of HT_.out (by kernel_rfl)) (fun _ _ _ h => h) (Or.inl ⟨by rfl, ?_⟩) ?_ ?_
     rotate_left
     ·intro w'
      go_simp
      with_reducible rfl
     rotate_left
     ·simp only [Act.put, List.setIfInBounds_toArray, List.set_cons_zero, List.set_cons_succ, i64_w, i32_w]
      rfl
     refine pure_ (i := 7) (N := some 32) (v := ?_) (a' := ?_) #[true, true, true, true, false, true, true, true, false, false, false, false, false, false] rfl rfl (any_of HT_.out (by kernel_rfl)) (fun _ _ _ h => h) (Or.inl ⟨by rfl, ?_⟩) ?_ ?_
     rotate_left
     ·intro w'
      go_simp
      with_reducible rfl
     rotate_left
     ·simp only [Act.put, List.setIfInBounds_toArray, List.set_cons_zero, List.set_cons_succ, i64_w, i32_w]
      rfl
     refine pure_ (i := 8) (N := some 33) (v := ?_) (a' := ?_) #[true, true, true, true, false, true, true, true, true, false, false, false, false, false] rfl rfl (any_of HT_.out (by kernel_rfl)) (fun _ _ _ h => h) (Or.inl ⟨by rfl, ?_⟩) ?_ ?_
     rotate_left
     ·intro w'
      go_simp
      with_reducible rfl
     rotate_left
     ·simp only [Act.put, List.setIfInBounds_toArray, List.set_cons_zero, List.set_cons_succ, i64_w, i32_w]
      rfl
     refine take_ (i := 4) (N := some 29) (v := ?_) (a' := ?_) #[true, true, true, true, true, true, true, true, true, false, false, false, false, false] rfl rfl (take_ofW HT_.out HW_.out (by kernel_rfl)) (fun _ _ _ h => h) (Or.inl ⟨by rfl, ?_⟩) hHeld ?_ ?_
     rotate_left
     ·rintro w' ⟨s0, s1⟩
      go_simp
      with_reducible rfl
     rotate_left
     ·simp only [Act.put, List.setIfInBounds_toArray, List.set_cons_zero, List.set_cons_succ, i64_w, i32_w]
      rfl
     refine take_ (i := 9) (N := some 34) (v := ?_) (a' := ?_) #[true, true, true, true, true, true, true, true, true, true, false, false, false, false] rfl rfl (take_ofW HT_.out HW_.out (by kernel_rfl)) (fun _ _ _ h => h) (Or.inl ⟨by rfl, ?_⟩) hHeld ?_ ?_
     rotate_left
     ·rintro w' ⟨s0, s1⟩
      go_simp
      with_reducible rfl
     rotate_left
     ·simp only [Act.put, List.setIfInBounds_toArray, List.set_cons_zero, List.set_cons_succ, i64_w, i32_w]
      rfl
     refine one_ (i := 10) (N := some 35) #[true, true, true, true, true, true, true, true, true, true, true, false, false, false] rfl rfl (one_of HT_.out (by kernel_rfl)) (by decide) (fun K hK => ?_)
     refine goes_ Tryd.func15 (by kernel_rfl) rfl #[.slice Ao7 t229.length co7, .int .i64 (rd t234 x5_1)] (by rfl) rfl rfl y14_ ?_
     with_reducible refine (boltingref04_End.calls k1 _ _ t229 (rd t234 x5_1) t242 _ ?side1 ?side2 A12.out).mono ?_
     (case side1 => repeat (first | exact (Kd.N_reads' HO_0.out).2.2 | (with_reducible refine Kd.C_alloc ?_ _) | (with_reducible refine Kd.C_drewN ?_ _) | (with_reducible refine Kd.C_drew ?_)))
     (case side2 => exact (Kd.N_reads' HO_0.out).2.1)
     rintro e w' ⟨rfl, ⟨nd, rfl⟩⟩
     refine ⟨_, rfl, ?_⟩
     have q27 : (t242 : Int) ≤ ((t229.length : Int) : Int) := of_decide_eq_true y2_
     obtain ⟨i027, hi027, _, hsz27, _⟩ := info_parts info35
     have hroom27 : t229.length ≤ co7 := (Kd.N_reads' HO_0.out).2.1
     have hC27 : Kd.F k35 _ _ Ao7 t229.length t229 := (Kd.V_at (base := w.heap.size) (Kd.N_V HO_0.out)).2.2
     have ql27 : ((rd t234 x5_1) : Int) ≤ (t242 : Int) := of_decide_eq_true y2_
     have q027 : (0 : Int) ≤ ((rd t234 x5_1) : Int) := of_decide_eq_true y2_
     have hcut27 := cut_mid (P := Tryd.prog) 22 35 .i64 .i64 Tryd.underlying22 hi027 5 hsz27 Ao7 t229.length co7 (rd t234 x5_1) t242 q027 ql27 q27 hroom27
     have hr27 := Kd.F_mid (lo := ((rd t234 x5_1) : Int).toNat) (hi := (t242 : Int).toNat) (c := co7) hC27 (by omega) (by omega) hroom27
     obtain ⟨A27, hA27⟩ : ∃ A1, A1 = (if co7 = ((rd t234 x5_1) : Int).toNat then Ao7 else (Ao7 : Option Addr).map (·.add (((rd t234 x5_1) : Int).toNat * 5))) := ⟨_, rfl⟩
     obtain ⟨c27, hc27⟩ : ∃ c1, c1 = co7 - ((rd t234 x5_1) : Int).toNat := ⟨_, rfl⟩
     have hy27 : y243.length = (t242 : Int).toNat - ((rd t234 x5_1) : Int).toNat := (by rw [Ny243.out, List.length_drop, List.length_take] <;> omega)
     rw [show ((t229).take (t242 : Int).toNat).drop ((rd t234 x5_1) : Int).toNat = y243 from Ny243.out.symm] at hr27
     replace hr27 : Kd.F k35 _ _ A27 y243.length y243 := (by rw [hA27]; exact hr27)
     rw [← hy27, ← hA27, ← hc27] at hcut27
     have HO247 := Aside0.mk (show Kd.V k35 35 _ w.heap.size _ (.slice A27 y243.length c27) y243 from Kd.V_mk (by rw [hy27, hc27]; exact Nat.sub_le_sub_right (Nat.le_trans (by omega) hroom27) _) hr27)
     have HC247 := Aside0.mk (show y243.length ≤ c27 from by rw [hy27, hc27]; exact Nat.sub_le_sub_right (Nat.le_trans (by omega) hroom27) _)
     clear hr27 hC27 hroom27 hi027 hsz27 hc27
     have KY27 := Aside0.mk hy27
     have KA27 := Aside0.mk hA27
     clear hy27 hA27
     replace q27 := eq_true q27
     refine hK.out _ _ ⟨hHeld.1, hHeld.2⟩ (fun hHeld => ?_)
     clear hK K
     refine norm_ (a' := ?_) ?_ ?_
     rotate_left
     ·show Act.put _ (some 35) _ = _
      simp only [Act.put, List.setIfInBounds_toArray, List.set_cons_zero, List.set_cons_succ, i64_w, i32_w]
      rfl
     refine pure_ (i := 11) (N := some 36) (v := ?_) (a' := ?_) #[true, true, true, true, true, true, true, true, true, true, true, true, false, false] rfl rfl (any_of HT_.out (by kernel_rfl)) (fun _ _ _ h => h) (Or.inl ⟨by rfl, ?_⟩) ?_ ?_
     rotate_left
     ·intro w'
      go_simp
      with_reducible rfl
     rotate_left
     ·simp only [Act.put, List.setIfInBounds_toArray, List.set_cons_zero, List.set_cons_succ, i64_w, i32_w]
      rfl
     refine one_ (i := 12) (N := some 37) #[true, true, true, true, true, true, true, true, true, true, true, true, true, false] rfl rfl (one_of HT_.out (by kernel_rfl)) (by decide) (fun K hK => ?_)
     refine goes_ Tryd.func14 (by kernel_rfl) rfl #[.slice A27 y243.length c27, .int .i64 0] (by rfl) rfl rfl y14_ ?_
     with_reducible refine (boltingref04_Moved.calls k1 _ _ y243 0 t248 _ ?side1 ?side2 A16.out).mono ?_
     (case side1 => repeat (first | exact (Kd.V_reads' HO247.out).2.2 | (with_reducible refine Kd.C_alloc ?_ _) | (with_reducible refine Kd.C_drewN ?_ _) | (with_reducible refine Kd.C_drew ?_)))
     (case side2 => exact (Kd.V_reads' HO247.out).2.1)
     rintro e w28 ⟨v249, rfl, ho0, hb⟩
     have HS0_ := (hb.cell (World.block_lt_of_cell? _ _ (hHeld.1))).trans (hHeld.1)
     have HS1_ := (hb.cell (World.block_lt_of_cell? _ _ (hHeld.2))).trans (hHeld.2)
     refine ⟨_, rfl, ?_⟩
     have n0_ := Aside0.mk (Kd.N_elder' (y8_ HO_0.out) (by first | exact Kd.N_base ho0 | exact Kd.N_base (Kd.S_N ho0)) hb)
     have n1_ := Aside0.mk (Kd.R_below (y10_ HO_4.out) hb)
     have n2_ := Aside0.mk (Kd.V_elder' (y7_ HO247.out) (by first | exact Kd.N_base ho0 | exact Kd.N_base (Kd.S_N ho0)) hb)
     have n3_ := Aside0.mk (Kd.N_lower (Kd.N_mono (ok' := fun k_ => some k_ ≠ (.slice Ao7 t229.length co7 : Value).ownBlock ∧ some k_ ≠ (.slice (some ad240) t234.length co25 : Value).ownBlock) (Kd.S_N (Kd.S_bound ho0)) (fun k_ hk_ => ⟨(Kd.fresh' (Kd.N_lt (y8_ HO_0.out)) k_ hk_.2.1), (Kd.fresh' (Kd.R_lt (y10_ HO_4.out)) k_ hk_.2.1)⟩)) (below_size y13_))
     have n4_ := Aside0.mk (below_step y13_ hb)
     clear HO_0
     clear HO_4
     clear HO247
     clear HB
     have HO_0 := n0_
     have HO_4 := n1_
     have HO247 := n2_
     have HO250 := n3_
     have HB := n4_
     clear n0_ n1_ n2_ n3_ n4_
     (try clear hb)
     (try clear hb2)
     (try clear hk)
     (try clear hi)
     (try clear ho0)
     refine hK.out _ _ ⟨HS0_, HS1_⟩ (fun hHeld => ?_)
     clear hK K
     refine norm_ (a' := ?_) ?_ ?_
     rotate_left
     ·show Act.put _ (some 37) _ = _
      simp only [Act.put, List.setIfInBounds_toArray, List.set_cons_zero, List.set_cons_succ, i64_w, i32_w]
      rfl
     refine pure_ (i := 13) (N := some 6) (v := ?_) (a' := ?_) #[true, true, true, true, true, true, true, true, true, true, true, true, true, true] rfl rfl (any_of HT_.out (by kernel_rfl)) (fun _ _ _ h => h) (Or.inl ⟨by rfl, ?_⟩) ?_ ?_
     rotate_left
     ·intro w'
      go_simp
      with_reducible rfl
     rotate_left
     ·simp only [Act.put, List.setIfInBounds_toArray, List.set_cons_zero, List.set_cons_succ, i64_w, i32_w]
      rfl
     refine done_ (done_of HT_.out (by kernel_rfl)) ?_
     obtain ⟨en_, hen_⟩ : ∃ en_ : ByteArray, (((⟨#[60, 47]⟩ : ByteArray) ++ ((rd_T35 t248 0).f2)) ++ (⟨#[62]⟩ : ByteArray)) = en_ := ⟨_, rfl⟩
     rw [hen_] at H
     by_cases c23 : ((rd_T35 t248 0).f1) = 0
     ·rw [if_pos c23] at H
      have c23b0 : (((rd_T35 t248 0).f1) == 0) = true := beq_iff_eq.mpr c23
      have c23b1 : (((rd_T35 t248 0).f1) != 0) = false := bne_eq_false_iff_eq.mpr c23
      clear c23
      by_cases c24 : t252.toList = ([] : List UInt8)
      ·rw [if_pos c24] at H
       have c24b0 : (t252.toList == ([] : List UInt8)) = true := beq_iff_eq.mpr c24
       have c24b1 : (t252.toList != ([] : List UInt8)) = false := bne_eq_false_iff_eq.mpr c24
       clear c24
       have H' := Aside0.mk H
       clear H
       obtain ⟨Ao29, co29, eo29⟩ := Kd.N_slice HO250.out
       subst eo29
       try go_wp2_with (first | ((with_reducible refine gate_callee (f := 9) rfl ?_); refine goesL_ (some 39) rfl rfl Tryd.func9 (by kernel_rfl) rfl #[.slice Ao29 t248.length co29] rfl y14_ ?_; (with_reducible refine (write_Rows.calls _ _ t248 t251 _ ?side1 ?side2 A17.out).mono ?_); (case side1 => repeat (first | exact (Kd.N_reads' HO250.out).2.2 | (with_reducible refine Kd.C_alloc ?_ _) | (with_reducible refine Kd.C_drewN ?_ _) | (with_reducible refine Kd.C_drew ?_))); (case side2 => exact (Kd.N_reads' HO250.out).2.1); rintro e w30 ⟨rfl, hb⟩; refine ⟨_, rfl, ?_⟩; have n0_ := Aside0.mk (Kd.N_below (y8_ HO_0.out) hb); have n1_ := Aside0.mk (Kd.R_below (y10_ HO_4.out) hb); have n2_ := Aside0.mk (Kd.V_below (y7_ HO247.out) hb); have n3_ := Aside0.mk (Kd.N_below (y8_ HO250.out) hb); have n4_ := Aside0.mk (below_step y13_ hb); clear HO_0; clear HO_4; clear HO247; clear HO250; clear HB; have HO_0 := n0_; have HO_4 := n1_; have HO247 := n2_; have HO250 := n3_; have HB := n4_; clear n0_ n1_ n2_ n3_ n4_; (try clear hb); (try clear hb2); (try clear hk); (try clear hi)) | ((with_reducible refine gate_callee (f := 11) rfl ?_); refine goesL_ (some 44) rfl rfl Tryd.func11 (by kernel_rfl) rfl #[.slice Ao29 t248.length co29, .int .i64 0] rfl y14_ ?_; (with_reducible refine (write_Inside.calls k1 _ _ t248 0 t252 _ ?side1 ?side2 A19.out).mono ?_); (case side1 => repeat (first | exact (Kd.N_reads' HO250.out).2.2 | (with_reducible refine Kd.C_alloc ?_ _) | (with_reducible refine Kd.C_drewN ?_ _) | (with_reducible refine Kd.C_drew ?_))); (case side2 => exact (Kd.N_reads' HO250.out).2.1); rintro e w31 ⟨rfl, hb⟩; refine ⟨_, rfl, ?_⟩; have n0_ := Aside0.mk (Kd.N_below (y8_ HO_0.out) hb); have n1_ := Aside0.mk (Kd.R_below (y10_ HO_4.out) hb); have n2_ := Aside0.mk (Kd.V_below (y7_ HO247.out) hb); have n3_ := Aside0.mk (Kd.N_below (y8_ HO250.out) hb); have n4_ := Aside0.mk (below_step y13_ hb); clear HO_0; clear HO_4; clear HO247; clear HO250; clear HB; have HO_0 := n0_; have HO_4 := n1_; have HO247 := n2_; have HO250 := n3_; have HB := n4_; clear n0_ n1_ n2_ n3_ n4_; (try clear hb); (try clear hb2); (try clear hk); (try clear hi); have p253 : 0 ≤ (0 : Int) := (by omega); have q253 : 0 < (t248.length : Int) := of_decide_eq_true y2_; obtain ⟨ad253, A253_4, c253_4, e253, hx253_0, hx253_1, hx253_2, hx253_3, hx253_4, hl253_4, hi253_4⟩ := at_T35 (Kd.N_reads' HO250.out).2.2 0 p253 q253; cases e253; obtain ⟨ce253, hce253, hMe253, hcc253⟩ := Kd.N_get HO250.out z35 0 p253 (y37_ HO250.out); obtain ⟨ua253_4, uc253_4, rfl, ul253_4, ge253_4⟩ := k35_openF hMe253; have hv253_4 := hcc253 4 _ rfl; rw [add_field _ _ 4 (by omega)] at hv253_4; replace hv253_4 := Option.some.inj (hv253_4.symm.trans hx253_4); injection hv253_4 with hva_ hvn_ hvc_; rw [hva_] at ge253_4; rw [hvc_] at ul253_4; have HL253_4 := Aside0.mk (show Kd.V k41 41 _ w.heap.size _ _ ((rd_T35 t248 0).f4) from Kd.V_mk ul253_4 ge253_4); clear hva_ hvn_ hvc_ ge253_4 ul253_4; clear hcc253 hce253; have qi253 : (0 < t248.length) = True := eq_true (by omega); (try rw [show ((0 : Int)).toNat = 0 from rfl] at hx253_0); (try rw [show 0 * 5 = 0 from rfl] at hx253_0); (try rw [Addr.add_zero'] at hx253_0); (try rw [show ((0 : Int)).toNat = 0 from rfl] at hx253_1); (try rw [show 0 * 5 = 0 from rfl] at hx253_1); (try rw [Addr.add_zero'] at hx253_1); (try rw [show ((0 : Int)).toNat = 0 from rfl] at hx253_2); (try rw [show 0 * 5 = 0 from rfl] at hx253_2); (try rw [Addr.add_zero'] at hx253_2); (try rw [show ((0 : Int)).toNat = 0 from rfl] at hx253_3); (try rw [show 0 * 5 = 0 from rfl] at hx253_3); (try rw [Addr.add_zero'] at hx253_3); (try rw [show ((0 : Int)).toNat = 0 from rfl] at hx253_4); (try rw [show 0 * 5 = 0 from rfl] at hx253_4); (try rw [Addr.add_zero'] at hx253_4); have HR253_4 := Aside0.mk hi253_4; have HC253_4 := Aside0.mk hl253_4; clear hi253_4 hl253_4; replace p253 := eq_true p253; replace q253 := eq_true q253) | ((with_reducible refine gate_dst (N := 9) rfl ?_); (try (refine gate_guard (by rfl) ?_; dsimp only)); refine box_event ?hg (N := 9) ?hd (cs := #[.int .i64 0, .int .i64 0, .string (⟨#[]⟩ : ByteArray), .string (⟨#[]⟩ : ByteArray), .slice none 0 0]) (t := 35) ?hr ?_; (case hd => rfl); (case hg => rfl); (case hr => first | (go_simp; done) | (go_simp; rfl)); intro gb254 hg w32 hbox hb; have n0_ := Aside0.mk (Kd.N_below (Kd.N_elderB (y8_ HO_0.out) gb254 (Nat.le_of_eq hg.symm)) hb); have n1_ := Aside0.mk (Kd.R_below (y10_ HO_4.out) hb); have n2_ := Aside0.mk (Kd.V_below (Kd.V_elderB (y7_ HO247.out) gb254 (Nat.le_of_eq hg.symm)) hb); have n3_ := Aside0.mk (Kd.N_below (Kd.N_elderB (y8_ HO250.out) gb254 (Nat.le_of_eq hg.symm)) hb); have n4_ := Aside0.mk (Kd.V_below (Kd.V_elderB (y7_ HL253_4.out) gb254 (Nat.le_of_eq hg.symm)) hb); have n5_ := Aside0.mk (Kd.C_below (y20_ HR253_4.out) hb); have n6_ := Aside0.mk (below_step y13_ hb); have n7_ := Aside0.mk (hbox); have n8_ := Aside0.mk ((by rw [hg]; exact (below_size y13_) : w.heap.size ≤ gb254)); have n9_ := Aside0.mk ((by rw [hg]; exact (below_size y13_) : w.heap.size ≤ gb254)); clear HO_0; clear HO_4; clear HO247; clear HO250; clear HL253_4; clear HR253_4; clear HB; have HO_0 := n0_; have HO_4 := n1_; have HO247 := n2_; have HO250 := n3_; have HL253_4 := n4_; have HR253_4 := n5_; have HB := n6_; have BK254 := n7_; have GW254 := n8_; have GE254 := n9_; clear n0_ n1_ n2_ n3_ n4_ n5_ n6_ n7_ n8_ n9_; clear hb hbox hg; have hcz33_0 : w32.cell? ⟨gb254, 0, none⟩ = some (.int .i64 0) := (blk_cell BK254.out 0).trans rfl; have hcz33_1 : w32.cell? ⟨gb254, 1, none⟩ = some (.int .i64 0) := (blk_cell BK254.out 1).trans rfl; have hcz33_2 : w32.cell? ⟨gb254, 2, none⟩ = some (.string (⟨#[]⟩ : ByteArray)) := (blk_cell BK254.out 2).trans rfl; have hcz33_3 : w32.cell? ⟨gb254, 3, none⟩ = some (.string (⟨#[]⟩ : ByteArray)) := (blk_cell BK254.out 3).trans rfl; have hcz33_4 : w32.cell? ⟨gb254, 4, none⟩ = some (.slice none 0 0) := (blk_cell BK254.out 4).trans rfl; have hfz33_0 := blk_frozen BK254.out 0; have hfz33_1 := blk_frozen BK254.out 1; have hfz33_2 := blk_frozen BK254.out 2; have hfz33_3 := blk_frozen BK254.out 3; have hfz33_4 := blk_frozen BK254.out 4))
       go_roundg k1
       case measure => have := HK1.out; omega
       case rel => exact ⟨(x3_1 ++ t251), (wrap64 (x5_1 + 1)), y4_, y4_, H', ⟨by have := HK1.out; omega⟩, ⟨by (with_reducible repeat (first | apply Kd.N_alloc | apply Kd.N_drewN | apply Kd.N_drew)); exact Kd.N_mono (Kd.N_far (p := ⟨gb254, 4, none⟩) (Kd.N_far (p := ⟨gb254, 3, none⟩) (Kd.N_far (p := ⟨gb254, 2, none⟩) (Kd.N_far (p := ⟨gb254, 1, none⟩) (Kd.N_far (p := ⟨gb254, 0, none⟩) (Kd.N_mono HO_0.out (fun k_ hk => (⟨hk, hk.2⟩ : _ ∧ k_ ≠ gb254))) (fun _ hk => hk.2) (.int .i64 ((rd_T35 t248 0).f0))) (fun _ hk => hk.2) (.int .i64 ((rd_T35 t248 0).f1))) (fun _ hk => hk.2) (.string ((rd_T35 t248 0).f2))) (fun _ hk => hk.2) (.string ((rd_T35 t248 0).f3))) (fun _ hk => hk.2) (.slice A253_4 ((rd_T35 t248 0).f4).length c253_4)) (fun _ hk => hk.1.1.1)⟩, ⟨by (with_reducible repeat (first | apply Kd.R_alloc | apply Kd.R_drewN | apply Kd.R_drew)); exact Kd.R_mono (Kd.R_far (p := ⟨gb254, 4, none⟩) (Kd.R_far (p := ⟨gb254, 3, none⟩) (Kd.R_far (p := ⟨gb254, 2, none⟩) (Kd.R_far (p := ⟨gb254, 1, none⟩) (Kd.R_far (p := ⟨gb254, 0, none⟩) (Kd.R_types HO_4.out BK254.out (by decide)) (fun _ hk => hk.2) (.int .i64 ((rd_T35 t248 0).f0))) (fun _ hk => hk.2) (.int .i64 ((rd_T35 t248 0).f1))) (fun _ hk => hk.2) (.string ((rd_T35 t248 0).f2))) (fun _ hk => hk.2) (.string ((rd_T35 t248 0).f3))) (fun _ hk => hk.2) (.slice A253_4 ((rd_T35 t248 0).f4).length c253_4)) (fun _ hk => trivial)⟩, ⟨(y19_ GE254.out)⟩⟩
      ·rw [if_neg c24] at H
       have c24b0 : (t252.toList == ([] : List UInt8)) = false := beq_eq_false_iff_ne.mpr c24
       have c24b1 : (t252.toList != ([] : List UInt8)) = true := bne_iff_ne.mpr c24
       by_cases c34 : (t251.size : Int) < (wrap64 ((t252.size : Int) + (en_.size : Int)))
       ·rw [if_pos c34] at H
        have c34b0 : decide ((t251.size : Int) < (wrap64 ((t252.size : Int) + (en_.size : Int)))) = true := decide_eq_true c34
        clear c34
        obtain rfl := Option.some.inj H
        obtain ⟨Ao39, co39, eo39⟩ := Kd.N_slice HO250.out
        subst eo39
        try go_wp2_with (first | ((with_reducible refine gate_callee (f := 9) rfl ?_); refine goesL_ (some 39) rfl rfl Tryd.func9 (by kernel_rfl) rfl #[.slice Ao39 t248.length co39] rfl y14_ ?_; (with_reducible refine (write_Rows.calls _ _ t248 t251 _ ?side1 ?side2 A17.out).mono ?_); (case side1 => repeat (first | exact (Kd.N_reads' HO250.out).2.2 | (with_reducible refine Kd.C_alloc ?_ _) | (with_reducible refine Kd.C_drewN ?_ _) | (with_reducible refine Kd.C_drew ?_))); (case side2 => exact (Kd.N_reads' HO250.out).2.1); rintro e w40 ⟨rfl, hb⟩; refine ⟨_, rfl, ?_⟩; have n0_ := Aside0.mk (Kd.N_below (y8_ HO_0.out) hb); have n1_ := Aside0.mk (Kd.R_below (y10_ HO_4.out) hb); have n2_ := Aside0.mk (Kd.V_below (y7_ HO247.out) hb); have n3_ := Aside0.mk (Kd.N_below (y8_ HO250.out) hb); have n4_ := Aside0.mk (below_step y13_ hb); clear HO_0; clear HO_4; clear HO247; clear HO250; clear HB; have HO_0 := n0_; have HO_4 := n1_; have HO247 := n2_; have HO250 := n3_; have HB := n4_; clear n0_ n1_ n2_ n3_ n4_; (try clear hb); (try clear hb2); (try clear hk); (try clear hi)) | ((with_reducible refine gate_callee (f := 11) rfl ?_); refine goesL_ (some 44) rfl rfl Tryd.func11 (by kernel_rfl) rfl #[.slice Ao39 t248.length co39, .int .i64 0] rfl y14_ ?_; (with_reducible refine (write_Inside.calls k1 _ _ t248 0 t252 _ ?side1 ?side2 A19.out).mono ?_); (case side1 => repeat (first | exact (Kd.N_reads' HO250.out).2.2 | (with_reducible refine Kd.C_alloc ?_ _) | (with_reducible refine Kd.C_drewN ?_ _) | (with_reducible refine Kd.C_drew ?_))); (case side2 => exact (Kd.N_reads' HO250.out).2.1); rintro e w41 ⟨rfl, hb⟩; refine ⟨_, rfl, ?_⟩; have n0_ := Aside0.mk (Kd.N_below (y8_ HO_0.out) hb); have n1_ := Aside0.mk (Kd.R_below (y10_ HO_4.out) hb); have n2_ := Aside0.mk (Kd.V_below (y7_ HO247.out) hb); have n3_ := Aside0.mk (Kd.N_below (y8_ HO250.out) hb); have n4_ := Aside0.mk (below_step y13_ hb); clear HO_0; clear HO_4; clear HO247; clear HO250; clear HB; have HO_0 := n0_; have HO_4 := n1_; have HO247 := n2_; have HO250 := n3_; have HB := n4_; clear n0_ n1_ n2_ n3_ n4_; (try clear hb); (try clear hb2); (try clear hk); (try clear hi); have p253 : 0 ≤ (0 : Int) := (by omega); have q253 : 0 < (t248.length : Int) := of_decide_eq_true y2_; obtain ⟨ad253, A253_4, c253_4, e253, hx253_0, hx253_1, hx253_2, hx253_3, hx253_4, hl253_4, hi253_4⟩ := at_T35 (Kd.N_reads' HO250.out).2.2 0 p253 q253; cases e253; obtain ⟨ce253, hce253, hMe253, hcc253⟩ := Kd.N_get HO250.out z35 0 p253 (y37_ HO250.out); obtain ⟨ua253_4, uc253_4, rfl, ul253_4, ge253_4⟩ := k35_openF hMe253; have hv253_4 := hcc253 4 _ rfl; rw [add_field _ _ 4 (by omega)] at hv253_4; replace hv253_4 := Option.some.inj (hv253_4.symm.trans hx253_4); injection hv253_4 with hva_ hvn_ hvc_; rw [hva_] at ge253_4; rw [hvc_] at ul253_4; have HL253_4 := Aside0.mk (show Kd.V k41 41 _ w.heap.size _ _ ((rd_T35 t248 0).f4) from Kd.V_mk ul253_4 ge253_4); clear hva_ hvn_ hvc_ ge253_4 ul253_4; clear hcc253 hce253; have qi253 : (0 < t248.length) = True := eq_true (by omega); (try rw [show ((0 : Int)).toNat = 0 from rfl] at hx253_0); (try rw [show 0 * 5 = 0 from rfl] at hx253_0); (try rw [Addr.add_zero'] at hx253_0); (try rw [show ((0 : Int)).toNat = 0 from rfl] at hx253_1); (try rw [show 0 * 5 = 0 from rfl] at hx253_1); (try rw [Addr.add_zero'] at hx253_1); (try rw [show ((0 : Int)).toNat = 0 from rfl] at hx253_2); (try rw [show 0 * 5 = 0 from rfl] at hx253_2); (try rw [Addr.add_zero'] at hx253_2); (try rw [show ((0 : Int)).toNat = 0 from rfl] at hx253_3); (try rw [show 0 * 5 = 0 from rfl] at hx253_3); (try rw [Addr.add_zero'] at hx253_3); (try rw [show ((0 : Int)).toNat = 0 from rfl] at hx253_4); (try rw [show 0 * 5 = 0 from rfl] at hx253_4); (try rw [Addr.add_zero'] at hx253_4); have HR253_4 := Aside0.mk hi253_4; have HC253_4 := Aside0.mk hl253_4; clear hi253_4 hl253_4; replace p253 := eq_true p253; replace q253 := eq_true q253) | ((with_reducible refine gate_dst (N := 9) rfl ?_); (try (refine gate_guard (by rfl) ?_; dsimp only)); refine box_event ?hg (N := 9) ?hd (cs := #[.int .i64 0, .int .i64 0, .string (⟨#[]⟩ : ByteArray), .string (⟨#[]⟩ : ByteArray), .slice none 0 0]) (t := 35) ?hr ?_; (case hd => rfl); (case hg => rfl); (case hr => first | (go_simp; done) | (go_simp; rfl)); intro gb254 hg w42 hbox hb; have n0_ := Aside0.mk (Kd.N_below (Kd.N_elderB (y8_ HO_0.out) gb254 (Nat.le_of_eq hg.symm)) hb); have n1_ := Aside0.mk (Kd.R_below (y10_ HO_4.out) hb); have n2_ := Aside0.mk (Kd.V_below (Kd.V_elderB (y7_ HO247.out) gb254 (Nat.le_of_eq hg.symm)) hb); have n3_ := Aside0.mk (Kd.N_below (Kd.N_elderB (y8_ HO250.out) gb254 (Nat.le_of_eq hg.symm)) hb); have n4_ := Aside0.mk (Kd.V_below (Kd.V_elderB (y7_ HL253_4.out) gb254 (Nat.le_of_eq hg.symm)) hb); have n5_ := Aside0.mk (Kd.C_below (y20_ HR253_4.out) hb); have n6_ := Aside0.mk (below_step y13_ hb); have n7_ := Aside0.mk (hbox); have n8_ := Aside0.mk ((by rw [hg]; exact (below_size y13_) : w.heap.size ≤ gb254)); have n9_ := Aside0.mk ((by rw [hg]; exact (below_size y13_) : w.heap.size ≤ gb254)); clear HO_0; clear HO_4; clear HO247; clear HO250; clear HL253_4; clear HR253_4; clear HB; have HO_0 := n0_; have HO_4 := n1_; have HO247 := n2_; have HO250 := n3_; have HL253_4 := n4_; have HR253_4 := n5_; have HB := n6_; have BK254 := n7_; have GW254 := n8_; have GE254 := n9_; clear n0_ n1_ n2_ n3_ n4_ n5_ n6_ n7_ n8_ n9_; clear hb hbox hg; have hcz43_0 : w42.cell? ⟨gb254, 0, none⟩ = some (.int .i64 0) := (blk_cell BK254.out 0).trans rfl; have hcz43_1 : w42.cell? ⟨gb254, 1, none⟩ = some (.int .i64 0) := (blk_cell BK254.out 1).trans rfl; have hcz43_2 : w42.cell? ⟨gb254, 2, none⟩ = some (.string (⟨#[]⟩ : ByteArray)) := (blk_cell BK254.out 2).trans rfl; have hcz43_3 : w42.cell? ⟨gb254, 3, none⟩ = some (.string (⟨#[]⟩ : ByteArray)) := (blk_cell BK254.out 3).trans rfl; have hcz43_4 : w42.cell? ⟨gb254, 4, none⟩ = some (.slice none 0 0) := (blk_cell BK254.out 4).trans rfl; have hfz43_0 := blk_frozen BK254.out 0; have hfz43_1 := blk_frozen BK254.out 1; have hfz43_2 := blk_frozen BK254.out 2; have hfz43_3 := blk_frozen BK254.out 3; have hfz43_4 := blk_frozen BK254.out 4))
        go_ret
        exact ⟨y12_, (y19_ GE254.out)⟩
       ·rw [if_neg c34] at H
        have c34b0 : decide ((t251.size : Int) < (wrap64 ((t252.size : Int) + (en_.size : Int)))) = false := decide_eq_false c34
        clear c34
        obtain ⟨ji44, hji44⟩ : ∃ j_ : Int, (wrap64 ((t251.size : Int) - (en_.size : Int))) = j_ := ⟨_, rfl⟩
        replace H : (if 0 ≤ (ji44) then (if (ji44) ≤ (t251.size : Int) then (if (t251.extract ((ji44) : Int).toNat t251.size).toList = en_.toList then (if 0 ≤ (wrap64 ((ji44) - (t252.size : Int))) then (if (wrap64 ((ji44) - (t252.size : Int))) ≤ (ji44) then (if (t251.extract ((wrap64 ((ji44) - (t252.size : Int))) : Int).toNat ((ji44) : Int).toNat).toList = t252.toList then (boltinglaw08_WriteParts.l0 k1 t229 (x3_1 ++ t251) t234 (wrap64 (x5_1 + 1))) else (some false)) else (none)) else (none)) else (some false)) else (none)) else (none)) = some r := by first | (rw [hji44] at H; exact H) | (simp only [hji44] at H ⊢; exact H)
        (try rw [hji44] at A12)
        (try rw [hji44] at A16)
        (try rw [hji44] at A17)
        (try rw [hji44] at A19)
        have hji44w : (IntKind.i64.wrap ((t251.size : Int) - (en_.size : Int))) = ji44 := (i64_w _).trans hji44
        by_cases c45 : 0 ≤ (ji44)
        rotate_left
        ·rw [if_neg c45] at H
         exact absurd H (by simp)
        rw [if_pos c45] at H
        have c45b0 := eq_true c45
        have c45b1 : decide (0 ≤ (ji44)) = true := decide_eq_true c45
        clear c45
        by_cases c46 : (ji44) ≤ (t251.size : Int)
        rotate_left
        ·rw [if_neg c46] at H
         exact absurd H (by simp)
        rw [if_pos c46] at H
        have c46b0 := eq_true c46
        have c46b1 : decide ((ji44) ≤ (t251.size : Int)) = true := decide_eq_true c46
        clear c46
        by_cases c47 : (t251.extract ((ji44) : Int).toNat t251.size).toList = en_.toList
        ·rw [if_pos c47] at H
         have c47b0 : ((t251.extract ((ji44) : Int).toNat t251.size).toList == en_.toList) = true := beq_iff_eq.mpr c47
         have c47b1 : ((t251.extract ((ji44) : Int).toNat t251.size).toList != en_.toList) = false := bne_eq_false_iff_eq.mpr c47
         clear c47
         obtain ⟨ji48, hji48⟩ : ∃ j_ : Int, (wrap64 ((ji44) - (t252.size : Int))) = j_ := ⟨_, rfl⟩
         replace H : (if 0 ≤ (ji48) then (if (ji48) ≤ (ji44) then (if (t251.extract ((ji48) : Int).toNat ((ji44) : Int).toNat).toList = t252.toList then (boltinglaw08_WriteParts.l0 k1 t229 (x3_1 ++ t251) t234 (wrap64 (x5_1 + 1))) else (some false)) else (none)) else (none)) = some r := by first | (rw [hji48] at H; exact H) | (simp only [hji48] at H ⊢; exact H)
         (try rw [hji48] at A12)
         (try rw [hji48] at A16)
         (try rw [hji48] at A17)
         (try rw [hji48] at A19)
         have hji48w : (IntKind.i64.wrap ((ji44) - (t252.size : Int))) = ji48 := (i64_w _).trans hji48
         by_cases c49 : 0 ≤ (ji48)
         rotate_left
         ·rw [if_neg c49] at H
          exact absurd H (by simp)
         rw [if_pos c49] at H
         have c49b0 := eq_true c49
         have c49b1 : decide (0 ≤ (ji48)) = true := decide_eq_true c49
         clear c49
         by_cases c50 : (ji48) ≤ (ji44)
         rotate_left
         ·rw [if_neg c50] at H
          exact absurd H (by simp)
         rw [if_pos c50] at H
         have c50b0 := eq_true c50
         have c50b1 : decide ((ji48) ≤ (ji44)) = true := decide_eq_true c50
         clear c50
         have c51b0 := eq_true (of_decide_eq_true y2_ : (ji44) ≤ (t251.size : Int))
         by_cases c52 : (t251.extract ((ji48) : Int).toNat ((ji44) : Int).toNat).toList = t252.toList
         ·rw [if_pos c52] at H
          have c52b0 : ((t251.extract ((ji48) : Int).toNat ((ji44) : Int).toNat).toList == t252.toList) = true := beq_iff_eq.mpr c52
          have c52b1 : ((t251.extract ((ji48) : Int).toNat ((ji44) : Int).toNat).toList != t252.toList) = false := bne_eq_false_iff_eq.mpr c52
          clear c52
          have H' := Aside0.mk H
          clear H
          obtain ⟨Ao57, co57, eo57⟩ := Kd.N_slice HO250.out
          subst eo57
          try go_wp2_with (first | ((with_reducible refine gate_callee (f := 9) rfl ?_); refine goesL_ (some 39) rfl rfl Tryd.func9 (by kernel_rfl) rfl #[.slice Ao57 t248.length co57] rfl y14_ ?_; (with_reducible refine (write_Rows.calls _ _ t248 t251 _ ?side1 ?side2 A17.out).mono ?_); (case side1 => repeat (first | exact (Kd.N_reads' HO250.out).2.2 | (with_reducible refine Kd.C_alloc ?_ _) | (with_reducible refine Kd.C_drewN ?_ _) | (with_reducible refine Kd.C_drew ?_))); (case side2 => exact (Kd.N_reads' HO250.out).2.1); rintro e w58 ⟨rfl, hb⟩; refine ⟨_, rfl, ?_⟩; have n0_ := Aside0.mk (Kd.N_below (y8_ HO_0.out) hb); have n1_ := Aside0.mk (Kd.R_below (y10_ HO_4.out) hb); have n2_ := Aside0.mk (Kd.V_below (y7_ HO247.out) hb); have n3_ := Aside0.mk (Kd.N_below (y8_ HO250.out) hb); have n4_ := Aside0.mk (below_step y13_ hb); clear HO_0; clear HO_4; clear HO247; clear HO250; clear HB; have HO_0 := n0_; have HO_4 := n1_; have HO247 := n2_; have HO250 := n3_; have HB := n4_; clear n0_ n1_ n2_ n3_ n4_; (try clear hb); (try clear hb2); (try clear hk); (try clear hi)) | ((with_reducible refine gate_callee (f := 11) rfl ?_); refine goesL_ (some 44) rfl rfl Tryd.func11 (by kernel_rfl) rfl #[.slice Ao57 t248.length co57, .int .i64 0] rfl y14_ ?_; (with_reducible refine (write_Inside.calls k1 _ _ t248 0 t252 _ ?side1 ?side2 A19.out).mono ?_); (case side1 => repeat (first | exact (Kd.N_reads' HO250.out).2.2 | (with_reducible refine Kd.C_alloc ?_ _) | (with_reducible refine Kd.C_drewN ?_ _) | (with_reducible refine Kd.C_drew ?_))); (case side2 => exact (Kd.N_reads' HO250.out).2.1); rintro e w59 ⟨rfl, hb⟩; refine ⟨_, rfl, ?_⟩; have n0_ := Aside0.mk (Kd.N_below (y8_ HO_0.out) hb); have n1_ := Aside0.mk (Kd.R_below (y10_ HO_4.out) hb); have n2_ := Aside0.mk (Kd.V_below (y7_ HO247.out) hb); have n3_ := Aside0.mk (Kd.N_below (y8_ HO250.out) hb); have n4_ := Aside0.mk (below_step y13_ hb); clear HO_0; clear HO_4; clear HO247; clear HO250; clear HB; have HO_0 := n0_; have HO_4 := n1_; have HO247 := n2_; have HO250 := n3_; have HB := n4_; clear n0_ n1_ n2_ n3_ n4_; (try clear hb); (try clear hb2); (try clear hk); (try clear hi); have p253 : 0 ≤ (0 : Int) := (by omega); have q253 : 0 < (t248.length : Int) := of_decide_eq_true y2_; obtain ⟨ad253, A253_4, c253_4, e253, hx253_0, hx253_1, hx253_2, hx253_3, hx253_4, hl253_4, hi253_4⟩ := at_T35 (Kd.N_reads' HO250.out).2.2 0 p253 q253; cases e253; obtain ⟨ce253, hce253, hMe253, hcc253⟩ := Kd.N_get HO250.out z35 0 p253 (y37_ HO250.out); obtain ⟨ua253_4, uc253_4, rfl, ul253_4, ge253_4⟩ := k35_openF hMe253; have hv253_4 := hcc253 4 _ rfl; rw [add_field _ _ 4 (by omega)] at hv253_4; replace hv253_4 := Option.some.inj (hv253_4.symm.trans hx253_4); injection hv253_4 with hva_ hvn_ hvc_; rw [hva_] at ge253_4; rw [hvc_] at ul253_4; have HL253_4 := Aside0.mk (show Kd.V k41 41 _ w.heap.size _ _ ((rd_T35 t248 0).f4) from Kd.V_mk ul253_4 ge253_4); clear hva_ hvn_ hvc_ ge253_4 ul253_4; clear hcc253 hce253; have qi253 : (0 < t248.length) = True := eq_true (by omega); (try rw [show ((0 : Int)).toNat = 0 from rfl] at hx253_0); (try rw [show 0 * 5 = 0 from rfl] at hx253_0); (try rw [Addr.add_zero'] at hx253_0); (try rw [show ((0 : Int)).toNat = 0 from rfl] at hx253_1); (try rw [show 0 * 5 = 0 from rfl] at hx253_1); (try rw [Addr.add_zero'] at hx253_1); (try rw [show ((0 : Int)).toNat = 0 from rfl] at hx253_2); (try rw [show 0 * 5 = 0 from rfl] at hx253_2); (try rw [Addr.add_zero'] at hx253_2); (try rw [show ((0 : Int)).toNat = 0 from rfl] at hx253_3); (try rw [show 0 * 5 = 0 from rfl] at hx253_3); (try rw [Addr.add_zero'] at hx253_3); (try rw [show ((0 : Int)).toNat = 0 from rfl] at hx253_4); (try rw [show 0 * 5 = 0 from rfl] at hx253_4); (try rw [Addr.add_zero'] at hx253_4); have HR253_4 := Aside0.mk hi253_4; have HC253_4 := Aside0.mk hl253_4; clear hi253_4 hl253_4; replace p253 := eq_true p253; replace q253 := eq_true q253) | ((with_reducible refine gate_dst (N := 9) rfl ?_); (try (refine gate_guard (by rfl) ?_; dsimp only)); refine box_event ?hg (N := 9) ?hd (cs := #[.int .i64 0, .int .i64 0, .string (⟨#[]⟩ : ByteArray), .string (⟨#[]⟩ : ByteArray), .slice none 0 0]) (t := 35) ?hr ?_; (case hd => rfl); (case hg => rfl); (case hr => first | (go_simp; done) | (go_simp; rfl)); intro gb254 hg w60 hbox hb; have n0_ := Aside0.mk (Kd.N_below (Kd.N_elderB (y8_ HO_0.out) gb254 (Nat.le_of_eq hg.symm)) hb); have n1_ := Aside0.mk (Kd.R_below (y10_ HO_4.out) hb); have n2_ := Aside0.mk (Kd.V_below (Kd.V_elderB (y7_ HO247.out) gb254 (Nat.le_of_eq hg.symm)) hb); have n3_ := Aside0.mk (Kd.N_below (Kd.N_elderB (y8_ HO250.out) gb254 (Nat.le_of_eq hg.symm)) hb); have n4_ := Aside0.mk (Kd.V_below (Kd.V_elderB (y7_ HL253_4.out) gb254 (Nat.le_of_eq hg.symm)) hb); have n5_ := Aside0.mk (Kd.C_below (y20_ HR253_4.out) hb); have n6_ := Aside0.mk (below_step y13_ hb); have n7_ := Aside0.mk (hbox); have n8_ := Aside0.mk ((by rw [hg]; exact (below_size y13_) : w.heap.size ≤ gb254)); have n9_ := Aside0.mk ((by rw [hg]; exact (below_size y13_) : w.heap.size ≤ gb254)); clear HO_0; clear HO_4; clear HO247; clear HO250; clear HL253_4; clear HR253_4; clear HB; have HO_0 := n0_; have HO_4 := n1_; have HO247 := n2_; have HO250 := n3_; have HL253_4 := n4_; have HR253_4 := n5_; have HB := n6_; have BK254 := n7_; have GW254 := n8_; have GE254 := n9_; clear n0_ n1_ n2_ n3_ n4_ n5_ n6_ n7_ n8_ n9_; clear hb hbox hg; have hcz61_0 : w60.cell? ⟨gb254, 0, none⟩ = some (.int .i64 0) := (blk_cell BK254.out 0).trans rfl; have hcz61_1 : w60.cell? ⟨gb254, 1, none⟩ = some (.int .i64 0) := (blk_cell BK254.out 1).trans rfl; have hcz61_2 : w60.cell? ⟨gb254, 2, none⟩ = some (.string (⟨#[]⟩ : ByteArray)) := (blk_cell BK254.out 2).trans rfl; have hcz61_3 : w60.cell? ⟨gb254, 3, none⟩ = some (.string (⟨#[]⟩ : ByteArray)) := (blk_cell BK254.out 3).trans rfl; have hcz61_4 : w60.cell? ⟨gb254, 4, none⟩ = some (.slice none 0 0) := (blk_cell BK254.out 4).trans rfl; have hfz61_0 := blk_frozen BK254.out 0; have hfz61_1 := blk_frozen BK254.out 1; have hfz61_2 := blk_frozen BK254.out 2; have hfz61_3 := blk_frozen BK254.out 3; have hfz61_4 := blk_frozen BK254.out 4))
          go_roundg k1
          case measure => have := HK1.out; omega
          case rel => exact ⟨(x3_1 ++ t251), (wrap64 (x5_1 + 1)), y4_, y4_, H', ⟨by have := HK1.out; omega⟩, ⟨by (with_reducible repeat (first | apply Kd.N_alloc | apply Kd.N_drewN | apply Kd.N_drew)); exact Kd.N_mono (Kd.N_far (p := ⟨gb254, 4, none⟩) (Kd.N_far (p := ⟨gb254, 3, none⟩) (Kd.N_far (p := ⟨gb254, 2, none⟩) (Kd.N_far (p := ⟨gb254, 1, none⟩) (Kd.N_far (p := ⟨gb254, 0, none⟩) (Kd.N_mono HO_0.out (fun k_ hk => (⟨hk, hk.2⟩ : _ ∧ k_ ≠ gb254))) (fun _ hk => hk.2) (.int .i64 ((rd_T35 t248 0).f0))) (fun _ hk => hk.2) (.int .i64 ((rd_T35 t248 0).f1))) (fun _ hk => hk.2) (.string ((rd_T35 t248 0).f2))) (fun _ hk => hk.2) (.string ((rd_T35 t248 0).f3))) (fun _ hk => hk.2) (.slice A253_4 ((rd_T35 t248 0).f4).length c253_4)) (fun _ hk => hk.1.1.1)⟩, ⟨by (with_reducible repeat (first | apply Kd.R_alloc | apply Kd.R_drewN | apply Kd.R_drew)); exact Kd.R_mono (Kd.R_far (p := ⟨gb254, 4, none⟩) (Kd.R_far (p := ⟨gb254, 3, none⟩) (Kd.R_far (p := ⟨gb254, 2, none⟩) (Kd.R_far (p := ⟨gb254, 1, none⟩) (Kd.R_far (p := ⟨gb254, 0, none⟩) (Kd.R_types HO_4.out BK254.out (by decide)) (fun _ hk => hk.2) (.int .i64 ((rd_T35 t248 0).f0))) (fun _ hk => hk.2) (.int .i64 ((rd_T35 t248 0).f1))) (fun _ hk => hk.2) (.string ((rd_T35 t248 0).f2))) (fun _ hk => hk.2) (.string ((rd_T35 t248 0).f3))) (fun _ hk => hk.2) (.slice A253_4 ((rd_T35 t248 0).f4).length c253_4)) (fun _ hk => trivial)⟩, ⟨(y19_ GE254.out)⟩⟩
         ·rw [if_neg c52] at H
          have c52b0 : ((t251.extract ((ji48) : Int).toNat ((ji44) : Int).toNat).toList == t252.toList) = false := beq_eq_false_iff_ne.mpr c52
          have c52b1 : ((t251.extract ((ji48) : Int).toNat ((ji44) : Int).toNat).toList != t252.toList) = true := bne_iff_ne.mpr c52
          obtain rfl := Option.some.inj H
          obtain ⟨Ao66, co66, eo66⟩ := Kd.N_slice HO250.out
          subst eo66
          try go_wp2_with (first | ((with_reducible refine gate_callee (f := 9) rfl ?_); refine goesL_ (some 39) rfl rfl Tryd.func9 (by kernel_rfl) rfl #[.slice Ao66 t248.length co66] rfl y14_ ?_; (with_reducible refine (write_Rows.calls _ _ t248 t251 _ ?side1 ?side2 A17.out).mono ?_); (case side1 => repeat (first | exact (Kd.N_reads' HO250.out).2.2 | (with_reducible refine Kd.C_alloc ?_ _) | (with_reducible refine Kd.C_drewN ?_ _) | (with_reducible refine Kd.C_drew ?_))); (case side2 => exact (Kd.N_reads' HO250.out).2.1); rintro e w67 ⟨rfl, hb⟩; refine ⟨_, rfl, ?_⟩; have n0_ := Aside0.mk (Kd.N_below (y8_ HO_0.out) hb); have n1_ := Aside0.mk (Kd.R_below (y10_ HO_4.out) hb); have n2_ := Aside0.mk (Kd.V_below (y7_ HO247.out) hb); have n3_ := Aside0.mk (Kd.N_below (y8_ HO250.out) hb); have n4_ := Aside0.mk (below_step y13_ hb); clear HO_0; clear HO_4; clear HO247; clear HO250; clear HB; have HO_0 := n0_; have HO_4 := n1_; have HO247 := n2_; have HO250 := n3_; have HB := n4_; clear n0_ n1_ n2_ n3_ n4_; (try clear hb); (try clear hb2); (try clear hk); (try clear hi)) | ((with_reducible refine gate_callee (f := 11) rfl ?_); refine goesL_ (some 44) rfl rfl Tryd.func11 (by kernel_rfl) rfl #[.slice Ao66 t248.length co66, .int .i64 0] rfl y14_ ?_; (with_reducible refine (write_Inside.calls k1 _ _ t248 0 t252 _ ?side1 ?side2 A19.out).mono ?_); (case side1 => repeat (first | exact (Kd.N_reads' HO250.out).2.2 | (with_reducible refine Kd.C_alloc ?_ _) | (with_reducible refine Kd.C_drewN ?_ _) | (with_reducible refine Kd.C_drew ?_))); (case side2 => exact (Kd.N_reads' HO250.out).2.1); rintro e w68 ⟨rfl, hb⟩; refine ⟨_, rfl, ?_⟩; have n0_ := Aside0.mk (Kd.N_below (y8_ HO_0.out) hb); have n1_ := Aside0.mk (Kd.R_below (y10_ HO_4.out) hb); have n2_ := Aside0.mk (Kd.V_below (y7_ HO247.out) hb); have n3_ := Aside0.mk (Kd.N_below (y8_ HO250.out) hb); have n4_ := Aside0.mk (below_step y13_ hb); clear HO_0; clear HO_4; clear HO247; clear HO250; clear HB; have HO_0 := n0_; have HO_4 := n1_; have HO247 := n2_; have HO250 := n3_; have HB := n4_; clear n0_ n1_ n2_ n3_ n4_; (try clear hb); (try clear hb2); (try clear hk); (try clear hi); have p253 : 0 ≤ (0 : Int) := (by omega); have q253 : 0 < (t248.length : Int) := of_decide_eq_true y2_; obtain ⟨ad253, A253_4, c253_4, e253, hx253_0, hx253_1, hx253_2, hx253_3, hx253_4, hl253_4, hi253_4⟩ := at_T35 (Kd.N_reads' HO250.out).2.2 0 p253 q253; cases e253; obtain ⟨ce253, hce253, hMe253, hcc253⟩ := Kd.N_get HO250.out z35 0 p253 (y37_ HO250.out); obtain ⟨ua253_4, uc253_4, rfl, ul253_4, ge253_4⟩ := k35_openF hMe253; have hv253_4 := hcc253 4 _ rfl; rw [add_field _ _ 4 (by omega)] at hv253_4; replace hv253_4 := Option.some.inj (hv253_4.symm.trans hx253_4); injection hv253_4 with hva_ hvn_ hvc_; rw [hva_] at ge253_4; rw [hvc_] at ul253_4; have HL253_4 := Aside0.mk (show Kd.V k41 41 _ w.heap.size _ _ ((rd_T35 t248 0).f4) from Kd.V_mk ul253_4 ge253_4); clear hva_ hvn_ hvc_ ge253_4 ul253_4; clear hcc253 hce253; have qi253 : (0 < t248.length) = True := eq_true (by omega); (try rw [show ((0 : Int)).toNat = 0 from rfl] at hx253_0); (try rw [show 0 * 5 = 0 from rfl] at hx253_0); (try rw [Addr.add_zero'] at hx253_0); (try rw [show ((0 : Int)).toNat = 0 from rfl] at hx253_1); (try rw [show 0 * 5 = 0 from rfl] at hx253_1); (try rw [Addr.add_zero'] at hx253_1); (try rw [show ((0 : Int)).toNat = 0 from rfl] at hx253_2); (try rw [show 0 * 5 = 0 from rfl] at hx253_2); (try rw [Addr.add_zero'] at hx253_2); (try rw [show ((0 : Int)).toNat = 0 from rfl] at hx253_3); (try rw [show 0 * 5 = 0 from rfl] at hx253_3); (try rw [Addr.add_zero'] at hx253_3); (try rw [show ((0 : Int)).toNat = 0 from rfl] at hx253_4); (try rw [show 0 * 5 = 0 from rfl] at hx253_4); (try rw [Addr.add_zero'] at hx253_4); have HR253_4 := Aside0.mk hi253_4; have HC253_4 := Aside0.mk hl253_4; clear hi253_4 hl253_4; replace p253 := eq_true p253; replace q253 := eq_true q253) | ((with_reducible refine gate_dst (N := 9) rfl ?_); (try (refine gate_guard (by rfl) ?_; dsimp only)); refine box_event ?hg (N := 9) ?hd (cs := #[.int .i64 0, .int .i64 0, .string (⟨#[]⟩ : ByteArray), .string (⟨#[]⟩ : ByteArray), .slice none 0 0]) (t := 35) ?hr ?_; (case hd => rfl); (case hg => rfl); (case hr => first | (go_simp; done) | (go_simp; rfl)); intro gb254 hg w69 hbox hb; have n0_ := Aside0.mk (Kd.N_below (Kd.N_elderB (y8_ HO_0.out) gb254 (Nat.le_of_eq hg.symm)) hb); have n1_ := Aside0.mk (Kd.R_below (y10_ HO_4.out) hb); have n2_ := Aside0.mk (Kd.V_below (Kd.V_elderB (y7_ HO247.out) gb254 (Nat.le_of_eq hg.symm)) hb); have n3_ := Aside0.mk (Kd.N_below (Kd.N_elderB (y8_ HO250.out) gb254 (Nat.le_of_eq hg.symm)) hb); have n4_ := Aside0.mk (Kd.V_below (Kd.V_elderB (y7_ HL253_4.out) gb254 (Nat.le_of_eq hg.symm)) hb); have n5_ := Aside0.mk (Kd.C_below (y20_ HR253_4.out) hb); have n6_ := Aside0.mk (below_step y13_ hb); have n7_ := Aside0.mk (hbox); have n8_ := Aside0.mk ((by rw [hg]; exact (below_size y13_) : w.heap.size ≤ gb254)); have n9_ := Aside0.mk ((by rw [hg]; exact (below_size y13_) : w.heap.size ≤ gb254)); clear HO_0; clear HO_4; clear HO247; clear HO250; clear HL253_4; clear HR253_4; clear HB; have HO_0 := n0_; have HO_4 := n1_; have HO247 := n2_; have HO250 := n3_; have HL253_4 := n4_; have HR253_4 := n5_; have HB := n6_; have BK254 := n7_; have GW254 := n8_; have GE254 := n9_; clear n0_ n1_ n2_ n3_ n4_ n5_ n6_ n7_ n8_ n9_; clear hb hbox hg; have hcz70_0 : w69.cell? ⟨gb254, 0, none⟩ = some (.int .i64 0) := (blk_cell BK254.out 0).trans rfl; have hcz70_1 : w69.cell? ⟨gb254, 1, none⟩ = some (.int .i64 0) := (blk_cell BK254.out 1).trans rfl; have hcz70_2 : w69.cell? ⟨gb254, 2, none⟩ = some (.string (⟨#[]⟩ : ByteArray)) := (blk_cell BK254.out 2).trans rfl; have hcz70_3 : w69.cell? ⟨gb254, 3, none⟩ = some (.string (⟨#[]⟩ : ByteArray)) := (blk_cell BK254.out 3).trans rfl; have hcz70_4 : w69.cell? ⟨gb254, 4, none⟩ = some (.slice none 0 0) := (blk_cell BK254.out 4).trans rfl; have hfz70_0 := blk_frozen BK254.out 0; have hfz70_1 := blk_frozen BK254.out 1; have hfz70_2 := blk_frozen BK254.out 2; have hfz70_3 := blk_frozen BK254.out 3; have hfz70_4 := blk_frozen BK254.out 4))
          go_ret
          exact ⟨by first | rfl | (simp [errW_none, errW_some] <;> rfl) | (simp only [← hji44, ← hji48]; first | rfl | (simp [errW_none, errW_some] <;> rfl)) | (simp [*, errW_none, errW_some] <;> rfl) | (simp [bne_nil8]; done), (y19_ GE254.out)⟩
        ·rw [if_neg c47] at H
         have c47b0 : ((t251.extract ((ji44) : Int).toNat t251.size).toList == en_.toList) = false := beq_eq_false_iff_ne.mpr c47
         have c47b1 : ((t251.extract ((ji44) : Int).toNat t251.size).toList != en_.toList) = true := bne_iff_ne.mpr c47
         obtain rfl := Option.some.inj H
         obtain ⟨Ao75, co75, eo75⟩ := Kd.N_slice HO250.out
         subst eo75
         try go_wp2_with (first | ((with_reducible refine gate_callee (f := 9) rfl ?_); refine goesL_ (some 39) rfl rfl Tryd.func9 (by kernel_rfl) rfl #[.slice Ao75 t248.length co75] rfl y14_ ?_; (with_reducible refine (write_Rows.calls _ _ t248 t251 _ ?side1 ?side2 A17.out).mono ?_); (case side1 => repeat (first | exact (Kd.N_reads' HO250.out).2.2 | (with_reducible refine Kd.C_alloc ?_ _) | (with_reducible refine Kd.C_drewN ?_ _) | (with_reducible refine Kd.C_drew ?_))); (case side2 => exact (Kd.N_reads' HO250.out).2.1); rintro e w76 ⟨rfl, hb⟩; refine ⟨_, rfl, ?_⟩; have n0_ := Aside0.mk (Kd.N_below (y8_ HO_0.out) hb); have n1_ := Aside0.mk (Kd.R_below (y10_ HO_4.out) hb); have n2_ := Aside0.mk (Kd.V_below (y7_ HO247.out) hb); have n3_ := Aside0.mk (Kd.N_below (y8_ HO250.out) hb); have n4_ := Aside0.mk (below_step y13_ hb); clear HO_0; clear HO_4; clear HO247; clear HO250; clear HB; have HO_0 := n0_; have HO_4 := n1_; have HO247 := n2_; have HO250 := n3_; have HB := n4_; clear n0_ n1_ n2_ n3_ n4_; (try clear hb); (try clear hb2); (try clear hk); (try clear hi)) | ((with_reducible refine gate_callee (f := 11) rfl ?_); refine goesL_ (some 44) rfl rfl Tryd.func11 (by kernel_rfl) rfl #[.slice Ao75 t248.length co75, .int .i64 0] rfl y14_ ?_; (with_reducible refine (write_Inside.calls k1 _ _ t248 0 t252 _ ?side1 ?side2 A19.out).mono ?_); (case side1 => repeat (first | exact (Kd.N_reads' HO250.out).2.2 | (with_reducible refine Kd.C_alloc ?_ _) | (with_reducible refine Kd.C_drewN ?_ _) | (with_reducible refine Kd.C_drew ?_))); (case side2 => exact (Kd.N_reads' HO250.out).2.1); rintro e w77 ⟨rfl, hb⟩; refine ⟨_, rfl, ?_⟩; have n0_ := Aside0.mk (Kd.N_below (y8_ HO_0.out) hb); have n1_ := Aside0.mk (Kd.R_below (y10_ HO_4.out) hb); have n2_ := Aside0.mk (Kd.V_below (y7_ HO247.out) hb); have n3_ := Aside0.mk (Kd.N_below (y8_ HO250.out) hb); have n4_ := Aside0.mk (below_step y13_ hb); clear HO_0; clear HO_4; clear HO247; clear HO250; clear HB; have HO_0 := n0_; have HO_4 := n1_; have HO247 := n2_; have HO250 := n3_; have HB := n4_; clear n0_ n1_ n2_ n3_ n4_; (try clear hb); (try clear hb2); (try clear hk); (try clear hi); have p253 : 0 ≤ (0 : Int) := (by omega); have q253 : 0 < (t248.length : Int) := of_decide_eq_true y2_; obtain ⟨ad253, A253_4, c253_4, e253, hx253_0, hx253_1, hx253_2, hx253_3, hx253_4, hl253_4, hi253_4⟩ := at_T35 (Kd.N_reads' HO250.out).2.2 0 p253 q253; cases e253; obtain ⟨ce253, hce253, hMe253, hcc253⟩ := Kd.N_get HO250.out z35 0 p253 (y37_ HO250.out); obtain ⟨ua253_4, uc253_4, rfl, ul253_4, ge253_4⟩ := k35_openF hMe253; have hv253_4 := hcc253 4 _ rfl; rw [add_field _ _ 4 (by omega)] at hv253_4; replace hv253_4 := Option.some.inj (hv253_4.symm.trans hx253_4); injection hv253_4 with hva_ hvn_ hvc_; rw [hva_] at ge253_4; rw [hvc_] at ul253_4; have HL253_4 := Aside0.mk (show Kd.V k41 41 _ w.heap.size _ _ ((rd_T35 t248 0).f4) from Kd.V_mk ul253_4 ge253_4); clear hva_ hvn_ hvc_ ge253_4 ul253_4; clear hcc253 hce253; have qi253 : (0 < t248.length) = True := eq_true (by omega); (try rw [show ((0 : Int)).toNat = 0 from rfl] at hx253_0); (try rw [show 0 * 5 = 0 from rfl] at hx253_0); (try rw [Addr.add_zero'] at hx253_0); (try rw [show ((0 : Int)).toNat = 0 from rfl] at hx253_1); (try rw [show 0 * 5 = 0 from rfl] at hx253_1); (try rw [Addr.add_zero'] at hx253_1); (try rw [show ((0 : Int)).toNat = 0 from rfl] at hx253_2); (try rw [show 0 * 5 = 0 from rfl] at hx253_2); (try rw [Addr.add_zero'] at hx253_2); (try rw [show ((0 : Int)).toNat = 0 from rfl] at hx253_3); (try rw [show 0 * 5 = 0 from rfl] at hx253_3); (try rw [Addr.add_zero'] at hx253_3); (try rw [show ((0 : Int)).toNat = 0 from rfl] at hx253_4); (try rw [show 0 * 5 = 0 from rfl] at hx253_4); (try rw [Addr.add_zero'] at hx253_4); have HR253_4 := Aside0.mk hi253_4; have HC253_4 := Aside0.mk hl253_4; clear hi253_4 hl253_4; replace p253 := eq_true p253; replace q253 := eq_true q253) | ((with_reducible refine gate_dst (N := 9) rfl ?_); (try (refine gate_guard (by rfl) ?_; dsimp only)); refine box_event ?hg (N := 9) ?hd (cs := #[.int .i64 0, .int .i64 0, .string (⟨#[]⟩ : ByteArray), .string (⟨#[]⟩ : ByteArray), .slice none 0 0]) (t := 35) ?hr ?_; (case hd => rfl); (case hg => rfl); (case hr => first | (go_simp; done) | (go_simp; rfl)); intro gb254 hg w78 hbox hb; have n0_ := Aside0.mk (Kd.N_below (Kd.N_elderB (y8_ HO_0.out) gb254 (Nat.le_of_eq hg.symm)) hb); have n1_ := Aside0.mk (Kd.R_below (y10_ HO_4.out) hb); have n2_ := Aside0.mk (Kd.V_below (Kd.V_elderB (y7_ HO247.out) gb254 (Nat.le_of_eq hg.symm)) hb); have n3_ := Aside0.mk (Kd.N_below (Kd.N_elderB (y8_ HO250.out) gb254 (Nat.le_of_eq hg.symm)) hb); have n4_ := Aside0.mk (Kd.V_below (Kd.V_elderB (y7_ HL253_4.out) gb254 (Nat.le_of_eq hg.symm)) hb); have n5_ := Aside0.mk (Kd.C_below (y20_ HR253_4.out) hb); have n6_ := Aside0.mk (below_step y13_ hb); have n7_ := Aside0.mk (hbox); have n8_ := Aside0.mk ((by rw [hg]; exact (below_size y13_) : w.heap.size ≤ gb254)); have n9_ := Aside0.mk ((by rw [hg]; exact (below_size y13_) : w.heap.size ≤ gb254)); clear HO_0; clear HO_4; clear HO247; clear HO250; clear HL253_4; clear HR253_4; clear HB; have HO_0 := n0_; have HO_4 := n1_; have HO247 := n2_; have HO250 := n3_; have HL253_4 := n4_; have HR253_4 := n5_; have HB := n6_; have BK254 := n7_; have GW254 := n8_; have GE254 := n9_; clear n0_ n1_ n2_ n3_ n4_ n5_ n6_ n7_ n8_ n9_; clear hb hbox hg; have hcz79_0 : w78.cell? ⟨gb254, 0, none⟩ = some (.int .i64 0) := (blk_cell BK254.out 0).trans rfl; have hcz79_1 : w78.cell? ⟨gb254, 1, none⟩ = some (.int .i64 0) := (blk_cell BK254.out 1).trans rfl; have hcz79_2 : w78.cell? ⟨gb254, 2, none⟩ = some (.string (⟨#[]⟩ : ByteArray)) := (blk_cell BK254.out 2).trans rfl; have hcz79_3 : w78.cell? ⟨gb254, 3, none⟩ = some (.string (⟨#[]⟩ : ByteArray)) := (blk_cell BK254.out 3).trans rfl; have hcz79_4 : w78.cell? ⟨gb254, 4, none⟩ = some (.slice none 0 0) := (blk_cell BK254.out 4).trans rfl; have hfz79_0 := blk_frozen BK254.out 0; have hfz79_1 := blk_frozen BK254.out 1; have hfz79_2 := blk_frozen BK254.out 2; have hfz79_3 := blk_frozen BK254.out 3; have hfz79_4 := blk_frozen BK254.out 4))
         go_ret
         exact ⟨by first | rfl | (simp [errW_none, errW_some] <;> rfl) | (simp only [← hji44]; first | rfl | (simp [errW_none, errW_some] <;> rfl)) | (simp [*, errW_none, errW_some] <;> rfl) | (simp [bne_nil8]; done), (y19_ GE254.out)⟩
     ·rw [if_neg c23] at H
      have c23b0 : (((rd_T35 t248 0).f1) == 0) = false := beq_eq_false_iff_ne.mpr c23
      have c23b1 : (((rd_T35 t248 0).f1) != 0) = true := bne_iff_ne.mpr c23
      have H' := Aside0.mk H
      clear H
      obtain ⟨Ao84, co84, eo84⟩ := Kd.N_slice HO250.out
      subst eo84
      try go_wp2_with (first | ((with_reducible refine gate_callee (f := 9) rfl ?_); refine goesL_ (some 39) rfl rfl Tryd.func9 (by kernel_rfl) rfl #[.slice Ao84 t248.length co84] rfl y14_ ?_; (with_reducible refine (write_Rows.calls _ _ t248 t251 _ ?side1 ?side2 A17.out).mono ?_); (case side1 => repeat (first | exact (Kd.N_reads' HO250.out).2.2 | (with_reducible refine Kd.C_alloc ?_ _) | (with_reducible refine Kd.C_drewN ?_ _) | (with_reducible refine Kd.C_drew ?_))); (case side2 => exact (Kd.N_reads' HO250.out).2.1); rintro e w85 ⟨rfl, hb⟩; refine ⟨_, rfl, ?_⟩; have n0_ := Aside0.mk (Kd.N_below (y8_ HO_0.out) hb); have n1_ := Aside0.mk (Kd.R_below (y10_ HO_4.out) hb); have n2_ := Aside0.mk (Kd.V_below (y7_ HO247.out) hb); have n3_ := Aside0.mk (Kd.N_below (y8_ HO250.out) hb); have n4_ := Aside0.mk (below_step y13_ hb); clear HO_0; clear HO_4; clear HO247; clear HO250; clear HB; have HO_0 := n0_; have HO_4 := n1_; have HO247 := n2_; have HO250 := n3_; have HB := n4_; clear n0_ n1_ n2_ n3_ n4_; (try clear hb); (try clear hb2); (try clear hk); (try clear hi)) | ((with_reducible refine gate_callee (f := 11) rfl ?_); refine goesL_ (some 44) rfl rfl Tryd.func11 (by kernel_rfl) rfl #[.slice Ao84 t248.length co84, .int .i64 0] rfl y14_ ?_; (with_reducible refine (write_Inside.calls k1 _ _ t248 0 t252 _ ?side1 ?side2 A19.out).mono ?_); (case side1 => repeat (first | exact (Kd.N_reads' HO250.out).2.2 | (with_reducible refine Kd.C_alloc ?_ _) | (with_reducible refine Kd.C_drewN ?_ _) | (with_reducible refine Kd.C_drew ?_))); (case side2 => exact (Kd.N_reads' HO250.out).2.1); rintro e w86 ⟨rfl, hb⟩; refine ⟨_, rfl, ?_⟩; have n0_ := Aside0.mk (Kd.N_below (y8_ HO_0.out) hb); have n1_ := Aside0.mk (Kd.R_below (y10_ HO_4.out) hb); have n2_ := Aside0.mk (Kd.V_below (y7_ HO247.out) hb); have n3_ := Aside0.mk (Kd.N_below (y8_ HO250.out) hb); have n4_ := Aside0.mk (below_step y13_ hb); clear HO_0; clear HO_4; clear HO247; clear HO250; clear HB; have HO_0 := n0_; have HO_4 := n1_; have HO247 := n2_; have HO250 := n3_; have HB := n4_; clear n0_ n1_ n2_ n3_ n4_; (try clear hb); (try clear hb2); (try clear hk); (try clear hi); have p253 : 0 ≤ (0 : Int) := (by omega); have q253 : 0 < (t248.length : Int) := of_decide_eq_true y2_; obtain ⟨ad253, A253_4, c253_4, e253, hx253_0, hx253_1, hx253_2, hx253_3, hx253_4, hl253_4, hi253_4⟩ := at_T35 (Kd.N_reads' HO250.out).2.2 0 p253 q253; cases e253; obtain ⟨ce253, hce253, hMe253, hcc253⟩ := Kd.N_get HO250.out z35 0 p253 (y37_ HO250.out); obtain ⟨ua253_4, uc253_4, rfl, ul253_4, ge253_4⟩ := k35_openF hMe253; have hv253_4 := hcc253 4 _ rfl; rw [add_field _ _ 4 (by omega)] at hv253_4; replace hv253_4 := Option.some.inj (hv253_4.symm.trans hx253_4); injection hv253_4 with hva_ hvn_ hvc_; rw [hva_] at ge253_4; rw [hvc_] at ul253_4; have HL253_4 := Aside0.mk (show Kd.V k41 41 _ w.heap.size _ _ ((rd_T35 t248 0).f4) from Kd.V_mk ul253_4 ge253_4); clear hva_ hvn_ hvc_ ge253_4 ul253_4; clear hcc253 hce253; have qi253 : (0 < t248.length) = True := eq_true (by omega); (try rw [show ((0 : Int)).toNat = 0 from rfl] at hx253_0); (try rw [show 0 * 5 = 0 from rfl] at hx253_0); (try rw [Addr.add_zero'] at hx253_0); (try rw [show ((0 : Int)).toNat = 0 from rfl] at hx253_1); (try rw [show 0 * 5 = 0 from rfl] at hx253_1); (try rw [Addr.add_zero'] at hx253_1); (try rw [show ((0 : Int)).toNat = 0 from rfl] at hx253_2); (try rw [show 0 * 5 = 0 from rfl] at hx253_2); (try rw [Addr.add_zero'] at hx253_2); (try rw [show ((0 : Int)).toNat = 0 from rfl] at hx253_3); (try rw [show 0 * 5 = 0 from rfl] at hx253_3); (try rw [Addr.add_zero'] at hx253_3); (try rw [show ((0 : Int)).toNat = 0 from rfl] at hx253_4); (try rw [show 0 * 5 = 0 from rfl] at hx253_4); (try rw [Addr.add_zero'] at hx253_4); have HR253_4 := Aside0.mk hi253_4; have HC253_4 := Aside0.mk hl253_4; clear hi253_4 hl253_4; replace p253 := eq_true p253; replace q253 := eq_true q253) | ((with_reducible refine gate_dst (N := 9) rfl ?_); (try (refine gate_guard (by rfl) ?_; dsimp only)); refine box_event ?hg (N := 9) ?hd (cs := #[.int .i64 0, .int .i64 0, .string (⟨#[]⟩ : ByteArray), .string (⟨#[]⟩ : ByteArray), .slice none 0 0]) (t := 35) ?hr ?_; (case hd => rfl); (case hg => rfl); (case hr => first | (go_simp; done) | (go_simp; rfl)); intro gb254 hg w87 hbox hb; have n0_ := Aside0.mk (Kd.N_below (Kd.N_elderB (y8_ HO_0.out) gb254 (Nat.le_of_eq hg.symm)) hb); have n1_ := Aside0.mk (Kd.R_below (y10_ HO_4.out) hb); have n2_ := Aside0.mk (Kd.V_below (Kd.V_elderB (y7_ HO247.out) gb254 (Nat.le_of_eq hg.symm)) hb); have n3_ := Aside0.mk (Kd.N_below (Kd.N_elderB (y8_ HO250.out) gb254 (Nat.le_of_eq hg.symm)) hb); have n4_ := Aside0.mk (Kd.V_below (Kd.V_elderB (y7_ HL253_4.out) gb254 (Nat.le_of_eq hg.symm)) hb); have n5_ := Aside0.mk (Kd.C_below (y20_ HR253_4.out) hb); have n6_ := Aside0.mk (below_step y13_ hb); have n7_ := Aside0.mk (hbox); have n8_ := Aside0.mk ((by rw [hg]; exact (below_size y13_) : w.heap.size ≤ gb254)); have n9_ := Aside0.mk ((by rw [hg]; exact (below_size y13_) : w.heap.size ≤ gb254)); clear HO_0; clear HO_4; clear HO247; clear HO250; clear HL253_4; clear HR253_4; clear HB; have HO_0 := n0_; have HO_4 := n1_; have HO247 := n2_; have HO250 := n3_; have HL253_4 := n4_; have HR253_4 := n5_; have HB := n6_; have BK254 := n7_; have GW254 := n8_; have GE254 := n9_; clear n0_ n1_ n2_ n3_ n4_ n5_ n6_ n7_ n8_ n9_; clear hb hbox hg; have hcz88_0 : w87.cell? ⟨gb254, 0, none⟩ = some (.int .i64 0) := (blk_cell BK254.out 0).trans rfl; have hcz88_1 : w87.cell? ⟨gb254, 1, none⟩ = some (.int .i64 0) := (blk_cell BK254.out 1).trans rfl; have hcz88_2 : w87.cell? ⟨gb254, 2, none⟩ = some (.string (⟨#[]⟩ : ByteArray)) := (blk_cell BK254.out 2).trans rfl; have hcz88_3 : w87.cell? ⟨gb254, 3, none⟩ = some (.string (⟨#[]⟩ : ByteArray)) := (blk_cell BK254.out 3).trans rfl; have hcz88_4 : w87.cell? ⟨gb254, 4, none⟩ = some (.slice none 0 0) := (blk_cell BK254.out 4).trans rfl; have hfz88_0 := blk_frozen BK254.out 0; have hfz88_1 := blk_frozen BK254.out 1; have hfz88_2 := blk_frozen BK254.out 2; have hfz88_3 := blk_frozen BK254.out 3; have hfz88_4 := blk_frozen BK254.out 4))
      go_roundg k1
      case measure => have := HK1.out; omega
      case rel => exact ⟨(x3_1 ++ t251), (wrap64 (x5_1 + 1)), y4_, y4_, H', ⟨by have := HK1.out; omega⟩, ⟨by (with_reducible repeat (first | apply Kd.N_alloc | apply Kd.N_drewN | apply Kd.N_drew)); exact Kd.N_mono (Kd.N_far (p := ⟨gb254, 4, none⟩) (Kd.N_far (p := ⟨gb254, 3, none⟩) (Kd.N_far (p := ⟨gb254, 2, none⟩) (Kd.N_far (p := ⟨gb254, 1, none⟩) (Kd.N_far (p := ⟨gb254, 0, none⟩) (Kd.N_mono HO_0.out (fun k_ hk => (⟨hk, hk.2⟩ : _ ∧ k_ ≠ gb254))) (fun _ hk => hk.2) (.int .i64 ((rd_T35 t248 0).f0))) (fun _ hk => hk.2) (.int .i64 ((rd_T35 t248 0).f1))) (fun _ hk => hk.2) (.string ((rd_T35 t248 0).f2))) (fun _ hk => hk.2) (.string ((rd_T35 t248 0).f3))) (fun _ hk => hk.2) (.slice A253_4 ((rd_T35 t248 0).f4).length c253_4)) (fun _ hk => hk.1.1.1)⟩, ⟨by (with_reducible repeat (first | apply Kd.R_alloc | apply Kd.R_drewN | apply Kd.R_drew)); exact Kd.R_mono (Kd.R_far (p := ⟨gb254, 4, none⟩) (Kd.R_far (p := ⟨gb254, 3, none⟩) (Kd.R_far (p := ⟨gb254, 2, none⟩) (Kd.R_far (p := ⟨gb254, 1, none⟩) (Kd.R_far (p := ⟨gb254, 0, none⟩) (Kd.R_types HO_4.out BK254.out (by decide)) (fun _ hk => hk.2) (.int .i64 ((rd_T35 t248 0).f0))) (fun _ hk => hk.2) (.int .i64 ((rd_T35 t248 0).f1))) (fun _ hk => hk.2) (.string ((rd_T35 t248 0).f2))) (fun _ hk => hk.2) (.string ((rd_T35 t248 0).f3))) (fun _ hk => hk.2) (.slice A253_4 ((rd_T35 t248 0).f4).length c253_4)) (fun _ hk => trivial)⟩, ⟨(y19_ GE254.out)⟩⟩
    ·rw [if_neg c10] at H
     have c10b0 : decide (x5_1 < (t234.length : Int)) = false := decide_eq_false c10
     clear c10
     replace H := Option.bind_eq_some_iff.mp H
     obtain ⟨t237, A890, H⟩ := H
     have A89 := Aside0.mk A890
     clear A890
     by_cases c90 : t237.toList = x3_1.toList
     ·rw [if_pos c90] at H
      have c90b0 : (t237.toList == x3_1.toList) = true := beq_iff_eq.mpr c90
      have c90b1 : (t237.toList != x3_1.toList) = false := bne_eq_false_iff_eq.mpr c90
      clear c90
      replace H := Option.bind_eq_some_iff.mp H
      obtain ⟨t238, A910, H⟩ := H
      have A91 := Aside0.mk A910
      clear A910
      by_cases c92 : t238.toList = x3_1.toList
      ·rw [if_pos c92] at H
       have c92b0 : (t238.toList == x3_1.toList) = true := beq_iff_eq.mpr c92
       have c92b1 : (t238.toList != x3_1.toList) = false := bne_eq_false_iff_eq.mpr c92
       clear c92
       replace H := Option.bind_eq_some_iff.mp H
       obtain ⟨t239, A930, H⟩ := H
       have A93 := Aside0.mk A930
       clear A930
       obtain rfl := Option.some.inj H
       obtain ⟨Ao94, co94, eo94⟩ := Kd.R_slice HO_4.out
       subst eo94
       go_wp2_with (first | ((with_reducible refine gate_callee (f := 9) rfl ?_); refine goesL_ (some 100) rfl rfl Tryd.func9 (by kernel_rfl) rfl #[.slice Ao7 t229.length co7] rfl y14_ ?_; (with_reducible refine (write_Rows.calls _ _ t229 t237 _ ?side1 ?side2 A89.out).mono ?_); (case side1 => repeat (first | exact (Kd.N_reads' HO_0.out).2.2 | (with_reducible refine Kd.C_alloc ?_ _) | (with_reducible refine Kd.C_drewN ?_ _) | (with_reducible refine Kd.C_drew ?_))); (case side2 => exact (Kd.N_reads' HO_0.out).2.1); rintro e w95 ⟨rfl, hb⟩; refine ⟨_, rfl, ?_⟩; have n0_ := Aside0.mk (Kd.N_below (y8_ HO_0.out) hb); have n1_ := Aside0.mk (Kd.R_below (y10_ HO_4.out) hb); have n2_ := Aside0.mk (below_step y13_ hb); clear HO_0; clear HO_4; clear HB; have HO_0 := n0_; have HO_4 := n1_; have HB := n2_; clear n0_ n1_ n2_; (try clear hb); (try clear hb2); (try clear hk); (try clear hi)) | (go_at_call 11; (with_reducible refine (write_Inside.calls k1 _ _ t229 (-1) t238 _ ?side1 ?side2 A91.out).mono ?_); (case side1 => repeat (first | exact (Kd.N_reads' HO_0.out).2.2 | (with_reducible refine Kd.C_alloc ?_ _) | (with_reducible refine Kd.C_drewN ?_ _) | (with_reducible refine Kd.C_drew ?_))); (case side2 => exact (Kd.N_reads' HO_0.out).2.1); rintro e w96 ⟨rfl, hb⟩; have n0_ := Aside0.mk (Kd.N_below (y8_ HO_0.out) hb); have n1_ := Aside0.mk (Kd.R_below (y10_ HO_4.out) hb); have n2_ := Aside0.mk (below_step y13_ hb); clear HO_0; clear HO_4; clear HB; have HO_0 := n0_; have HO_4 := n1_; have HB := n2_; clear n0_ n1_ n2_; (try clear hb); (try clear hb2); (try clear hk); (try clear hi)) | (go_at_call 8; (with_reducible refine (boltinglaw08_fixed.calls k1  t239 _ A93.out).mono ?_); rintro e w97 ⟨rfl, hb⟩; have n0_ := Aside0.mk (Kd.N_below (y8_ HO_0.out) hb); have n1_ := Aside0.mk (Kd.R_below (y10_ HO_4.out) hb); have n2_ := Aside0.mk (below_step y13_ hb); clear HO_0; clear HO_4; clear HB; have HO_0 := n0_; have HO_4 := n1_; have HB := n2_; clear n0_ n1_ n2_; (try clear hb); (try clear hb2); (try clear hk); (try clear hi)))
       go_ret
       exact ⟨y12_, y13_⟩
      ·rw [if_neg c92] at H
       have c92b0 : (t238.toList == x3_1.toList) = false := beq_eq_false_iff_ne.mpr c92
       have c92b1 : (t238.toList != x3_1.toList) = true := bne_iff_ne.mpr c92
       obtain rfl := Option.some.inj H
       obtain ⟨Ao98, co98, eo98⟩ := Kd.R_slice HO_4.out
       subst eo98
       go_wp2_with (first | ((with_reducible refine gate_callee (f := 9) rfl ?_); refine goesL_ (some 100) rfl rfl Tryd.func9 (by kernel_rfl) rfl #[.slice Ao7 t229.length co7] rfl y14_ ?_; (with_reducible refine (write_Rows.calls _ _ t229 t237 _ ?side1 ?side2 A89.out).mono ?_); (case side1 => repeat (first | exact (Kd.N_reads' HO_0.out).2.2 | (with_reducible refine Kd.C_alloc ?_ _) | (with_reducible refine Kd.C_drewN ?_ _) | (with_reducible refine Kd.C_drew ?_))); (case side2 => exact (Kd.N_reads' HO_0.out).2.1); rintro e w99 ⟨rfl, hb⟩; refine ⟨_, rfl, ?_⟩; have n0_ := Aside0.mk (Kd.N_below (y8_ HO_0.out) hb); have n1_ := Aside0.mk (Kd.R_below (y10_ HO_4.out) hb); have n2_ := Aside0.mk (below_step y13_ hb); clear HO_0; clear HO_4; clear HB; have HO_0 := n0_; have HO_4 := n1_; have HB := n2_; clear n0_ n1_ n2_; (try clear hb); (try clear hb2); (try clear hk); (try clear hi)) | (go_at_call 11; (with_reducible refine (write_Inside.calls k1 _ _ t229 (-1) t238 _ ?side1 ?side2 A91.out).mono ?_); (case side1 => repeat (first | exact (Kd.N_reads' HO_0.out).2.2 | (with_reducible refine Kd.C_alloc ?_ _) | (with_reducible refine Kd.C_drewN ?_ _) | (with_reducible refine Kd.C_drew ?_))); (case side2 => exact (Kd.N_reads' HO_0.out).2.1); rintro e w100 ⟨rfl, hb⟩; have n0_ := Aside0.mk (Kd.N_below (y8_ HO_0.out) hb); have n1_ := Aside0.mk (Kd.R_below (y10_ HO_4.out) hb); have n2_ := Aside0.mk (below_step y13_ hb); clear HO_0; clear HO_4; clear HB; have HO_0 := n0_; have HO_4 := n1_; have HB := n2_; clear n0_ n1_ n2_; (try clear hb); (try clear hb2); (try clear hk); (try clear hi)))
       go_ret
       exact ⟨y12_, y13_⟩
     ·rw [if_neg c90] at H
      have c90b0 : (t237.toList == x3_1.toList) = false := beq_eq_false_iff_ne.mpr c90
      have c90b1 : (t237.toList != x3_1.toList) = true := bne_iff_ne.mpr c90
      obtain rfl := Option.some.inj H
      obtain ⟨Ao101, co101, eo101⟩ := Kd.R_slice HO_4.out
      subst eo101
      go_wp2_with (first | ((with_reducible refine gate_callee (f := 9) rfl ?_); refine goesL_ (some 100) rfl rfl Tryd.func9 (by kernel_rfl) rfl #[.slice Ao7 t229.length co7] rfl y14_ ?_; (with_reducible refine (write_Rows.calls _ _ t229 t237 _ ?side1 ?side2 A89.out).mono ?_); (case side1 => repeat (first | exact (Kd.N_reads' HO_0.out).2.2 | (with_reducible refine Kd.C_alloc ?_ _) | (with_reducible refine Kd.C_drewN ?_ _) | (with_reducible refine Kd.C_drew ?_))); (case side2 => exact (Kd.N_reads' HO_0.out).2.1); rintro e w102 ⟨rfl, hb⟩; refine ⟨_, rfl, ?_⟩; have n0_ := Aside0.mk (Kd.N_below (y8_ HO_0.out) hb); have n1_ := Aside0.mk (Kd.R_below (y10_ HO_4.out) hb); have n2_ := Aside0.mk (below_step y13_ hb); clear HO_0; clear HO_4; clear HB; have HO_0 := n0_; have HO_4 := n1_; have HB := n2_; clear n0_ n1_ n2_; (try clear hb); (try clear hb2); (try clear hk); (try clear hi)))
      go_ret
      exact ⟨y12_, y13_⟩
 ·replace c4 := Bool.eq_false_iff.mpr c4
  subst c4
  rw [if_neg (show ¬ (false = true) by decide)] at H
  replace H := Option.bind_eq_some_iff.mp H
  obtain ⟨t233, A1030, H⟩ := H
  have A103 := Aside0.mk A1030
  clear A1030
  obtain rfl := Option.some.inj H
  go_enter Tryd.func4, Tryd.ntmps4
  go_wp2_with (first | ((with_reducible refine gate_callee (f := 6) rfl ?_); refine goesL_ (some 12) rfl rfl Tryd.func6 (by kernel_rfl) rfl #[.slice A0 l0.length c0] rfl y14_ ?_; (with_reducible refine (boltinglaw08_bound.calls k (fun k_ => k_ < w.heap.size) _ _ l0 t229 _ ?side1 A2.out).mono ?_); (case side1 => exact Kd.V_mk HC0.out (Kd.F_below (Kd.C_F k35_heap HR0.out) y13_)); rintro e w104 ⟨v230, rfl, ho0, hb⟩; refine ⟨_, rfl, ?_⟩; have n0_ := Aside0.mk (Kd.N_lower (Kd.N_mono (ok' := fun k_ => True) ho0 (fun k_ hk_ => trivial)) (below_size y13_)); have n1_ := Aside0.mk (below_step y13_ hb); clear HB; have HO231 := n0_; have HB := n1_; clear n0_ n1_; (try clear hb); (try clear hb2); (try clear hk); (try clear hi); (try clear ho0); obtain ⟨Ao105, co105, eo105⟩ := Kd.N_slice HO231.out; subst eo105) | ((with_reducible refine gate_callee (f := 7) rfl ?_); refine goesL_ (some 14) rfl rfl Tryd.func7 (by kernel_rfl) rfl #[.slice Ao105 t229.length co105] rfl y14_ ?_; (with_reducible refine (boltingref04_Right.calls k _ _ t229 false _ ?side1 ?side2 A3.out).mono ?_); (case side1 => repeat (first | exact (Kd.N_reads' HO231.out).2.2 | (with_reducible refine Kd.C_alloc ?_ _) | (with_reducible refine Kd.C_drewN ?_ _) | (with_reducible refine Kd.C_drew ?_))); (case side2 => exact (Kd.N_reads' HO231.out).2.1); rintro e w106 ⟨rfl, hb⟩; refine ⟨_, rfl, ?_⟩; have n0_ := Aside0.mk (Kd.N_below (y8_ HO231.out) hb); have n1_ := Aside0.mk (below_step y13_ hb); clear HO231; clear HB; have HO231 := n0_; have HB := n1_; clear n0_ n1_; (try clear hb); (try clear hb2); (try clear hk); (try clear hi)) | ((with_reducible refine gate_callee (f := 8) rfl ?_); refine goesL_ (some 16) rfl rfl Tryd.func8 (by kernel_rfl) rfl #[] rfl y14_ ?_; (with_reducible refine (boltinglaw08_fixed.calls k  t233 _ A103.out).mono ?_); rintro e w107 ⟨rfl, hb⟩; refine ⟨_, rfl, ?_⟩; have n0_ := Aside0.mk (Kd.N_below (y8_ HO231.out) hb); have n1_ := Aside0.mk (below_step y13_ hb); clear HO231; clear HB; have HO231 := n0_; have HB := n1_; clear n0_ n1_; (try clear hb); (try clear hb2); (try clear hk); (try clear hi)))
  go_ret
  exact ⟨y12_, y13_⟩
end Go.Proofs.YtpnhjipaeggcpaaDoor.X
end
section
namespace Go.Proofs.YtpnhjipaeggcpaaDoor.X
open Go.RowKit Go.Proofs.YtpnhjipaeggcpaaDoorW.PrintWords Go.Proofs.YtpnhjipaeggcpaaDoorW.PrintLast Go.Proofs.YtpnhjipaeggcpaaDoorW.PrintMore
theorem cut_small {l : List RowT} (h : ∀ x ∈ l, StrSmall x) : ∀ x ∈ bnd l, RowSmall x := fun x hx => by
  have h6 := bnd_attrs hx
  obtain ⟨y, hy, rfl⟩ := bnd_mem hx
  obtain ⟨h1, h2, h3⟩ := h y hy
  exact ⟨h1, h2, by omega, fun a ha => h3 a (List.mem_of_mem_take ha)⟩
theorem moved_loop (l : List RowT) (hl : l.length ≤ 60000) (ha : ∀ x ∈ l, x.f4.length ≤ 256) (hd : ∀ x ∈ l, -9223372036854775808 ≤ x.f0 ∧ x.f0 ≤ 9223372036854775807) : ∀ (d j : Nat), j + d = l.length → Ev (fun k => boltingref04_Moved.l0 k l 0 (l.take j) (j : Int)) l
  | 0, j, hj => by
    refine evK (fun k => ?_)
    rw [boltingref04_Moved.l0, if_neg (by omega), List.take_of_length_le (by omega)]
  | d + 1, j, hj => by
    have hlt : j < l.length := by omega
    have ih := moved_loop l hl ha hd d (j + 1) (by omega)
    have h1 := ha l[j] (List.getElem_mem hlt)
    have h2 := hd l[j] (List.getElem_mem hlt)
    refine evI (fun k => ?_) ih
    rw [boltingref04_Moved.l0, if_pos (by omega), if_pos (by omega), Option.bind_some, rdR_at hlt, if_pos (by simp only [List.length_nil]; omega), if_pos (by rw [List.length_take]; omega), Int.add_zero, w64 h2.1 h2.2, w64n (by omega), List.nil_append, List.take_succ_eq_append_getElem hlt]
theorem moved_is (l : List RowT) (hl : l.length ≤ 60000) (ha : ∀ x ∈ l, x.f4.length ≤ 256) (hd : ∀ x ∈ l, -9223372036854775808 ≤ x.f0 ∧ x.f0 ≤ 9223372036854775807) : Ev (fun k => boltingref04_Moved.f k l 0) l :=
  moved_loop l hl ha hd l.length 0 (by omega)
theorem root_dep {t : List RowT} (hr : rightB t = true) (hl : t.length ≤ 4611686018427387904) {j : Int} (h : j ∈ kidsOf t (-1)) : ∃ m : Nat, j = (m : Int) ∧ m < t.length ∧ dep t m = 0 := by
  rw [← kids_same hr hl (.inl rfl)] at h
  unfold rkTo at h
  obtain ⟨m, hm, rfl⟩ := List.mem_map.1 h
  rw [List.mem_filter, List.mem_range] at hm
  refine ⟨m, rfl, hm.1, ?_⟩
  have := hm.2
  unfold rkOk at this
  rw [if_pos rfl] at this
  exact beq_iff_eq.1 this
theorem one_root {A : List RowT} (h0 : 0 < A.length) (he : endOf A 0 = A.length) : kidsOf A (-1) = [0] := by
  unfold kidsOf
  rw [if_pos rfl]
  obtain ⟨n, hn⟩ : ∃ n, A.length = n + 1 := ⟨A.length - 1, by omega⟩
  rw [hn] at he ⊢
  unfold kidsGo
  rw [if_pos (by omega), he]
  cases n with
  | zero => rfl
  | succ n => unfold kidsGo; rw [if_neg (by omega)]; rfl
theorem close_bs (n : ByteArray) : (((⟨#[60, 47]⟩ : ByteArray) ++ n) ++ (⟨#[62]⟩ : ByteArray)) = bs ([60, 47] ++ n.data.toList ++ [62]) := by
  apply ByteArray.ext
  simp [bs]
theorem ext_bs (l : List UInt8) (a b : Nat) : (bs l).extract a b = bs ((l.drop a).take (b - a)) := by
  apply ByteArray.ext
  rw [ByteArray.data_extract]
  apply Array.ext'
  rw [Array.toList_extract, List.extract_eq_take_drop]
  rfl
theorem bs_nil_toList : (⟨#[]⟩ : ByteArray).toList = ([] : List UInt8) := by
  rw [ByteArray.toList, ByteArray.toList.loop]; simp; intro h; exact absurd h (by decide)
theorem tail_ok {α : Type} (O I C : List UInt8) (h : O.length + I.length + C.length ≤ 120000000000000) (x y n : α) : (if (bs I).toList = ([] : List UInt8) then x else (if ((bs (O ++ I ++ C)).size : Int) < (wrap64 (((bs I).size : Int) + ((bs C).size : Int))) then y else (if 0 ≤ (wrap64 (((bs (O ++ I ++ C)).size : Int) - ((bs C).size : Int))) then (if (wrap64 (((bs (O ++ I ++ C)).size : Int) - ((bs C).size : Int))) ≤ ((bs (O ++ I ++ C)).size : Int) then (if ((bs (O ++ I ++ C)).extract ((wrap64 (((bs (O ++ I ++ C)).size : Int) - ((bs C).size : Int))) : Int).toNat (bs (O ++ I ++ C)).size).toList = (bs C).toList then (if 0 ≤ (wrap64 ((wrap64 (((bs (O ++ I ++ C)).size : Int) - ((bs C).size : Int))) - ((bs I).size : Int))) then (if (wrap64 ((wrap64 (((bs (O ++ I ++ C)).size : Int) - ((bs C).size : Int))) - ((bs I).size : Int))) ≤ (wrap64 (((bs (O ++ I ++ C)).size : Int) - ((bs C).size : Int))) then (if ((bs (O ++ I ++ C)).extract ((wrap64 ((wrap64 (((bs (O ++ I ++ C)).size : Int) - ((bs C).size : Int))) - ((bs I).size : Int))) : Int).toNat ((wrap64 (((bs (O ++ I ++ C)).size : Int) - ((bs C).size : Int))) : Int).toNat).toList = (bs I).toList then x else y) else n) else n) else y) else n) else n))) = x := by
  by_cases hI : (bs I).toList = ([] : List UInt8)
  · rw [if_pos hI]
  rw [if_neg hI]
  simp only [bs_size, List.length_append]
  have w1 : wrap64 ((I.length : Int) + (C.length : Int)) = ((I.length + C.length : Nat) : Int) := by rw [show (I.length : Int) + (C.length : Int) = ((I.length + C.length : Nat) : Int) by omega, w64 (by omega) (by omega)]
  have w2 : wrap64 (((O.length + I.length + C.length : Nat) : Int) - (C.length : Int)) = ((O.length + I.length : Nat) : Int) := by rw [show ((O.length + I.length + C.length : Nat) : Int) - (C.length : Int) = ((O.length + I.length : Nat) : Int) by omega, w64 (by omega) (by omega)]
  have w3 : wrap64 (((O.length + I.length : Nat) : Int) - (I.length : Int)) = ((O.length : Nat) : Int) := by rw [show ((O.length + I.length : Nat) : Int) - (I.length : Int) = ((O.length : Nat) : Int) by omega, w64 (by omega) (by omega)]
  rw [w1, w2, w3, if_neg (by omega), if_pos (by omega), if_pos (by omega)]
  have e1 : (bs (O ++ I ++ C)).extract (((O.length + I.length : Nat) : Int)).toNat (O.length + I.length + C.length) = bs C := by
    rw [ext_bs, Int.toNat_natCast, ← List.length_append, List.drop_left, List.take_of_length_le (by omega)]
  have e2 : (bs (O ++ I ++ C)).extract (((O.length : Nat) : Int)).toNat (((O.length + I.length : Nat) : Int)).toNat = bs I := by
    rw [ext_bs, Int.toNat_natCast, Int.toNat_natCast, List.append_assoc, List.drop_left, List.take_append_of_le_length (by omega), List.take_of_length_le (by omega)]
  rw [e1, e2, if_pos rfl, if_pos (by omega), if_pos (by omega), if_pos rfl]
theorem parts_loop {t : List RowT} (hr : rightB t = true) (hs : ∀ x ∈ t, RowSmall x) (hl : t.length ≤ 60000) (r : Bool) (hend : ∀ s : ByteArray, s = bs (inT t (t.length + 1) (-1) false) → Ev (fun k => boltinglaw08_WriteParts.l0 k t s (kidsOf t (-1)) ((kidsOf t (-1)).length : Int)) r) : ∀ (d p : Nat), p + d = (kidsOf t (-1)).length →
    Ev (fun k => boltinglaw08_WriteParts.l0 k t (bs (((kidsOf t (-1)).take p).flatMap fun j => nodeT t (t.length + 1) j false)) (kidsOf t (-1)) (p : Int)) r
  | 0, p, hp => by
    obtain rfl : p = (kidsOf t (-1)).length := by omega
    refine hend _ ?_
    rw [List.take_of_length_le (Nat.le_refl _)]; rfl
  | d + 1, p, hp => by
    have hlt : p < (kidsOf t (-1)).length := by omega
    have hklen := kidsOf_length t (-1) (.inl rfl)
    obtain ⟨m, hm, hmt, hd0⟩ := root_dep hr (by omega) (List.getElem_mem hlt)
    have ih := parts_loop hr hs hl r hend d (p + 1) (by omega)
    rw [List.take_succ_eq_append_getElem hlt, List.flatMap_append, List.flatMap_singleton, hm, ← bs_app] at ih
    have he := endOf_le t m hmt
    have hrE : rEnd t (m : Int) = (endOf t m : Int) := by unfold rEnd; rw [if_pos ⟨by omega, by omega⟩]; rfl
    have hA := stands_cut_end hmt
    have hAl : (cutOut t m (endOf t m)).length = endOf t m - m := cutOut_length he.2
    have hAr := right_cut hr hmt he.2 hd0
    have hAmem : ∀ x ∈ cutOut t m (endOf t m), x ∈ t := fun x hx => List.mem_of_mem_take (List.mem_of_mem_drop hx)
    have hAs : ∀ x ∈ cutOut t m (endOf t m), RowSmall x := fun x hx => hs x (hAmem x hx)
    have hAe : endOf (cutOut t m (endOf t m)) 0 = (cutOut t m (endOf t m)).length := by
      have := (hA.2 0 (by omega)).2
      rw [Nat.add_zero] at this
      omega
    have hAd : ∀ x ∈ cutOut t m (endOf t m), -9223372036854775808 ≤ x.f0 ∧ x.f0 ≤ 9223372036854775807 := fun x hx => by
      obtain ⟨q, hq, rfl⟩ := List.getElem_of_mem hx
      have := right_dep hAr hq
      unfold dep at this
      rw [rdR_at hq] at this
      omega
    generalize hAA : cutOut t m (endOf t m) = A at *
    have hmoved := moved_is A (by omega) (fun x hx => (hAs x hx).2.2.1) hAd
    have hroot := one_root (A := A) (by omega) hAe
    have hu : write_Rows.f A = some (bs (nodeT t (t.length + 1) (m : Int) false)) := by
      unfold write_Rows.f
      rw [written_text hAr hAs (by omega) (-1) (.inl rfl)]
      unfold inT
      rw [hroot, List.flatMap_singleton, show rawOf A (-1) = false from rfl]
      have := node_shift hA (t.length + 1) (A.length + 1) 0 false (by omega) (by omega) (by omega)
      rw [Nat.add_zero] at this
      rw [show nodeT A (A.length + 1) 0 false = nodeT t (t.length + 1) (m : Int) false from this.symm]; rfl
    have htot := in_length hs (t.length + 1) (-1) (.inl rfl) false
    have hpart : (((kidsOf t (-1)).take p).flatMap fun j => nodeT t (t.length + 1) j false).length + (nodeT t (t.length + 1) (m : Int) false).length ≤ 2000000000 * t.length := by
      refine Nat.le_trans ?_ htot
      unfold inT
      conv => rhs; rw [← List.take_append_drop p (kidsOf t (-1)), List.drop_eq_getElem_cons hlt, List.flatMap_append, List.flatMap_cons, hm]
      simp only [List.length_append]
      omega
    have hrow0 : rd_T35 A 0 = rd_T35 t (m : Int) := by
      have := (hA.2 0 (by omega)).1
      rw [Nat.add_zero] at this
      exact this
    obtain ⟨hn2, hn3, hn4, hna⟩ : RowSmall (rd_T35 t (m : Int)) := by rw [rdR_at hmt]; exact hs _ (List.getElem_mem hmt)
    have hstep : ∀ k, boltinglaw08_WriteParts.l0 (k + 1) t (bs (((kidsOf t (-1)).take p).flatMap fun j => nodeT t (t.length + 1) j false)) (kidsOf t (-1)) (p : Int) = (boltingref04_End.f k t (m : Int)).bind fun t242 => (if (m : Int) ≤ t242 then (if t242 ≤ (t.length : Int) then ((boltingref04_Moved.f k ((t.take (t242 : Int).toNat).drop (m : Int).toNat) 0).bind fun t248 => ((write_Rows.f t248).bind fun t251 => (if (bs (((kidsOf t (-1)).take p).flatMap fun j => nodeT t (t.length + 1) j false)).size + t251.size ≤ 9223372036854775807 then ((write_Inside.f k t248 0).bind fun t252 => (if 0 < (t248.length : Int) then (if 2 + ((rd_T35 t248 0).f2).size ≤ 9223372036854775807 then (if ((⟨#[60, 47]⟩ : ByteArray) ++ ((rd_T35 t248 0).f2)).size + 1 ≤ 9223372036854775807 then (if ((rd_T35 t248 0).f1) = 0 then (if t252.toList = ([] : List UInt8) then (boltinglaw08_WriteParts.l0 k t ((bs (((kidsOf t (-1)).take p).flatMap fun j => nodeT t (t.length + 1) j false)) ++ t251) (kidsOf t (-1)) (wrap64 ((p : Int) + 1))) else (if (t251.size : Int) < (wrap64 ((t252.size : Int) + ((((⟨#[60, 47]⟩ : ByteArray) ++ ((rd_T35 t248 0).f2)) ++ (⟨#[62]⟩ : ByteArray)).size : Int))) then (some false) else (if 0 ≤ (wrap64 ((t251.size : Int) - ((((⟨#[60, 47]⟩ : ByteArray) ++ ((rd_T35 t248 0).f2)) ++ (⟨#[62]⟩ : ByteArray)).size : Int))) then (if (wrap64 ((t251.size : Int) - ((((⟨#[60, 47]⟩ : ByteArray) ++ ((rd_T35 t248 0).f2)) ++ (⟨#[62]⟩ : ByteArray)).size : Int))) ≤ (t251.size : Int) then (if (t251.extract ((wrap64 ((t251.size : Int) - ((((⟨#[60, 47]⟩ : ByteArray) ++ ((rd_T35 t248 0).f2)) ++ (⟨#[62]⟩ : ByteArray)).size : Int))) : Int).toNat t251.size).toList = (((⟨#[60, 47]⟩ : ByteArray) ++ ((rd_T35 t248 0).f2)) ++ (⟨#[62]⟩ : ByteArray)).toList then (if 0 ≤ (wrap64 ((wrap64 ((t251.size : Int) - ((((⟨#[60, 47]⟩ : ByteArray) ++ ((rd_T35 t248 0).f2)) ++ (⟨#[62]⟩ : ByteArray)).size : Int))) - (t252.size : Int))) then (if (wrap64 ((wrap64 ((t251.size : Int) - ((((⟨#[60, 47]⟩ : ByteArray) ++ ((rd_T35 t248 0).f2)) ++ (⟨#[62]⟩ : ByteArray)).size : Int))) - (t252.size : Int))) ≤ (wrap64 ((t251.size : Int) - ((((⟨#[60, 47]⟩ : ByteArray) ++ ((rd_T35 t248 0).f2)) ++ (⟨#[62]⟩ : ByteArray)).size : Int))) then (if (t251.extract ((wrap64 ((wrap64 ((t251.size : Int) - ((((⟨#[60, 47]⟩ : ByteArray) ++ ((rd_T35 t248 0).f2)) ++ (⟨#[62]⟩ : ByteArray)).size : Int))) - (t252.size : Int))) : Int).toNat ((wrap64 ((t251.size : Int) - ((((⟨#[60, 47]⟩ : ByteArray) ++ ((rd_T35 t248 0).f2)) ++ (⟨#[62]⟩ : ByteArray)).size : Int))) : Int).toNat).toList = t252.toList then (boltinglaw08_WriteParts.l0 k t ((bs (((kidsOf t (-1)).take p).flatMap fun j => nodeT t (t.length + 1) j false)) ++ t251) (kidsOf t (-1)) (wrap64 ((p : Int) + 1))) else (some false)) else (none)) else (none)) else (some false)) else (none)) else (none)))) else (boltinglaw08_WriteParts.l0 k t ((bs (((kidsOf t (-1)).take p).flatMap fun j => nodeT t (t.length + 1) j false)) ++ t251) (kidsOf t (-1)) (wrap64 ((p : Int) + 1)))) else (none)) else (none)) else (none))) else (none)))) else (none)) else (none)) := fun k => by
      rw [boltinglaw08_WriteParts.l0, if_pos (by omega), if_pos (by omega), show rd (kidsOf t (-1)) (p : Int) = (m : Int) by rw [← hm]; simp [rd, hlt]]
      have h0m : (0 : Int) ≤ (m : Int) := by omega
      simp only [if_pos h0m]
    refine evI hstep (Ev.bind (evAt (t.length + 1) (fun k hk => leO_le (f := fun q => boltingref04_End.f q t (m : Int)) (fun q => boltingref04_End.mono _ _ _) (r4End_is t (m : Int) (by omega)) (by omega))) ?_)
    rw [hrE]
    refine Ev.congr (f := fun k => (boltingref04_Moved.f k A 0).bind _) (fun k => by
      rw [if_pos (by omega), if_pos (by omega), show (((endOf t m : Nat) : Int)).toNat = endOf t m from rfl, show ((m : Nat) : Int).toNat = m from rfl, show (t.take (endOf t m)).drop m = A from hAA]) (Ev.bind hmoved ?_)
    rw [hu]
    simp only [Option.bind_some]
    refine Ev.congr (fun k => if_pos (by simp only [bs_size]; omega)) ?_
    have hnext : ∀ k, boltinglaw08_WriteParts.l0 k t ((bs (((kidsOf t (-1)).take p).flatMap fun j => nodeT t (t.length + 1) j false)) ++ bs (nodeT t (t.length + 1) (m : Int) false)) (kidsOf t (-1)) (wrap64 ((p : Int) + 1)) = boltinglaw08_WriteParts.l0 k t ((bs (((kidsOf t (-1)).take p).flatMap fun j => nodeT t (t.length + 1) j false)) ++ bs (nodeT t (t.length + 1) (m : Int) false)) (kidsOf t (-1)) ((p + 1 : Nat) : Int) := fun k => by rw [w64n (by omega)]
    rw [hrow0]
    by_cases hk0 : (rd_T35 t (m : Int)).f1 = 0
    · by_cases hv : inB voidL (rd_T35 t (m : Int)).f2 = true
      · refine Ev.bind (evAt (r := (⟨#[]⟩ : ByteArray)) 14 (fun k hk => ?_)) (Ev.congr (fun k => ?_) ih)
        · unfold write_Inside.f; rw [if_neg (by omega), if_neg (by omega), if_neg (by omega), if_pos (by omega), if_pos (by omega), hrow0, if_pos hk0, void_is _ hk, Option.bind_some, if_pos hv]
        · rw [if_pos (by omega), if_pos (by omega), if_pos (by simp only [ByteArray.size_append, lit_size, List.length_cons, List.length_nil]; omega), if_pos hk0, if_pos bs_nil_toList, hnext]
      · have hraw : rawOf A 0 = inB rawL (rd_T35 t (m : Int)).f2 := by unfold rawOf; rw [if_pos (by omega), hrow0]
        have hin : inT A (A.length + 1) 0 (rawOf A 0) = inT t t.length (m : Int) (inB rawL (rd_T35 t (m : Int)).f2) := by
          rw [hraw]
          have := in_shift hA (k := 0) (by omega) t.length (A.length + 1) (by omega) (by omega) (inB rawL (rd_T35 t (m : Int)).f2)
          rw [Nat.add_zero] at this
          exact this.symm
        refine Ev.bind (evAt (r := bs (inT t t.length (m : Int) (inB rawL (rd_T35 t (m : Int)).f2))) 14 (fun k hk => ?_)) (Ev.congr (fun k => ?_) ih)
        · unfold write_Inside.f; rw [if_neg (by omega), if_neg (by omega), if_neg (by omega), if_pos (by omega), if_pos (by omega), hrow0, if_pos hk0, void_is _ hk, Option.bind_some, if_neg hv, written_text hAr hAs (by omega) 0 (.inr ⟨by omega, by omega⟩), hin]; rfl
        · rw [if_pos (by omega), if_pos (by omega), if_pos (by simp only [ByteArray.size_append, lit_size, List.length_cons, List.length_nil]; omega), if_pos hk0, hnext]
          have hnode : nodeT t (t.length + 1) (m : Int) false = openTxt (rd_T35 t (m : Int)).f2 (rd_T35 t (m : Int)).f4 ++ inT t t.length (m : Int) (inB rawL (rd_T35 t (m : Int)).f2) ++ ([60, 47] ++ (rd_T35 t (m : Int)).f2.data.toList ++ [62]) := by
            rw [nodeT, if_neg (by omega), if_neg (by omega), if_neg hv]; rfl
          rw [hnode] at hpart ⊢
          rw [close_bs]
          exact tail_ok _ _ _ (by simp only [List.length_append] at hpart ⊢; omega) _ _ _
    · refine Ev.bind (evAt (r := (⟨#[]⟩ : ByteArray)) 0 (fun k hk => ?_)) (Ev.congr (fun k => ?_) ih)
      · unfold write_Inside.f; rw [if_neg (by omega), if_neg (by omega), if_neg (by omega), if_pos (by omega), if_pos (by omega), hrow0, if_neg hk0]
      · rw [if_pos (by omega), if_pos (by omega), if_pos (by simp only [ByteArray.size_append, lit_size, List.length_cons, List.length_nil]; omega), if_neg hk0, hnext]
theorem writeParts_true (l : List RowT) (h : ∀ x ∈ l, StrSmall x) : ∃ k, boltinglaw08_WriteParts.f k l = some true := by
  have hl := bnd_length l
  have hs := cut_small h
  apply Ev.rounds
  unfold boltinglaw08_WriteParts.f
  refine Ev.bind (bound_is l) (Ev.bind (rRight_is (bnd l) (by omega) (fun x hx => by have := bnd_attrs hx; omega)) ?_)
  generalize bnd l = t at *
  by_cases hr : rightB t = true
  · have hk : boltingref04_Kids.f t (-1) = some (kidsOf t (-1)) := by
      unfold boltingref04_Kids.f
      rw [if_neg (by omega), if_pos (by omega), kids_same hr (by omega) (.inl rfl)]
    refine Ev.congr (f := fun k => boltinglaw08_WriteParts.l0 k t (⟨#[]⟩ : ByteArray) (kidsOf t (-1)) 0) (fun k => by rw [if_pos hr, hk, Option.bind_some]) ?_
    have := parts_loop hr hs (by omega) true (fun s hsE => by
      refine evI (f := fun _ => some true) (fun k => ?_) (Ev.now true)
      have hw := written_text hr hs (by omega) (-1) (.inl rfl)
      rw [boltinglaw08_WriteParts.l0, if_neg (by omega)]
      unfold write_Rows.f write_Inside.f
      rw [hw, if_pos rfl]
      simp only [Option.bind_some]
      rw [show rawOf t (-1) = false from rfl, ← hsE, if_pos rfl, if_pos rfl]
      rfl) (kidsOf t (-1)).length 0 (by omega)
    exact this
  · exact Ev.congr (fun k => by rw [if_neg hr]; rfl) (Ev.now true)
end Go.Proofs.YtpnhjipaeggcpaaDoor.X
end
section
namespace Go.Proofs.YtpnhjipaeggcpaaDoor.writeParts
open Go.ChangeShapes Go.WideShapes Go.ChangeAt Go.RowKit Go.Proofs.YtpnhjipaeggcpaaDoor.X
open Go.ChangeMaps (open_string shut_string)
set_option maxHeartbeats 4000000 in
set_option maxRecDepth 100000 in
theorem contract (H : Type) (enc : TypeId × Value → H) (W : World) (base : Nat) (args : Array Value) (ds gs : List (DataW H)) (before : List MemPlace)
    (hval0 : ∀ (j : Nat) t v, Tryd.f4.params[j]? = some t → args[j]? = some v → Value.okWide Tryd.prog W .any base t v)
    (hW : DataW.Whole enc Tryd.prog Tryd.f4.params.toList Rows.writePartsSpec.vars false W args.toList ds gs before) (hk : Rows.uptoSmall H (ds ++ gs) = true) (hT : WF W) :
    Calls Tryd.prog 4 args W fun e W' => ∃ v, e = .returned v ∧ Rows.writePartsSpec.post enc Tryd.prog Tryd.f4 false true false false W args v W' := by
  have hval : ∀ (j : Nat) t v, Tryd.f4.params[j]? = some t → args[j]? = some v → Value.okWide Tryd.prog W .any base t v := hval0
  have hW' := hW
  obtain ⟨p, q, hA0, hV, rfl, hfz, hnd⟩ := hW
  have hA : DataW.TrodAll enc Tryd.prog W 0 (fun _ => true) true Tryd.f4.params.toList args.toList ds p := hA0
  rw [Tryd.params4] at hA hval
  obtain ⟨v0, vs0, d0, ds0, p0, q0, hargs, rfl, rfl, h0, r0⟩ := trodAll_cons hA
  obtain ⟨rfl, rfl, rfl⟩ := trodAll_nil r0
  obtain rfl : args = #[v0] := by cases args; simp_all
  obtain ⟨rfl, rfl⟩ := trodVars_none hV
  obtain ⟨a0, len0, cap0, rfl⟩ := okWide_slice Tryd.underlying22 (hval 0 22 v0 rfl rfl)
  have k0 := h0
  have lt0 : ∀ x ∈ p0, x.block < W.heap.size := by obtain ⟨m, hm⟩ := k0; exact DataW.trod_lt m _ _ _ hm
  obtain ⟨fuel0, hf0⟩ := h0
  obtain ⟨A0, c0, l0, e0, hl0, hC0, hz0⟩ := open_rows hf0
  dsimp only at hz0
  cases e0
  have hb : Rows.uptoBulkAll ([d0] ++ []) ≤ 1048576 := of_decide_eq_true hk
  have hb0 : Rows.uptoBulk (d0 : DataW H) ≤ 1048576 := by
    have := bulk_one (H := H) (l := [d0] ++ []) (d := d0) (by simp)
    omega
  clear hA0 hval0 hk
  have hs0 : ∀ x ∈ l0, StrSmall x := fun x hx => by
    obtain ⟨z1, z2, z3⟩ := hz0 x hx
    exact ⟨by omega, by omega, fun a ha => by have := z3 a ha; omega⟩
  obtain ⟨k, hpure⟩ := writeParts_true l0 hs0
  refine (boltinglaw08_WriteParts.calls k _ _ l0 true W hC0 hl0 hpure hT).mono fun e W' ⟨he, bel⟩ => ?_
  subst he
  exact ⟨_, rfl, _, _, _, [], _, [], hW', trodAll_mk1 (shut_bool Tryd.underlying4 _), (trodAll_cons_mk (Below.trod laidOut (by kernel_rfl) (of_decide_eq_true (by kernel_rfl)) k0 bel lt0) trodAll_mk0), rfl, bel.frame _, fun h => by cases h⟩
theorem witness_row (os : Os) {H : Type} (enc : TypeId × Value → H) :
    (Rows.OpenSpec.upto Rows.writePartsSpec).preRow enc Tryd.prog Tryd.f4 Rows.writePartsUptoRow.domain false Rows.writePartsUptoRow.laid ((laidWorld os).forCall (fun _ _ => 0) ⟨#[], #[.slice none 0 0], []⟩).memory #[.slice none 0 0] := by
  have hw : (DataW.whole enc Tryd.prog ((laidWorld os).forCall (fun _ _ => 0) ⟨#[], #[.slice none 0 0], []⟩).memory Tryd.f4.params.toList Rows.writePartsSpec.vars false #[Value.slice none 0 0].toList 8).map (fun x => (x.1, x.2.1)) =
      some ([.nil], []) := by kernel_rfl
  obtain ⟨⟨x1, x2, x3⟩, hx, hx1⟩ := Option.map_eq_some_iff.1 hw
  simp only [Prod.mk.injEq] at hx1
  obtain ⟨rfl, rfl⟩ := hx1
  exact OpenSpec.preRow_of_cond 8 hx (by kernel_rfl) (fun k hk => by cases hk; kernel_rfl) (by kernel_rfl) (laid_met os _)
set_option maxRecDepth 100000 in
theorem lifted (os : Os) (started : os.Started) (H : Type) (enc : TypeId × Value → H) (F : Stop.Interp) :
    ReturnsInHanded {} Tryd.checked os 4 .any ((Rows.OpenSpec.upto Rows.writePartsSpec).preRow enc Tryd.prog Tryd.f4 Rows.writePartsUptoRow.domain false Rows.writePartsUptoRow.laid) (((Rows.OpenSpec.upto Rows.writePartsSpec).at F).post enc Tryd.prog Tryd.f4 false true false false) := by
  refine returnsInHanded_of_row (C := Tryd.checked) (s := Rows.OpenSpec.upto Rows.writePartsSpec) own started (by kernel_rfl) Tryd.func4
    (witness_row_atRef (enc := enc) (C := Tryd.checked) false (laidWorld os) #[.slice none 0 0] rfl (by kernel_rfl) (by kernel_rfl) (by kernel_rfl) (witness_row os enc)) ?_
  intro W base args ds gs before hval hW _ hcond _ hL hS _
  exact contract H enc W base args ds gs before hval hW (hcond _ rfl) (wf_of hL hS)
theorem said : Rows.WritePartsUptoSaid :=
  OpenClaim.holds_of_cond 4 Tryd.f4 rfl rfl rfl rfl rfl rfl rfl ⟨rfl, rfl, rfl, rfl, rfl⟩ rfl rfl rfl rfl rfl (by kernel_rfl) Tryd.func4 (by kernel_rfl)
    (of_decide_eq_true (by kernel_rfl)) (by unfold Func.isWrapper; first | (rw [if_pos (by decide +kernel)]; kernel_rfl) | (rw [if_neg (by decide +kernel)]; exact ⟨rfl, rfl⟩))
    (fun os started H enc _ F => by rw [OpenClaim.pre_eq_preRow]; exact lifted os started H enc F)
theorem plain (f : FuncId) (fn : Func) (hf : Tryd.pinned.checked.prog.funcNamed "bolting/boltinglaw08.WriteParts" = some f) (hfn : Tryd.pinned.checked.prog.funcs[f]? = some fn) :
    false = Tryd.pinned.checked.prog.looks [] ∧ ∀ (j : Nat) t, fn.params[j]? = some t → Tryd.pinned.checked.prog.wantsStandIn t = false := by
  obtain rfl : f = 4 := Option.some.inj ((show Tryd.prog.funcNamed "bolting/boltinglaw08.WriteParts" = some 4 by kernel_rfl).symm.trans hf) |>.symm
  obtain rfl : fn = Tryd.f4 := (Option.some.inj (Tryd.func4.symm.trans hfn)).symm
  refine ⟨by kernel_rfl, fun j t ht => ?_⟩
  rw [Tryd.params4] at ht
  have hm := Array.mem_of_getElem? ht
  have hall : t = 22 := by
    simp at hm; omega
  rcases hall with rfl
  · exact (show Tryd.prog.wantsStandIn 22 = false by kernel_rfl)
theorem card : Rows.WritePartsUptoCardSaid :=
  Claim7.holds_tied_plain_at .later [] _ _ _ _ said (fun _ h => by cases h) (by kernel_rfl) (fun _ h => by cases h) writePartsUpto_row_tie rfl ⟨rfl, rfl⟩ (by kernel_rfl) rfl plain (by kernel_rfl)
end Go.Proofs.YtpnhjipaeggcpaaDoor.writeParts
namespace Go.Proofs.YtpnhjipaeggcpaaDoor
theorem writeParts_holds : Rows.WritePartsUptoCardSaid := writeParts.card
end Go.Proofs.YtpnhjipaeggcpaaDoor
end
#print axioms Go.Proofs.YtpnhjipaeggcpaaDoor.writeParts_holds
