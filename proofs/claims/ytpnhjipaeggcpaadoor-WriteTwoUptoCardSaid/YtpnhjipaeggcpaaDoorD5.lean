/-
  WriteTwo: legal trees, an element, and legal trees behind them are legal, and written they are one behind the other (of at most 40 rows of 6 attributes each). Conditions: what comes in is of bulk at most 1048576 (the second form); unicode/utf8's two tables start as the program's text lays them (the card ties them).
-/
import Derived.Test.YtpnhjipaeggcpaaDoorD4
import Derived.Test.YtpnhjipaeggcpaaDoorCards
import Derived.Test.YtpnhjipaeggcpaaDoorTie
import Derived.Deep.DeepHandedRow
import Derived.Deep.DeepWitnessRowRef
set_option linter.unusedVariables false
set_option linter.unusedSimpArgs false
section
namespace Go.Proofs.YtpnhjipaeggcpaaDoor.X
open Go.RowKit Go.Proofs.YtpnhjipaeggcpaaDoorW.PrintWords Go.Proofs.YtpnhjipaeggcpaaDoorW.PrintLast Go.Proofs.YtpnhjipaeggcpaaDoorW.PrintMore
attribute [local go_sem] max2_int min2_int max_two min_two max_three min_three max_four min_four
mutual
def write_Legal.j0 : Nat → List (S35) → Bool → Option (Bool)
 | 0, _, _ => none
 | k + 1, x0, x15 => if x15 = true then (some false) else (write_Legal.l0 k x0 ([] : List ByteArray) x0 (x0.length : Int) 0)
def write_Legal.l0 : Nat → List (S35) → List ByteArray → List (S35) → Int → Int → Option (Bool)
 | 0, _, _, _, _, _ => none
 | k + 1, x0, x3, x16, x17, x18 => if x18 < x17 then (if 0 ≤ x18 then (if x18 < (x16.length : Int) then (if 0 ≤ (mn (x3.length : Int) ((rd_T35 x16 x18).f0)) then (if (mn (x3.length : Int) ((rd_T35 x16 x18).f0)) ≤ (x3.length : Int) then ((some (x3.take ((mn (x3.length : Int) ((rd_T35 x16 x18).f0)) : Int).toNat : List ByteArray)).bind fun y410 => (if ((rd_T35 x16 x18).f1) = 1 then ((write_clean.f ((rd_T35 x16 x18).f3)).bind fun t413 => (if t413 = true then (write_Legal.l0 k x0 y410 x16 x17 (wrap64 (x18 + 1))) else (some false))) else (if ((rd_T35 x16 x18).f1) = 2 then ((write_comment.f ((rd_T35 x16 x18).f3)).bind fun t414 => (if t414 = true then (write_Legal.l0 k x0 y410 x16 x17 (wrap64 (x18 + 1))) else (some false))) else ((write_element.f k ((rd_T35 x16 x18).f0) ((rd_T35 x16 x18).f1) ((rd_T35 x16 x18).f2) ((rd_T35 x16 x18).f3) ((rd_T35 x16 x18).f4) y410).bind fun t415 => (if t415 = true then ((write_within.f k x0 x18).bind fun t416 => (if t416 = true then (if y410.length < 8796093022208 then (write_Legal.l0 k x0 (y410 ++ [(rd_T35 x16 x18).f2]) x16 x17 (wrap64 (x18 + 1))) else (none)) else (some false))) else (some false)))))) else (none)) else (none)) else (none)) else (none)) else (some true)
end
def write_Legal.f (k : Nat) (l0 : List (S35)) : Option (Bool) := (rows_Check.f k l0).bind fun t403 => (if t403 = 0 then ((rows_Normal.f l0).bind fun t404 => ((rows_Same.f t404 l0).bind fun t407 => (write_Legal.j0 k l0 (!t407)))) else (write_Legal.j0 k l0 true))
set_option maxHeartbeats 8000000 in
set_option maxRecDepth 100000 in
theorem write_Legal.calls (k : Nat) (A0 : Option Addr) (c0 : Nat) (l0 : List (S35)) (r : Bool) (w : World) (hr0 : Kd.C k35 w A0 l0.length l0) (hc0 : l0.length ≤ c0) (h : write_Legal.f k l0 = some r) (hT : WF w := by exact WF.below hT y22_) :
  Calls Tryd.prog 16 #[.slice A0 l0.length c0] w fun e w' => e = .returned (.bool r) ∧ Below w.heap.size w w' := by
 have hu35 := Tryd.underlying35
 have HR0 := Aside0.mk hr0
 have HC0 := Aside0.mk hc0
 clear hr0 hc0
 have HB := Aside0.mk (Below.refl w.heap.size w)
 have H : ((rows_Check.f k l0).bind fun t403 => (if t403 = 0 then ((rows_Normal.f l0).bind fun t404 => ((rows_Same.f t404 l0).bind fun t407 => (write_Legal.j0 k l0 (!t407)))) else (write_Legal.j0 k l0 true))) = some r := h
 clear h
 have HC2 := Aside0.mk H
 clear H
 go_enter Tryd.func16, Tryd.ntmps16
 go_upto_region 1 with (fail)
 go_cut [15] (fun v15 wc => ∃ (kq : Nat) (x15_1 : Bool), v15 = .bool x15_1 ∧ Aside0 (write_Legal.j0 kq l0 x15_1 = some r) ∧ Aside0 (kq ≤ k) ∧ Aside0 (Below w.heap.size w wc))
 case first =>
  have H := HC2.out
  clear HC2
  replace H := Option.bind_eq_some_iff.mp H
  obtain ⟨t403, A30, H⟩ := H
  have A3 := Aside0.mk A30
  clear A30
  by_cases c4 : t403 = 0
  ·rw [if_pos c4] at H
   have c4b0 : (t403 == 0) = true := beq_iff_eq.mpr c4
   have c4b1 : (t403 != 0) = false := bne_eq_false_iff_eq.mpr c4
   clear c4
   (first | rw [c4b0] | (simp only [i64_w, i32_w]; rw [c4b0]) | skip)
   replace H := Option.bind_eq_some_iff.mp H
   obtain ⟨t404, A50, H⟩ := H
   have A5 := Aside0.mk A50
   clear A50
   replace H := Option.bind_eq_some_iff.mp H
   obtain ⟨t407, A60, H⟩ := H
   have A6 := Aside0.mk A60
   clear A60
   have H' := Aside0.mk H
   clear H
   go_wp2_with (first | ((with_reducible refine gate_callee (f := 27) rfl ?_); refine goesL_ (some 7) rfl rfl Tryd.func27 (by kernel_rfl) rfl #[.slice A0 l0.length c0] rfl y15_ ?_; (with_reducible refine (rows_Check.calls k _ _ l0 t403 _ ?side1 ?side2 A3.out).mono ?_); (case side1 => repeat (first | exact (Kd.C_below HR0.out HB.out) | (with_reducible refine Kd.C_alloc ?_ _) | (with_reducible refine Kd.C_drewN ?_ _) | (with_reducible refine Kd.C_drew ?_))); (case side2 => exact HC0.out); rintro e w7 ⟨rfl, hb⟩; refine ⟨_, rfl, ?_⟩; have n0_ := Aside0.mk (below_step y14_ hb); clear HB; have HB := n0_; clear n0_; (try clear hb); (try clear hb2); (try clear hk); (try clear hi)) | (go_at_call 29; (with_reducible refine (rows_Normal.calls _ _ l0 t404 _ ?side1 ?side2 A5.out).mono ?_); (case side1 => repeat (first | exact (Kd.C_below HR0.out HB.out) | (with_reducible refine Kd.C_alloc ?_ _) | (with_reducible refine Kd.C_drewN ?_ _) | (with_reducible refine Kd.C_drew ?_))); (case side2 => exact HC0.out); rintro e w8 ⟨v405, rfl, ho0, hb⟩; have n0_ := Aside0.mk (Kd.S_lower ho0 (below_size y14_)); have n1_ := Aside0.mk (below_step y14_ hb); clear HB; have HO406 := n0_; have HB := n1_; clear n0_ n1_; (try clear hb); (try clear hb2); (try clear hk); (try clear hi); (try clear ho0); obtain ⟨Ao9, co9, eo9⟩ := Kd.S_slice HO406.out; subst eo9) | (go_at_call 28; (with_reducible refine (rows_Same.calls _ _ t404 _ _ l0 t407 _ ?side1 ?side2 ?side3 ?side4 A6.out).mono ?_); (case side1 => repeat (first | exact (Kd.S_reads' HO406.out).2.2 | (with_reducible refine Kd.C_alloc ?_ _) | (with_reducible refine Kd.C_drewN ?_ _) | (with_reducible refine Kd.C_drew ?_))); (case side2 => exact (Kd.S_reads' HO406.out).2.1); (case side3 => repeat (first | exact (Kd.C_below HR0.out HB.out) | (with_reducible refine Kd.C_alloc ?_ _) | (with_reducible refine Kd.C_drewN ?_ _) | (with_reducible refine Kd.C_drew ?_))); (case side4 => exact HC0.out); rintro e w10 ⟨rfl, hb⟩; have n0_ := Aside0.mk (Kd.S_below (y9_ HO406.out) hb); have n1_ := Aside0.mk (below_step y14_ hb); clear HO406; clear HB; have HO406 := n0_; have HB := n1_; clear n0_ n1_; (try clear hb); (try clear hb2); (try clear hk); (try clear hi)))
   go_meet
   case rel => exact ⟨_, (!t407), y5_, H', ⟨y1_⟩, ⟨y14_⟩⟩
  ·rw [if_neg c4] at H
   have c4b0 : (t403 == 0) = false := beq_eq_false_iff_ne.mpr c4
   have c4b1 : (t403 != 0) = true := bne_iff_ne.mpr c4
   (first | rw [c4b0] | (simp only [i64_w, i32_w]; rw [c4b0]) | skip)
   have H' := Aside0.mk H
   clear H
   go_wp2_with (first | ((with_reducible refine gate_callee (f := 27) rfl ?_); refine goesL_ (some 7) rfl rfl Tryd.func27 (by kernel_rfl) rfl #[.slice A0 l0.length c0] rfl y15_ ?_; (with_reducible refine (rows_Check.calls k _ _ l0 t403 _ ?side1 ?side2 A3.out).mono ?_); (case side1 => repeat (first | exact (Kd.C_below HR0.out HB.out) | (with_reducible refine Kd.C_alloc ?_ _) | (with_reducible refine Kd.C_drewN ?_ _) | (with_reducible refine Kd.C_drew ?_))); (case side2 => exact HC0.out); rintro e w11 ⟨rfl, hb⟩; refine ⟨_, rfl, ?_⟩; have n0_ := Aside0.mk (below_step y14_ hb); clear HB; have HB := n0_; clear n0_; (try clear hb); (try clear hb2); (try clear hk); (try clear hi)))
   go_meet
   case rel => exact ⟨_, (true), y5_, H', ⟨y1_⟩, ⟨y14_⟩⟩
 case rest =>
  clear HC2
  try clear c1
  try clear c2
  try clear p2
  try clear c4
  try clear c4b0
  try clear c4b1
  obtain ⟨kq, x15_1, rfl, HA, HJ1, HB⟩ := hcut
  cases kq with
  | zero => exact absurd HA.out (by simp [write_Legal.j0])
  | succ kj1 =>
   have H := HA.out
   clear HA
   simp only [write_Legal.j0] at H
   by_cases c12 : x15_1 = true
   ·subst c12
    rw [if_pos rfl] at H
    obtain rfl := Option.some.inj H
    go_wp2
    go_ret
    exact ⟨y13_, y14_⟩
   ·replace c12 := Bool.eq_false_iff.mpr c12
    subst c12
    rw [if_neg (show ¬ (false = true) by decide)] at H
    have H' := Aside0.mk H
    clear H
    go_wp2
    go_loopg [3, 18] kj1 (fun kq v3 v18 w' => ∃ (x3_2 : List ByteArray) (x18_2 : Int), v18 = .int .i64 x18_2 ∧ Aside0 (write_Legal.l0 kq l0 x3_2 l0 (l0.length : Int) x18_2 = some r) ∧ Aside0 (kq ≤ kj1) ∧ Aside0 (Kd.R Kd.string 9 w' w.heap.size (fun _ => True) v3 x3_2) ∧ Aside0 (Below w.heap.size w w'))
    case atStart => exact ⟨(([] : List ByteArray)), (0), y5_, H', ⟨Nat.le_refl _⟩, ⟨y16_⟩, ⟨y14_⟩⟩
    case round =>
     clear H'
     try clear c1
     try clear c2
     try clear p2
     try clear c4
     try clear c4b0
     try clear c4b1
     try clear c12
     try clear p2
     obtain ⟨x3_2, x18_2, rfl, HA, HK2, HO_3, HB⟩ := hrel
     cases gk with
     | zero => exact absurd HA.out (by simp [write_Legal.l0])
     | succ k2 =>
      have H := HA.out
      clear HA
      simp only [write_Legal.l0] at H
      by_cases c13 : x18_2 < (l0.length : Int)
      ·rw [if_pos c13] at H
       have c13b0 : decide (x18_2 < (l0.length : Int)) = true := decide_eq_true c13
       clear c13
       by_cases c14 : 0 ≤ x18_2
       rotate_left
       ·rw [if_neg c14] at H
        exact absurd H (by simp)
       rw [if_pos c14] at H
       have c14b0 : decide (0 ≤ x18_2) = true := decide_eq_true c14
       clear c14
       by_cases c15 : x18_2 < (l0.length : Int)
       rotate_left
       ·rw [if_neg c15] at H
        exact absurd H (by simp)
       rw [if_pos c15] at H
       have c15b0 : decide (x18_2 < (l0.length : Int)) = true := decide_eq_true c15
       clear c15
       obtain ⟨ji16, hji16⟩ : ∃ j_ : Int, (mn (x3_2.length : Int) ((rd_T35 l0 x18_2).f0)) = j_ := ⟨_, rfl⟩
       replace H : (if 0 ≤ (ji16) then (if (ji16) ≤ (x3_2.length : Int) then ((some (x3_2.take ((ji16) : Int).toNat : List ByteArray)).bind fun y410 => (if ((rd_T35 l0 x18_2).f1) = 1 then ((write_clean.f ((rd_T35 l0 x18_2).f3)).bind fun t413 => (if t413 = true then (write_Legal.l0 k2 l0 y410 l0 (l0.length : Int) (wrap64 (x18_2 + 1))) else (some false))) else (if ((rd_T35 l0 x18_2).f1) = 2 then ((write_comment.f ((rd_T35 l0 x18_2).f3)).bind fun t414 => (if t414 = true then (write_Legal.l0 k2 l0 y410 l0 (l0.length : Int) (wrap64 (x18_2 + 1))) else (some false))) else ((write_element.f k2 ((rd_T35 l0 x18_2).f0) ((rd_T35 l0 x18_2).f1) ((rd_T35 l0 x18_2).f2) ((rd_T35 l0 x18_2).f3) ((rd_T35 l0 x18_2).f4) y410).bind fun t415 => (if t415 = true then ((write_within.f k2 l0 x18_2).bind fun t416 => (if t416 = true then (if y410.length < 8796093022208 then (write_Legal.l0 k2 l0 (y410 ++ [(rd_T35 l0 x18_2).f2]) l0 (l0.length : Int) (wrap64 (x18_2 + 1))) else (none)) else (some false))) else (some false)))))) else (none)) else (none)) = some r := by first | (rw [hji16] at H; exact H) | (simp only [hji16] at H ⊢; exact H)
       have hji16_ : (if ((rd_T35 l0 x18_2).f0) < (x3_2.length : Int) then ((rd_T35 l0 x18_2).f0) else (x3_2.length : Int)) = ji16 := hji16
       by_cases c17 : 0 ≤ (ji16)
       rotate_left
       ·rw [if_neg c17] at H
        exact absurd H (by simp)
       rw [if_pos c17] at H
       have c17b0 := eq_true c17
       have c17b1 : decide (0 ≤ (ji16)) = true := decide_eq_true c17
       clear c17
       by_cases c18 : (ji16) ≤ (x3_2.length : Int)
       rotate_left
       ·rw [if_neg c18] at H
        exact absurd H (by simp)
       rw [if_pos c18] at H
       have c18b0 := eq_true c18
       have c18b1 : decide ((ji16) ≤ (x3_2.length : Int)) = true := decide_eq_true c18
       clear c18
       obtain ⟨y410, hy410⟩ : ∃ y_ : List ByteArray, y_ = (x3_2.take ((ji16) : Int).toNat) := ⟨_, rfl⟩
       replace H : (if ((rd_T35 l0 x18_2).f1) = 1 then ((write_clean.f ((rd_T35 l0 x18_2).f3)).bind fun t413 => (if t413 = true then (write_Legal.l0 k2 l0 y410 l0 (l0.length : Int) (wrap64 (x18_2 + 1))) else (some false))) else (if ((rd_T35 l0 x18_2).f1) = 2 then ((write_comment.f ((rd_T35 l0 x18_2).f3)).bind fun t414 => (if t414 = true then (write_Legal.l0 k2 l0 y410 l0 (l0.length : Int) (wrap64 (x18_2 + 1))) else (some false))) else ((write_element.f k2 ((rd_T35 l0 x18_2).f0) ((rd_T35 l0 x18_2).f1) ((rd_T35 l0 x18_2).f2) ((rd_T35 l0 x18_2).f3) ((rd_T35 l0 x18_2).f4) y410).bind fun t415 => (if t415 = true then ((write_within.f k2 l0 x18_2).bind fun t416 => (if t416 = true then (if y410.length < 8796093022208 then (write_Legal.l0 k2 l0 (y410 ++ [(rd_T35 l0 x18_2).f2]) l0 (l0.length : Int) (wrap64 (x18_2 + 1))) else (none)) else (some false))) else (some false))))) = some r := by first | (rw [hy410]; with_reducible exact H) | (have H2_ := (Option.bind_some _ _).symm.trans H; rw [hy410]; with_reducible exact H2_) | (have H2_ := (Option.bind_some _ _).symm.trans H; with_reducible exact H2_) | with_reducible exact H | (rw [hy410]; exact H) | exact H
       have Ny410 := Aside0.mk hy410
       clear hy410
       by_cases c19 : ((rd_T35 l0 x18_2).f1) = 1
       ·rw [if_pos c19] at H
        have c19b0 : (((rd_T35 l0 x18_2).f1) == 1) = true := beq_iff_eq.mpr c19
        have c19b1 : (((rd_T35 l0 x18_2).f1) != 1) = false := bne_eq_false_iff_eq.mpr c19
        clear c19
        replace H := Option.bind_eq_some_iff.mp H
        obtain ⟨t413, A200, H⟩ := H
        have A20 := Aside0.mk A200
        clear A200
        by_cases c21 : t413 = true
        ·subst c21
         rw [if_pos rfl] at H
         have H' := Aside0.mk H
         clear H
         have p408 : 0 ≤ (x18_2 : Int) := of_decide_eq_true y2_
         have q408 : x18_2 < (l0.length : Int) := of_decide_eq_true y2_
         obtain ⟨ad408, A408_4, c408_4, e408, hx408_0, hx408_1, hx408_2, hx408_3, hx408_4, hl408_4, hi408_4⟩ := at_T35 HR0.out x18_2 p408 q408
         cases e408
         replace hx408_0 := (HB.out.cell (World.block_lt_of_cell? w _ hx408_0)).trans hx408_0
         replace hx408_1 := (HB.out.cell (World.block_lt_of_cell? w _ hx408_1)).trans hx408_1
         replace hx408_2 := (HB.out.cell (World.block_lt_of_cell? w _ hx408_2)).trans hx408_2
         replace hx408_3 := (HB.out.cell (World.block_lt_of_cell? w _ hx408_3)).trans hx408_3
         replace hx408_4 := (HB.out.cell (World.block_lt_of_cell? w _ hx408_4)).trans hx408_4
         have HR408_4 := Aside0.mk hi408_4
         have HC408_4 := Aside0.mk hl408_4
         clear hi408_4 hl408_4
         replace p408 := eq_true p408
         replace q408 := eq_true q408
         go_wp2_with (first | ((with_reducible refine gate_dst (N := 5) rfl ?_); refine box_event ?hg (N := 5) ?hd (cs := #[.int .i64 0, .int .i64 0, .string (⟨#[]⟩ : ByteArray), .string (⟨#[]⟩ : ByteArray), .slice none 0 0]) (t := 35) ?hr ?_; (case hd => rfl); (case hg => rfl); (case hr => first | (go_simp; done) | (go_simp; rfl)); intro gb409 hg w22 hbox hb; have n0_ := Aside0.mk (Kd.R_below (y8_ HO_3.out) hb); have n1_ := Aside0.mk (below_step y14_ hb); have n2_ := Aside0.mk (hbox); have n3_ := Aside0.mk ((by rw [hg]; exact (below_size y14_) : w.heap.size ≤ gb409)); have n4_ := Aside0.mk ((by rw [hg]; exact (below_size y14_) : w.heap.size ≤ gb409)); clear HO_3; clear HB; have HO_3 := n0_; have HB := n1_; have BK409 := n2_; have GW409 := n3_; have GE409 := n4_; clear n0_ n1_ n2_ n3_ n4_; clear hb hbox hg; have hcz23_0 : w22.cell? ⟨gb409, 0, none⟩ = some (.int .i64 0) := (blk_cell BK409.out 0).trans rfl; have hcz23_1 : w22.cell? ⟨gb409, 1, none⟩ = some (.int .i64 0) := (blk_cell BK409.out 1).trans rfl; have hcz23_2 : w22.cell? ⟨gb409, 2, none⟩ = some (.string (⟨#[]⟩ : ByteArray)) := (blk_cell BK409.out 2).trans rfl; have hcz23_3 : w22.cell? ⟨gb409, 3, none⟩ = some (.string (⟨#[]⟩ : ByteArray)) := (blk_cell BK409.out 3).trans rfl; have hcz23_4 : w22.cell? ⟨gb409, 4, none⟩ = some (.slice none 0 0) := (blk_cell BK409.out 4).trans rfl; have hfz23_0 := blk_frozen BK409.out 0; have hfz23_1 := blk_frozen BK409.out 1; have hfz23_2 := blk_frozen BK409.out 2; have hfz23_3 := blk_frozen BK409.out 3; have hfz23_4 := blk_frozen BK409.out 4) | ((with_reducible refine gate_store (t := 35) (p := 5) rfl ?_); refine store_event (t := 35) (p := 5) (v := ?vo_w24) (w1 := (((((w22.setCell ⟨gb409, 0, none⟩ (.int .i64 ((rd_T35 l0 x18_2).f0))).setCell ⟨gb409, 1, none⟩ (.int .i64 ((rd_T35 l0 x18_2).f1))).setCell ⟨gb409, 2, none⟩ (.string ((rd_T35 l0 x18_2).f2))).setCell ⟨gb409, 3, none⟩ (.string ((rd_T35 l0 x18_2).f3))).setCell ⟨gb409, 4, none⟩ (.slice A408_4 ((rd_T35 l0 x18_2).f4).length c408_4))) ?hg ?ho ?hn ?hr ?_; (case ho => rfl); (case hg => rfl); (case hn => rfl); (case hr => first | (go_simp; done) | (go_simp; rfl)); intro w24 hw; have n0_ : Aside0 (Kd.R Kd.string 9 w24 w.heap.size (fun _ => True) u3 x3_2) := ⟨(by rw [hw]; exact (by (with_reducible repeat (first | apply Kd.R_alloc | apply Kd.R_drewN | apply Kd.R_drew)); exact Kd.R_mono (Kd.R_far (p := ⟨gb409, 4, none⟩) (Kd.R_far (p := ⟨gb409, 3, none⟩) (Kd.R_far (p := ⟨gb409, 2, none⟩) (Kd.R_far (p := ⟨gb409, 1, none⟩) (Kd.R_far (p := ⟨gb409, 0, none⟩) (Kd.R_types HO_3.out BK409.out (by decide)) (fun _ hk => hk.2) (.int .i64 ((rd_T35 l0 x18_2).f0))) (fun _ hk => hk.2) (.int .i64 ((rd_T35 l0 x18_2).f1))) (fun _ hk => hk.2) (.string ((rd_T35 l0 x18_2).f2))) (fun _ hk => hk.2) (.string ((rd_T35 l0 x18_2).f3))) (fun _ hk => hk.2) (.slice A408_4 ((rd_T35 l0 x18_2).f4).length c408_4)) (fun _ hk => trivial)))⟩; have n1_ : Aside0 (w24.heap[gb409]? = some (.cells #[.int .i64 ((rd_T35 l0 x18_2).f0), .int .i64 ((rd_T35 l0 x18_2).f1), .string ((rd_T35 l0 x18_2).f2), .string ((rd_T35 l0 x18_2).f3), .slice A408_4 ((rd_T35 l0 x18_2).f4).length c408_4] 35 (0, 0))) := ⟨(by rw [hw]; exact (y33_ BK409.out))⟩; have n2_ : Aside0 (Below w.heap.size w w24) := ⟨(by rw [hw]; exact (y19_ GE409.out))⟩; clear hw; clear HO_3; clear BK409; clear HB; have HO_3 := n0_; have BK409 := n1_; have HB := n2_; clear n0_ n1_ n2_; obtain ⟨Ao25, co25, eo25⟩ := Kd.R_slice HO_3.out; subst eo25; have hcz26_0 : w24.cell? ⟨gb409, 0, none⟩ = some (.int .i64 ((rd_T35 l0 x18_2).f0)) := (blk_cell BK409.out 0).trans rfl; have hcz26_1 : w24.cell? ⟨gb409, 1, none⟩ = some (.int .i64 ((rd_T35 l0 x18_2).f1)) := (blk_cell BK409.out 1).trans rfl; have hcz26_2 : w24.cell? ⟨gb409, 2, none⟩ = some (.string ((rd_T35 l0 x18_2).f2)) := (blk_cell BK409.out 2).trans rfl; have hcz26_3 : w24.cell? ⟨gb409, 3, none⟩ = some (.string ((rd_T35 l0 x18_2).f3)) := (blk_cell BK409.out 3).trans rfl; have hcz26_4 : w24.cell? ⟨gb409, 4, none⟩ = some (.slice A408_4 ((rd_T35 l0 x18_2).f4).length c408_4) := (blk_cell BK409.out 4).trans rfl; have hfz26_0 := blk_frozen BK409.out 0; have hfz26_1 := blk_frozen BK409.out 1; have hfz26_2 := blk_frozen BK409.out 2; have hfz26_3 := blk_frozen BK409.out 3; have hfz26_4 := blk_frozen BK409.out 4; have q27 : ((ji16) : Int) ≤ ((x3_2.length : Int) : Int) := of_decide_eq_true y2_; obtain ⟨i027, hi027, _, hsz27, _⟩ := info_parts info9; have hcut27 := cut_to (P := Tryd.prog) 43 9 .i64 Tryd.underlying43 hi027 Ao25 x3_2.length co25 (ji16) (of_decide_eq_true y2_) q27 (Kd.R_reads' HO_3.out).2.1; have hr27 := Kd.R_take (m := ((ji16) : Int).toNat) HO_3.out (by omega); have hy27 : y410.length = ((ji16) : Int).toNat := (y0_ Ny410.out); rw [← Ny410.out] at hr27; rw [← hy27] at hr27 hcut27; clear hy27 hi027 hsz27 HO_3; have HO412 := Aside0.mk hr27; clear hr27; replace q27 := eq_true q27) | ((with_reducible refine gate_callee (f := 30) rfl ?_); refine goesL_ (some 51) rfl rfl Tryd.func30 (by kernel_rfl) rfl #[.string ((rd_T35 l0 x18_2).f3)] rfl y15_ ?_; (with_reducible refine (write_clean.calls ((rd_T35 l0 x18_2).f3) true _ A20.out).mono ?_); rintro e w28 ⟨rfl, hb⟩; refine ⟨_, rfl, ?_⟩; have n0_ := Aside0.mk (Kd.R_below (y8_ HO412.out) hb); have n1_ := Aside0.mk (blk_below (g := gb409) (o := .cells #[.int .i64 ((rd_T35 l0 x18_2).f0), .int .i64 ((rd_T35 l0 x18_2).f1), .string ((rd_T35 l0 x18_2).f2), .string ((rd_T35 l0 x18_2).f3), .slice A408_4 ((rd_T35 l0 x18_2).f4).length c408_4] 35 (0, 0)) (y12_ BK409.out) hb); have n2_ := Aside0.mk (below_step (y19_ GE409.out) hb); clear HO412; clear BK409; clear HB; have HO412 := n0_; have BK409 := n1_; have HB := n2_; clear n0_ n1_ n2_; (try clear hb); (try clear hb2); (try clear hk); (try clear hi)))
         go_roundg k2
         case measure => have := HJ1.out; have := HK2.out; omega
         case rel => exact ⟨(y410), (wrap64 (x18_2 + 1)), y5_, H', ⟨by have := HJ1.out; have := HK2.out; omega⟩, ⟨by (with_reducible repeat (first | apply Kd.R_alloc | apply Kd.R_drewN | apply Kd.R_drew)); exact HO412.out⟩, ⟨(y19_ GE409.out)⟩⟩
        ·replace c21 := Bool.eq_false_iff.mpr c21
         subst c21
         rw [if_neg (show ¬ (false = true) by decide)] at H
         obtain rfl := Option.some.inj H
         have p408 : 0 ≤ (x18_2 : Int) := of_decide_eq_true y2_
         have q408 : x18_2 < (l0.length : Int) := of_decide_eq_true y2_
         obtain ⟨ad408, A408_4, c408_4, e408, hx408_0, hx408_1, hx408_2, hx408_3, hx408_4, hl408_4, hi408_4⟩ := at_T35 HR0.out x18_2 p408 q408
         cases e408
         replace hx408_0 := (HB.out.cell (World.block_lt_of_cell? w _ hx408_0)).trans hx408_0
         replace hx408_1 := (HB.out.cell (World.block_lt_of_cell? w _ hx408_1)).trans hx408_1
         replace hx408_2 := (HB.out.cell (World.block_lt_of_cell? w _ hx408_2)).trans hx408_2
         replace hx408_3 := (HB.out.cell (World.block_lt_of_cell? w _ hx408_3)).trans hx408_3
         replace hx408_4 := (HB.out.cell (World.block_lt_of_cell? w _ hx408_4)).trans hx408_4
         have HR408_4 := Aside0.mk hi408_4
         have HC408_4 := Aside0.mk hl408_4
         clear hi408_4 hl408_4
         replace p408 := eq_true p408
         replace q408 := eq_true q408
         go_wp2_with (first | ((with_reducible refine gate_dst (N := 5) rfl ?_); refine box_event ?hg (N := 5) ?hd (cs := #[.int .i64 0, .int .i64 0, .string (⟨#[]⟩ : ByteArray), .string (⟨#[]⟩ : ByteArray), .slice none 0 0]) (t := 35) ?hr ?_; (case hd => rfl); (case hg => rfl); (case hr => first | (go_simp; done) | (go_simp; rfl)); intro gb409 hg w29 hbox hb; have n0_ := Aside0.mk (Kd.R_below (y8_ HO_3.out) hb); have n1_ := Aside0.mk (below_step y14_ hb); have n2_ := Aside0.mk (hbox); have n3_ := Aside0.mk ((by rw [hg]; exact (below_size y14_) : w.heap.size ≤ gb409)); have n4_ := Aside0.mk ((by rw [hg]; exact (below_size y14_) : w.heap.size ≤ gb409)); clear HO_3; clear HB; have HO_3 := n0_; have HB := n1_; have BK409 := n2_; have GW409 := n3_; have GE409 := n4_; clear n0_ n1_ n2_ n3_ n4_; clear hb hbox hg; have hcz30_0 : w29.cell? ⟨gb409, 0, none⟩ = some (.int .i64 0) := (blk_cell BK409.out 0).trans rfl; have hcz30_1 : w29.cell? ⟨gb409, 1, none⟩ = some (.int .i64 0) := (blk_cell BK409.out 1).trans rfl; have hcz30_2 : w29.cell? ⟨gb409, 2, none⟩ = some (.string (⟨#[]⟩ : ByteArray)) := (blk_cell BK409.out 2).trans rfl; have hcz30_3 : w29.cell? ⟨gb409, 3, none⟩ = some (.string (⟨#[]⟩ : ByteArray)) := (blk_cell BK409.out 3).trans rfl; have hcz30_4 : w29.cell? ⟨gb409, 4, none⟩ = some (.slice none 0 0) := (blk_cell BK409.out 4).trans rfl; have hfz30_0 := blk_frozen BK409.out 0; have hfz30_1 := blk_frozen BK409.out 1; have hfz30_2 := blk_frozen BK409.out 2; have hfz30_3 := blk_frozen BK409.out 3; have hfz30_4 := blk_frozen BK409.out 4) | ((with_reducible refine gate_store (t := 35) (p := 5) rfl ?_); refine store_event (t := 35) (p := 5) (v := ?vo_w31) (w1 := (((((w29.setCell ⟨gb409, 0, none⟩ (.int .i64 ((rd_T35 l0 x18_2).f0))).setCell ⟨gb409, 1, none⟩ (.int .i64 ((rd_T35 l0 x18_2).f1))).setCell ⟨gb409, 2, none⟩ (.string ((rd_T35 l0 x18_2).f2))).setCell ⟨gb409, 3, none⟩ (.string ((rd_T35 l0 x18_2).f3))).setCell ⟨gb409, 4, none⟩ (.slice A408_4 ((rd_T35 l0 x18_2).f4).length c408_4))) ?hg ?ho ?hn ?hr ?_; (case ho => rfl); (case hg => rfl); (case hn => rfl); (case hr => first | (go_simp; done) | (go_simp; rfl)); intro w31 hw; have n0_ : Aside0 (Kd.R Kd.string 9 w31 w.heap.size (fun _ => True) u3 x3_2) := ⟨(by rw [hw]; exact (by (with_reducible repeat (first | apply Kd.R_alloc | apply Kd.R_drewN | apply Kd.R_drew)); exact Kd.R_mono (Kd.R_far (p := ⟨gb409, 4, none⟩) (Kd.R_far (p := ⟨gb409, 3, none⟩) (Kd.R_far (p := ⟨gb409, 2, none⟩) (Kd.R_far (p := ⟨gb409, 1, none⟩) (Kd.R_far (p := ⟨gb409, 0, none⟩) (Kd.R_types HO_3.out BK409.out (by decide)) (fun _ hk => hk.2) (.int .i64 ((rd_T35 l0 x18_2).f0))) (fun _ hk => hk.2) (.int .i64 ((rd_T35 l0 x18_2).f1))) (fun _ hk => hk.2) (.string ((rd_T35 l0 x18_2).f2))) (fun _ hk => hk.2) (.string ((rd_T35 l0 x18_2).f3))) (fun _ hk => hk.2) (.slice A408_4 ((rd_T35 l0 x18_2).f4).length c408_4)) (fun _ hk => trivial)))⟩; have n1_ : Aside0 (w31.heap[gb409]? = some (.cells #[.int .i64 ((rd_T35 l0 x18_2).f0), .int .i64 ((rd_T35 l0 x18_2).f1), .string ((rd_T35 l0 x18_2).f2), .string ((rd_T35 l0 x18_2).f3), .slice A408_4 ((rd_T35 l0 x18_2).f4).length c408_4] 35 (0, 0))) := ⟨(by rw [hw]; exact (y33_ BK409.out))⟩; have n2_ : Aside0 (Below w.heap.size w w31) := ⟨(by rw [hw]; exact (y19_ GE409.out))⟩; clear hw; clear HO_3; clear BK409; clear HB; have HO_3 := n0_; have BK409 := n1_; have HB := n2_; clear n0_ n1_ n2_; obtain ⟨Ao32, co32, eo32⟩ := Kd.R_slice HO_3.out; subst eo32; have hcz33_0 : w31.cell? ⟨gb409, 0, none⟩ = some (.int .i64 ((rd_T35 l0 x18_2).f0)) := (blk_cell BK409.out 0).trans rfl; have hcz33_1 : w31.cell? ⟨gb409, 1, none⟩ = some (.int .i64 ((rd_T35 l0 x18_2).f1)) := (blk_cell BK409.out 1).trans rfl; have hcz33_2 : w31.cell? ⟨gb409, 2, none⟩ = some (.string ((rd_T35 l0 x18_2).f2)) := (blk_cell BK409.out 2).trans rfl; have hcz33_3 : w31.cell? ⟨gb409, 3, none⟩ = some (.string ((rd_T35 l0 x18_2).f3)) := (blk_cell BK409.out 3).trans rfl; have hcz33_4 : w31.cell? ⟨gb409, 4, none⟩ = some (.slice A408_4 ((rd_T35 l0 x18_2).f4).length c408_4) := (blk_cell BK409.out 4).trans rfl; have hfz33_0 := blk_frozen BK409.out 0; have hfz33_1 := blk_frozen BK409.out 1; have hfz33_2 := blk_frozen BK409.out 2; have hfz33_3 := blk_frozen BK409.out 3; have hfz33_4 := blk_frozen BK409.out 4; have q34 : ((ji16) : Int) ≤ ((x3_2.length : Int) : Int) := of_decide_eq_true y2_; obtain ⟨i034, hi034, _, hsz34, _⟩ := info_parts info9; have hcut34 := cut_to (P := Tryd.prog) 43 9 .i64 Tryd.underlying43 hi034 Ao32 x3_2.length co32 (ji16) (of_decide_eq_true y2_) q34 (Kd.R_reads' HO_3.out).2.1; have hr34 := Kd.R_take (m := ((ji16) : Int).toNat) HO_3.out (by omega); have hy34 : y410.length = ((ji16) : Int).toNat := (y0_ Ny410.out); rw [← Ny410.out] at hr34; rw [← hy34] at hr34 hcut34; clear hy34 hi034 hsz34 HO_3; have HO412 := Aside0.mk hr34; clear hr34; replace q34 := eq_true q34) | ((with_reducible refine gate_callee (f := 30) rfl ?_); refine goesL_ (some 51) rfl rfl Tryd.func30 (by kernel_rfl) rfl #[.string ((rd_T35 l0 x18_2).f3)] rfl y15_ ?_; (with_reducible refine (write_clean.calls ((rd_T35 l0 x18_2).f3) false _ A20.out).mono ?_); rintro e w35 ⟨rfl, hb⟩; refine ⟨_, rfl, ?_⟩; have n0_ := Aside0.mk (Kd.R_below (y8_ HO412.out) hb); have n1_ := Aside0.mk (blk_below (g := gb409) (o := .cells #[.int .i64 ((rd_T35 l0 x18_2).f0), .int .i64 ((rd_T35 l0 x18_2).f1), .string ((rd_T35 l0 x18_2).f2), .string ((rd_T35 l0 x18_2).f3), .slice A408_4 ((rd_T35 l0 x18_2).f4).length c408_4] 35 (0, 0)) (y12_ BK409.out) hb); have n2_ := Aside0.mk (below_step (y19_ GE409.out) hb); clear HO412; clear BK409; clear HB; have HO412 := n0_; have BK409 := n1_; have HB := n2_; clear n0_ n1_ n2_; (try clear hb); (try clear hb2); (try clear hk); (try clear hi)))
         go_ret
         exact ⟨y23_, (y19_ GE409.out)⟩
       ·rw [if_neg c19] at H
        have c19b0 : (((rd_T35 l0 x18_2).f1) == 1) = false := beq_eq_false_iff_ne.mpr c19
        have c19b1 : (((rd_T35 l0 x18_2).f1) != 1) = true := bne_iff_ne.mpr c19
        by_cases c36 : ((rd_T35 l0 x18_2).f1) = 2
        ·rw [if_pos c36] at H
         have c36b0 : (((rd_T35 l0 x18_2).f1) == 2) = true := beq_iff_eq.mpr c36
         have c36b1 : (((rd_T35 l0 x18_2).f1) != 2) = false := bne_eq_false_iff_eq.mpr c36
         clear c36
         replace H := Option.bind_eq_some_iff.mp H
         obtain ⟨t414, A370, H⟩ := H
         have A37 := Aside0.mk A370
         clear A370
         by_cases c38 : t414 = true
         ·subst c38
          rw [if_pos rfl] at H
          have H' := Aside0.mk H
          clear H
          have p408 : 0 ≤ (x18_2 : Int) := of_decide_eq_true y2_
          have q408 : x18_2 < (l0.length : Int) := of_decide_eq_true y2_
          obtain ⟨ad408, A408_4, c408_4, e408, hx408_0, hx408_1, hx408_2, hx408_3, hx408_4, hl408_4, hi408_4⟩ := at_T35 HR0.out x18_2 p408 q408
          cases e408
          replace hx408_0 := (HB.out.cell (World.block_lt_of_cell? w _ hx408_0)).trans hx408_0
          replace hx408_1 := (HB.out.cell (World.block_lt_of_cell? w _ hx408_1)).trans hx408_1
          replace hx408_2 := (HB.out.cell (World.block_lt_of_cell? w _ hx408_2)).trans hx408_2
          replace hx408_3 := (HB.out.cell (World.block_lt_of_cell? w _ hx408_3)).trans hx408_3
          replace hx408_4 := (HB.out.cell (World.block_lt_of_cell? w _ hx408_4)).trans hx408_4
          have HR408_4 := Aside0.mk hi408_4
          have HC408_4 := Aside0.mk hl408_4
          clear hi408_4 hl408_4
          replace p408 := eq_true p408
          replace q408 := eq_true q408
          go_wp2_with (first | ((with_reducible refine gate_dst (N := 5) rfl ?_); refine box_event ?hg (N := 5) ?hd (cs := #[.int .i64 0, .int .i64 0, .string (⟨#[]⟩ : ByteArray), .string (⟨#[]⟩ : ByteArray), .slice none 0 0]) (t := 35) ?hr ?_; (case hd => rfl); (case hg => rfl); (case hr => first | (go_simp; done) | (go_simp; rfl)); intro gb409 hg w39 hbox hb; have n0_ := Aside0.mk (Kd.R_below (y8_ HO_3.out) hb); have n1_ := Aside0.mk (below_step y14_ hb); have n2_ := Aside0.mk (hbox); have n3_ := Aside0.mk ((by rw [hg]; exact (below_size y14_) : w.heap.size ≤ gb409)); have n4_ := Aside0.mk ((by rw [hg]; exact (below_size y14_) : w.heap.size ≤ gb409)); clear HO_3; clear HB; have HO_3 := n0_; have HB := n1_; have BK409 := n2_; have GW409 := n3_; have GE409 := n4_; clear n0_ n1_ n2_ n3_ n4_; clear hb hbox hg; have hcz40_0 : w39.cell? ⟨gb409, 0, none⟩ = some (.int .i64 0) := (blk_cell BK409.out 0).trans rfl; have hcz40_1 : w39.cell? ⟨gb409, 1, none⟩ = some (.int .i64 0) := (blk_cell BK409.out 1).trans rfl; have hcz40_2 : w39.cell? ⟨gb409, 2, none⟩ = some (.string (⟨#[]⟩ : ByteArray)) := (blk_cell BK409.out 2).trans rfl; have hcz40_3 : w39.cell? ⟨gb409, 3, none⟩ = some (.string (⟨#[]⟩ : ByteArray)) := (blk_cell BK409.out 3).trans rfl; have hcz40_4 : w39.cell? ⟨gb409, 4, none⟩ = some (.slice none 0 0) := (blk_cell BK409.out 4).trans rfl; have hfz40_0 := blk_frozen BK409.out 0; have hfz40_1 := blk_frozen BK409.out 1; have hfz40_2 := blk_frozen BK409.out 2; have hfz40_3 := blk_frozen BK409.out 3; have hfz40_4 := blk_frozen BK409.out 4) | ((with_reducible refine gate_store (t := 35) (p := 5) rfl ?_); refine store_event (t := 35) (p := 5) (v := ?vo_w41) (w1 := (((((w39.setCell ⟨gb409, 0, none⟩ (.int .i64 ((rd_T35 l0 x18_2).f0))).setCell ⟨gb409, 1, none⟩ (.int .i64 ((rd_T35 l0 x18_2).f1))).setCell ⟨gb409, 2, none⟩ (.string ((rd_T35 l0 x18_2).f2))).setCell ⟨gb409, 3, none⟩ (.string ((rd_T35 l0 x18_2).f3))).setCell ⟨gb409, 4, none⟩ (.slice A408_4 ((rd_T35 l0 x18_2).f4).length c408_4))) ?hg ?ho ?hn ?hr ?_; (case ho => rfl); (case hg => rfl); (case hn => rfl); (case hr => first | (go_simp; done) | (go_simp; rfl)); intro w41 hw; have n0_ : Aside0 (Kd.R Kd.string 9 w41 w.heap.size (fun _ => True) u3 x3_2) := ⟨(by rw [hw]; exact (by (with_reducible repeat (first | apply Kd.R_alloc | apply Kd.R_drewN | apply Kd.R_drew)); exact Kd.R_mono (Kd.R_far (p := ⟨gb409, 4, none⟩) (Kd.R_far (p := ⟨gb409, 3, none⟩) (Kd.R_far (p := ⟨gb409, 2, none⟩) (Kd.R_far (p := ⟨gb409, 1, none⟩) (Kd.R_far (p := ⟨gb409, 0, none⟩) (Kd.R_types HO_3.out BK409.out (by decide)) (fun _ hk => hk.2) (.int .i64 ((rd_T35 l0 x18_2).f0))) (fun _ hk => hk.2) (.int .i64 ((rd_T35 l0 x18_2).f1))) (fun _ hk => hk.2) (.string ((rd_T35 l0 x18_2).f2))) (fun _ hk => hk.2) (.string ((rd_T35 l0 x18_2).f3))) (fun _ hk => hk.2) (.slice A408_4 ((rd_T35 l0 x18_2).f4).length c408_4)) (fun _ hk => trivial)))⟩; have n1_ : Aside0 (w41.heap[gb409]? = some (.cells #[.int .i64 ((rd_T35 l0 x18_2).f0), .int .i64 ((rd_T35 l0 x18_2).f1), .string ((rd_T35 l0 x18_2).f2), .string ((rd_T35 l0 x18_2).f3), .slice A408_4 ((rd_T35 l0 x18_2).f4).length c408_4] 35 (0, 0))) := ⟨(by rw [hw]; exact (y33_ BK409.out))⟩; have n2_ : Aside0 (Below w.heap.size w w41) := ⟨(by rw [hw]; exact (y19_ GE409.out))⟩; clear hw; clear HO_3; clear BK409; clear HB; have HO_3 := n0_; have BK409 := n1_; have HB := n2_; clear n0_ n1_ n2_; obtain ⟨Ao42, co42, eo42⟩ := Kd.R_slice HO_3.out; subst eo42; have hcz43_0 : w41.cell? ⟨gb409, 0, none⟩ = some (.int .i64 ((rd_T35 l0 x18_2).f0)) := (blk_cell BK409.out 0).trans rfl; have hcz43_1 : w41.cell? ⟨gb409, 1, none⟩ = some (.int .i64 ((rd_T35 l0 x18_2).f1)) := (blk_cell BK409.out 1).trans rfl; have hcz43_2 : w41.cell? ⟨gb409, 2, none⟩ = some (.string ((rd_T35 l0 x18_2).f2)) := (blk_cell BK409.out 2).trans rfl; have hcz43_3 : w41.cell? ⟨gb409, 3, none⟩ = some (.string ((rd_T35 l0 x18_2).f3)) := (blk_cell BK409.out 3).trans rfl; have hcz43_4 : w41.cell? ⟨gb409, 4, none⟩ = some (.slice A408_4 ((rd_T35 l0 x18_2).f4).length c408_4) := (blk_cell BK409.out 4).trans rfl; have hfz43_0 := blk_frozen BK409.out 0; have hfz43_1 := blk_frozen BK409.out 1; have hfz43_2 := blk_frozen BK409.out 2; have hfz43_3 := blk_frozen BK409.out 3; have hfz43_4 := blk_frozen BK409.out 4; have q44 : ((ji16) : Int) ≤ ((x3_2.length : Int) : Int) := of_decide_eq_true y2_; obtain ⟨i044, hi044, _, hsz44, _⟩ := info_parts info9; have hcut44 := cut_to (P := Tryd.prog) 43 9 .i64 Tryd.underlying43 hi044 Ao42 x3_2.length co42 (ji16) (of_decide_eq_true y2_) q44 (Kd.R_reads' HO_3.out).2.1; have hr44 := Kd.R_take (m := ((ji16) : Int).toNat) HO_3.out (by omega); have hy44 : y410.length = ((ji16) : Int).toNat := (y0_ Ny410.out); rw [← Ny410.out] at hr44; rw [← hy44] at hr44 hcut44; clear hy44 hi044 hsz44 HO_3; have HO412 := Aside0.mk hr44; clear hr44; replace q44 := eq_true q44) | ((with_reducible refine gate_callee (f := 31) rfl ?_); refine goesL_ (some 57) rfl rfl Tryd.func31 (by kernel_rfl) rfl #[.string ((rd_T35 l0 x18_2).f3)] rfl y15_ ?_; (with_reducible refine (write_comment.calls ((rd_T35 l0 x18_2).f3) true _ A37.out).mono ?_); rintro e w45 ⟨rfl, hb⟩; refine ⟨_, rfl, ?_⟩; have n0_ := Aside0.mk (Kd.R_below (y8_ HO412.out) hb); have n1_ := Aside0.mk (blk_below (g := gb409) (o := .cells #[.int .i64 ((rd_T35 l0 x18_2).f0), .int .i64 ((rd_T35 l0 x18_2).f1), .string ((rd_T35 l0 x18_2).f2), .string ((rd_T35 l0 x18_2).f3), .slice A408_4 ((rd_T35 l0 x18_2).f4).length c408_4] 35 (0, 0)) (y12_ BK409.out) hb); have n2_ := Aside0.mk (below_step (y19_ GE409.out) hb); clear HO412; clear BK409; clear HB; have HO412 := n0_; have BK409 := n1_; have HB := n2_; clear n0_ n1_ n2_; (try clear hb); (try clear hb2); (try clear hk); (try clear hi)))
          go_roundg k2
          case measure => have := HJ1.out; have := HK2.out; omega
          case rel => exact ⟨(y410), (wrap64 (x18_2 + 1)), y5_, H', ⟨by have := HJ1.out; have := HK2.out; omega⟩, ⟨by (with_reducible repeat (first | apply Kd.R_alloc | apply Kd.R_drewN | apply Kd.R_drew)); exact HO412.out⟩, ⟨(y19_ GE409.out)⟩⟩
         ·replace c38 := Bool.eq_false_iff.mpr c38
          subst c38
          rw [if_neg (show ¬ (false = true) by decide)] at H
          obtain rfl := Option.some.inj H
          have p408 : 0 ≤ (x18_2 : Int) := of_decide_eq_true y2_
          have q408 : x18_2 < (l0.length : Int) := of_decide_eq_true y2_
          obtain ⟨ad408, A408_4, c408_4, e408, hx408_0, hx408_1, hx408_2, hx408_3, hx408_4, hl408_4, hi408_4⟩ := at_T35 HR0.out x18_2 p408 q408
          cases e408
          replace hx408_0 := (HB.out.cell (World.block_lt_of_cell? w _ hx408_0)).trans hx408_0
          replace hx408_1 := (HB.out.cell (World.block_lt_of_cell? w _ hx408_1)).trans hx408_1
          replace hx408_2 := (HB.out.cell (World.block_lt_of_cell? w _ hx408_2)).trans hx408_2
          replace hx408_3 := (HB.out.cell (World.block_lt_of_cell? w _ hx408_3)).trans hx408_3
          replace hx408_4 := (HB.out.cell (World.block_lt_of_cell? w _ hx408_4)).trans hx408_4
          have HR408_4 := Aside0.mk hi408_4
          have HC408_4 := Aside0.mk hl408_4
          clear hi408_4 hl408_4
          replace p408 := eq_true p408
          replace q408 := eq_true q408
          go_wp2_with (first | ((with_reducible refine gate_dst (N := 5) rfl ?_); refine box_event ?hg (N := 5) ?hd (cs := #[.int .i64 0, .int .i64 0, .string (⟨#[]⟩ : ByteArray), .string (⟨#[]⟩ : ByteArray), .slice none 0 0]) (t := 35) ?hr ?_; (case hd => rfl); (case hg => rfl); (case hr => first | (go_simp; done) | (go_simp; rfl)); intro gb409 hg w46 hbox hb; have n0_ := Aside0.mk (Kd.R_below (y8_ HO_3.out) hb); have n1_ := Aside0.mk (below_step y14_ hb); have n2_ := Aside0.mk (hbox); have n3_ := Aside0.mk ((by rw [hg]; exact (below_size y14_) : w.heap.size ≤ gb409)); have n4_ := Aside0.mk ((by rw [hg]; exact (below_size y14_) : w.heap.size ≤ gb409)); clear HO_3; clear HB; have HO_3 := n0_; have HB := n1_; have BK409 := n2_; have GW409 := n3_; have GE409 := n4_; clear n0_ n1_ n2_ n3_ n4_; clear hb hbox hg; have hcz47_0 : w46.cell? ⟨gb409, 0, none⟩ = some (.int .i64 0) := (blk_cell BK409.out 0).trans rfl; have hcz47_1 : w46.cell? ⟨gb409, 1, none⟩ = some (.int .i64 0) := (blk_cell BK409.out 1).trans rfl; have hcz47_2 : w46.cell? ⟨gb409, 2, none⟩ = some (.string (⟨#[]⟩ : ByteArray)) := (blk_cell BK409.out 2).trans rfl; have hcz47_3 : w46.cell? ⟨gb409, 3, none⟩ = some (.string (⟨#[]⟩ : ByteArray)) := (blk_cell BK409.out 3).trans rfl; have hcz47_4 : w46.cell? ⟨gb409, 4, none⟩ = some (.slice none 0 0) := (blk_cell BK409.out 4).trans rfl; have hfz47_0 := blk_frozen BK409.out 0; have hfz47_1 := blk_frozen BK409.out 1; have hfz47_2 := blk_frozen BK409.out 2; have hfz47_3 := blk_frozen BK409.out 3; have hfz47_4 := blk_frozen BK409.out 4) | ((with_reducible refine gate_store (t := 35) (p := 5) rfl ?_); refine store_event (t := 35) (p := 5) (v := ?vo_w48) (w1 := (((((w46.setCell ⟨gb409, 0, none⟩ (.int .i64 ((rd_T35 l0 x18_2).f0))).setCell ⟨gb409, 1, none⟩ (.int .i64 ((rd_T35 l0 x18_2).f1))).setCell ⟨gb409, 2, none⟩ (.string ((rd_T35 l0 x18_2).f2))).setCell ⟨gb409, 3, none⟩ (.string ((rd_T35 l0 x18_2).f3))).setCell ⟨gb409, 4, none⟩ (.slice A408_4 ((rd_T35 l0 x18_2).f4).length c408_4))) ?hg ?ho ?hn ?hr ?_; (case ho => rfl); (case hg => rfl); (case hn => rfl); (case hr => first | (go_simp; done) | (go_simp; rfl)); intro w48 hw; have n0_ : Aside0 (Kd.R Kd.string 9 w48 w.heap.size (fun _ => True) u3 x3_2) := ⟨(by rw [hw]; exact (by (with_reducible repeat (first | apply Kd.R_alloc | apply Kd.R_drewN | apply Kd.R_drew)); exact Kd.R_mono (Kd.R_far (p := ⟨gb409, 4, none⟩) (Kd.R_far (p := ⟨gb409, 3, none⟩) (Kd.R_far (p := ⟨gb409, 2, none⟩) (Kd.R_far (p := ⟨gb409, 1, none⟩) (Kd.R_far (p := ⟨gb409, 0, none⟩) (Kd.R_types HO_3.out BK409.out (by decide)) (fun _ hk => hk.2) (.int .i64 ((rd_T35 l0 x18_2).f0))) (fun _ hk => hk.2) (.int .i64 ((rd_T35 l0 x18_2).f1))) (fun _ hk => hk.2) (.string ((rd_T35 l0 x18_2).f2))) (fun _ hk => hk.2) (.string ((rd_T35 l0 x18_2).f3))) (fun _ hk => hk.2) (.slice A408_4 ((rd_T35 l0 x18_2).f4).length c408_4)) (fun _ hk => trivial)))⟩; have n1_ : Aside0 (w48.heap[gb409]? = some (.cells #[.int .i64 ((rd_T35 l0 x18_2).f0), .int .i64 ((rd_T35 l0 x18_2).f1), .string ((rd_T35 l0 x18_2).f2), .string ((rd_T35 l0 x18_2).f3), .slice A408_4 ((rd_T35 l0 x18_2).f4).length c408_4] 35 (0, 0))) := ⟨(by rw [hw]; exact (y33_ BK409.out))⟩; have n2_ : Aside0 (Below w.heap.size w w48) := ⟨(by rw [hw]; exact (y19_ GE409.out))⟩; clear hw; clear HO_3; clear BK409; clear HB; have HO_3 := n0_; have BK409 := n1_; have HB := n2_; clear n0_ n1_ n2_; obtain ⟨Ao49, co49, eo49⟩ := Kd.R_slice HO_3.out; subst eo49; have hcz50_0 : w48.cell? ⟨gb409, 0, none⟩ = some (.int .i64 ((rd_T35 l0 x18_2).f0)) := (blk_cell BK409.out 0).trans rfl; have hcz50_1 : w48.cell? ⟨gb409, 1, none⟩ = some (.int .i64 ((rd_T35 l0 x18_2).f1)) := (blk_cell BK409.out 1).trans rfl; have hcz50_2 : w48.cell? ⟨gb409, 2, none⟩ = some (.string ((rd_T35 l0 x18_2).f2)) := (blk_cell BK409.out 2).trans rfl; have hcz50_3 : w48.cell? ⟨gb409, 3, none⟩ = some (.string ((rd_T35 l0 x18_2).f3)) := (blk_cell BK409.out 3).trans rfl; have hcz50_4 : w48.cell? ⟨gb409, 4, none⟩ = some (.slice A408_4 ((rd_T35 l0 x18_2).f4).length c408_4) := (blk_cell BK409.out 4).trans rfl; have hfz50_0 := blk_frozen BK409.out 0; have hfz50_1 := blk_frozen BK409.out 1; have hfz50_2 := blk_frozen BK409.out 2; have hfz50_3 := blk_frozen BK409.out 3; have hfz50_4 := blk_frozen BK409.out 4; have q51 : ((ji16) : Int) ≤ ((x3_2.length : Int) : Int) := of_decide_eq_true y2_; obtain ⟨i051, hi051, _, hsz51, _⟩ := info_parts info9; have hcut51 := cut_to (P := Tryd.prog) 43 9 .i64 Tryd.underlying43 hi051 Ao49 x3_2.length co49 (ji16) (of_decide_eq_true y2_) q51 (Kd.R_reads' HO_3.out).2.1; have hr51 := Kd.R_take (m := ((ji16) : Int).toNat) HO_3.out (by omega); have hy51 : y410.length = ((ji16) : Int).toNat := (y0_ Ny410.out); rw [← Ny410.out] at hr51; rw [← hy51] at hr51 hcut51; clear hy51 hi051 hsz51 HO_3; have HO412 := Aside0.mk hr51; clear hr51; replace q51 := eq_true q51) | ((with_reducible refine gate_callee (f := 31) rfl ?_); refine goesL_ (some 57) rfl rfl Tryd.func31 (by kernel_rfl) rfl #[.string ((rd_T35 l0 x18_2).f3)] rfl y15_ ?_; (with_reducible refine (write_comment.calls ((rd_T35 l0 x18_2).f3) false _ A37.out).mono ?_); rintro e w52 ⟨rfl, hb⟩; refine ⟨_, rfl, ?_⟩; have n0_ := Aside0.mk (Kd.R_below (y8_ HO412.out) hb); have n1_ := Aside0.mk (blk_below (g := gb409) (o := .cells #[.int .i64 ((rd_T35 l0 x18_2).f0), .int .i64 ((rd_T35 l0 x18_2).f1), .string ((rd_T35 l0 x18_2).f2), .string ((rd_T35 l0 x18_2).f3), .slice A408_4 ((rd_T35 l0 x18_2).f4).length c408_4] 35 (0, 0)) (y12_ BK409.out) hb); have n2_ := Aside0.mk (below_step (y19_ GE409.out) hb); clear HO412; clear BK409; clear HB; have HO412 := n0_; have BK409 := n1_; have HB := n2_; clear n0_ n1_ n2_; (try clear hb); (try clear hb2); (try clear hk); (try clear hi)))
          go_ret
          exact ⟨y23_, (y19_ GE409.out)⟩
        ·rw [if_neg c36] at H
         have c36b0 : (((rd_T35 l0 x18_2).f1) == 2) = false := beq_eq_false_iff_ne.mpr c36
         have c36b1 : (((rd_T35 l0 x18_2).f1) != 2) = true := bne_iff_ne.mpr c36
         replace H := Option.bind_eq_some_iff.mp H
         obtain ⟨t415, A530, H⟩ := H
         have A53 := Aside0.mk A530
         clear A530
         by_cases c54 : t415 = true
         ·subst c54
          rw [if_pos rfl] at H
          replace H := Option.bind_eq_some_iff.mp H
          obtain ⟨t416, A550, H⟩ := H
          have A55 := Aside0.mk A550
          clear A550
          by_cases c56 : t416 = true
          ·subst c56
           rw [if_pos rfl] at H
           by_cases c57 : y410.length < 8796093022208
           rotate_left
           ·rw [if_neg c57] at H
            exact absurd H (by simp)
           rw [if_pos c57] at H
           have LMc57 := Aside0.mk c57
           clear c57
           obtain ⟨y417, hy417⟩ : ∃ y_ : List ByteArray, y_ = (y410 ++ [(rd_T35 l0 x18_2).f2]) := ⟨_, rfl⟩
           replace H : (write_Legal.l0 k2 l0 y417 l0 (l0.length : Int) (wrap64 (x18_2 + 1))) = some r := by first | (rw [hy417]; with_reducible exact H) | (have H2_ := (Option.bind_some _ _).symm.trans H; rw [hy417]; with_reducible exact H2_) | (have H2_ := (Option.bind_some _ _).symm.trans H; with_reducible exact H2_) | with_reducible exact H | (rw [hy417]; exact H) | exact H
           have Ny417 := Aside0.mk hy417
           clear hy417
           have H' := Aside0.mk H
           clear H
           have p408 : 0 ≤ (x18_2 : Int) := of_decide_eq_true y2_
           have q408 : x18_2 < (l0.length : Int) := of_decide_eq_true y2_
           obtain ⟨ad408, A408_4, c408_4, e408, hx408_0, hx408_1, hx408_2, hx408_3, hx408_4, hl408_4, hi408_4⟩ := at_T35 HR0.out x18_2 p408 q408
           cases e408
           replace hx408_0 := (HB.out.cell (World.block_lt_of_cell? w _ hx408_0)).trans hx408_0
           replace hx408_1 := (HB.out.cell (World.block_lt_of_cell? w _ hx408_1)).trans hx408_1
           replace hx408_2 := (HB.out.cell (World.block_lt_of_cell? w _ hx408_2)).trans hx408_2
           replace hx408_3 := (HB.out.cell (World.block_lt_of_cell? w _ hx408_3)).trans hx408_3
           replace hx408_4 := (HB.out.cell (World.block_lt_of_cell? w _ hx408_4)).trans hx408_4
           have HR408_4 := Aside0.mk hi408_4
           have HC408_4 := Aside0.mk hl408_4
           clear hi408_4 hl408_4
           replace p408 := eq_true p408
           replace q408 := eq_true q408
           go_wp2_with (first | ((with_reducible refine gate_dst (N := 5) rfl ?_); refine box_event ?hg (N := 5) ?hd (cs := #[.int .i64 0, .int .i64 0, .string (⟨#[]⟩ : ByteArray), .string (⟨#[]⟩ : ByteArray), .slice none 0 0]) (t := 35) ?hr ?_; (case hd => rfl); (case hg => rfl); (case hr => first | (go_simp; done) | (go_simp; rfl)); intro gb409 hg w58 hbox hb; have n0_ := Aside0.mk (Kd.R_below (y8_ HO_3.out) hb); have n1_ := Aside0.mk (below_step y14_ hb); have n2_ := Aside0.mk (hbox); have n3_ := Aside0.mk ((by rw [hg]; exact (below_size y14_) : w.heap.size ≤ gb409)); have n4_ := Aside0.mk ((by rw [hg]; exact (below_size y14_) : w.heap.size ≤ gb409)); clear HO_3; clear HB; have HO_3 := n0_; have HB := n1_; have BK409 := n2_; have GW409 := n3_; have GE409 := n4_; clear n0_ n1_ n2_ n3_ n4_; clear hb hbox hg; have hcz59_0 : w58.cell? ⟨gb409, 0, none⟩ = some (.int .i64 0) := (blk_cell BK409.out 0).trans rfl; have hcz59_1 : w58.cell? ⟨gb409, 1, none⟩ = some (.int .i64 0) := (blk_cell BK409.out 1).trans rfl; have hcz59_2 : w58.cell? ⟨gb409, 2, none⟩ = some (.string (⟨#[]⟩ : ByteArray)) := (blk_cell BK409.out 2).trans rfl; have hcz59_3 : w58.cell? ⟨gb409, 3, none⟩ = some (.string (⟨#[]⟩ : ByteArray)) := (blk_cell BK409.out 3).trans rfl; have hcz59_4 : w58.cell? ⟨gb409, 4, none⟩ = some (.slice none 0 0) := (blk_cell BK409.out 4).trans rfl; have hfz59_0 := blk_frozen BK409.out 0; have hfz59_1 := blk_frozen BK409.out 1; have hfz59_2 := blk_frozen BK409.out 2; have hfz59_3 := blk_frozen BK409.out 3; have hfz59_4 := blk_frozen BK409.out 4) | ((with_reducible refine gate_store (t := 35) (p := 5) rfl ?_); refine store_event (t := 35) (p := 5) (v := ?vo_w60) (w1 := (((((w58.setCell ⟨gb409, 0, none⟩ (.int .i64 ((rd_T35 l0 x18_2).f0))).setCell ⟨gb409, 1, none⟩ (.int .i64 ((rd_T35 l0 x18_2).f1))).setCell ⟨gb409, 2, none⟩ (.string ((rd_T35 l0 x18_2).f2))).setCell ⟨gb409, 3, none⟩ (.string ((rd_T35 l0 x18_2).f3))).setCell ⟨gb409, 4, none⟩ (.slice A408_4 ((rd_T35 l0 x18_2).f4).length c408_4))) ?hg ?ho ?hn ?hr ?_; (case ho => rfl); (case hg => rfl); (case hn => rfl); (case hr => first | (go_simp; done) | (go_simp; rfl)); intro w60 hw; have n0_ : Aside0 (Kd.R Kd.string 9 w60 w.heap.size (fun _ => True) u3 x3_2) := ⟨(by rw [hw]; exact (by (with_reducible repeat (first | apply Kd.R_alloc | apply Kd.R_drewN | apply Kd.R_drew)); exact Kd.R_mono (Kd.R_far (p := ⟨gb409, 4, none⟩) (Kd.R_far (p := ⟨gb409, 3, none⟩) (Kd.R_far (p := ⟨gb409, 2, none⟩) (Kd.R_far (p := ⟨gb409, 1, none⟩) (Kd.R_far (p := ⟨gb409, 0, none⟩) (Kd.R_types HO_3.out BK409.out (by decide)) (fun _ hk => hk.2) (.int .i64 ((rd_T35 l0 x18_2).f0))) (fun _ hk => hk.2) (.int .i64 ((rd_T35 l0 x18_2).f1))) (fun _ hk => hk.2) (.string ((rd_T35 l0 x18_2).f2))) (fun _ hk => hk.2) (.string ((rd_T35 l0 x18_2).f3))) (fun _ hk => hk.2) (.slice A408_4 ((rd_T35 l0 x18_2).f4).length c408_4)) (fun _ hk => trivial)))⟩; have n1_ : Aside0 (w60.heap[gb409]? = some (.cells #[.int .i64 ((rd_T35 l0 x18_2).f0), .int .i64 ((rd_T35 l0 x18_2).f1), .string ((rd_T35 l0 x18_2).f2), .string ((rd_T35 l0 x18_2).f3), .slice A408_4 ((rd_T35 l0 x18_2).f4).length c408_4] 35 (0, 0))) := ⟨(by rw [hw]; exact (y33_ BK409.out))⟩; have n2_ : Aside0 (Below w.heap.size w w60) := ⟨(by rw [hw]; exact (y19_ GE409.out))⟩; clear hw; clear HO_3; clear BK409; clear HB; have HO_3 := n0_; have BK409 := n1_; have HB := n2_; clear n0_ n1_ n2_; obtain ⟨Ao61, co61, eo61⟩ := Kd.R_slice HO_3.out; subst eo61; have hcz62_0 : w60.cell? ⟨gb409, 0, none⟩ = some (.int .i64 ((rd_T35 l0 x18_2).f0)) := (blk_cell BK409.out 0).trans rfl; have hcz62_1 : w60.cell? ⟨gb409, 1, none⟩ = some (.int .i64 ((rd_T35 l0 x18_2).f1)) := (blk_cell BK409.out 1).trans rfl; have hcz62_2 : w60.cell? ⟨gb409, 2, none⟩ = some (.string ((rd_T35 l0 x18_2).f2)) := (blk_cell BK409.out 2).trans rfl; have hcz62_3 : w60.cell? ⟨gb409, 3, none⟩ = some (.string ((rd_T35 l0 x18_2).f3)) := (blk_cell BK409.out 3).trans rfl; have hcz62_4 : w60.cell? ⟨gb409, 4, none⟩ = some (.slice A408_4 ((rd_T35 l0 x18_2).f4).length c408_4) := (blk_cell BK409.out 4).trans rfl; have hfz62_0 := blk_frozen BK409.out 0; have hfz62_1 := blk_frozen BK409.out 1; have hfz62_2 := blk_frozen BK409.out 2; have hfz62_3 := blk_frozen BK409.out 3; have hfz62_4 := blk_frozen BK409.out 4; have q63 : ((ji16) : Int) ≤ ((x3_2.length : Int) : Int) := of_decide_eq_true y2_; obtain ⟨i063, hi063, _, hsz63, _⟩ := info_parts info9; have hcut63 := cut_to (P := Tryd.prog) 43 9 .i64 Tryd.underlying43 hi063 Ao61 x3_2.length co61 (ji16) (of_decide_eq_true y2_) q63 (Kd.R_reads' HO_3.out).2.1; have hr63 := Kd.R_take (m := ((ji16) : Int).toNat) HO_3.out (by omega); have hy63 : y410.length = ((ji16) : Int).toNat := (y0_ Ny410.out); rw [← Ny410.out] at hr63; rw [← hy63] at hr63 hcut63; clear hy63 hi063 hsz63 HO_3; have HO412 := Aside0.mk hr63; clear hr63; replace q63 := eq_true q63) | ((with_reducible refine gate_callee (f := 32) rfl ?_); refine goesL_ (some 34) rfl rfl Tryd.func32 (by kernel_rfl) rfl #[.agg #[.int .i64 ((rd_T35 l0 x18_2).f0), .int .i64 ((rd_T35 l0 x18_2).f1), .string ((rd_T35 l0 x18_2).f2), .string ((rd_T35 l0 x18_2).f3), .slice A408_4 ((rd_T35 l0 x18_2).f4).length c408_4], .slice Ao61 y410.length co61] rfl y15_ ?_; (with_reducible refine (write_element.calls k2 ((rd_T35 l0 x18_2).f0) ((rd_T35 l0 x18_2).f1) ((rd_T35 l0 x18_2).f2) ((rd_T35 l0 x18_2).f3) _ _ ((rd_T35 l0 x18_2).f4) _ _ y410 true _ ?side1 ?side2 ?side3 ?side4 A53.out).mono ?_); (case side1 => repeat (first | exact (Kd.C_below HR408_4.out HB.out) | (with_reducible refine Kd.C_alloc ?_ _) | (with_reducible refine Kd.C_drewN ?_ _) | (with_reducible refine Kd.C_drew ?_))); (case side2 => exact HC408_4.out); (case side3 => repeat (first | exact (Kd.R_reads' HO412.out).2.2 | (with_reducible refine Kd.C_alloc ?_ _) | (with_reducible refine Kd.C_drewN ?_ _) | (with_reducible refine Kd.C_drew ?_))); (case side4 => exact (Kd.R_reads' HO412.out).2.1); rintro e w64 ⟨rfl, hb⟩; refine ⟨_, rfl, ?_⟩; have n0_ := Aside0.mk (Kd.R_below (y8_ HO412.out) hb); have n1_ := Aside0.mk (blk_below (g := gb409) (o := .cells #[.int .i64 ((rd_T35 l0 x18_2).f0), .int .i64 ((rd_T35 l0 x18_2).f1), .string ((rd_T35 l0 x18_2).f2), .string ((rd_T35 l0 x18_2).f3), .slice A408_4 ((rd_T35 l0 x18_2).f4).length c408_4] 35 (0, 0)) (y12_ BK409.out) hb); have n2_ := Aside0.mk (below_step (y19_ GE409.out) hb); clear HO412; clear BK409; clear HB; have HO412 := n0_; have BK409 := n1_; have HB := n2_; clear n0_ n1_ n2_; (try clear hb); (try clear hb2); (try clear hk); (try clear hi)) | (go_at_call 33; (with_reducible refine (write_within.calls k2 _ _ l0 x18_2 true _ ?side1 ?side2 A55.out).mono ?_); (case side1 => repeat (first | exact (Kd.C_below HR0.out HB.out) | (with_reducible refine Kd.C_alloc ?_ _) | (with_reducible refine Kd.C_drewN ?_ _) | (with_reducible refine Kd.C_drew ?_))); (case side2 => exact HC0.out); rintro e w65 ⟨rfl, hb⟩; have n0_ := Aside0.mk (Kd.R_below (y8_ HO412.out) hb); have n1_ := Aside0.mk (blk_below (g := gb409) (o := .cells #[.int .i64 ((rd_T35 l0 x18_2).f0), .int .i64 ((rd_T35 l0 x18_2).f1), .string ((rd_T35 l0 x18_2).f2), .string ((rd_T35 l0 x18_2).f3), .slice A408_4 ((rd_T35 l0 x18_2).f4).length c408_4] 35 (0, 0)) (y12_ BK409.out) hb); have n2_ := Aside0.mk (below_step (y19_ GE409.out) hb); clear HO412; clear BK409; clear HB; have HO412 := n0_; have BK409 := n1_; have HB := n2_; clear n0_ n1_ n2_; (try clear hb); (try clear hb2); (try clear hk); (try clear hi); have hcz66_0 : w65.cell? ⟨gb409, 0, none⟩ = some (.int .i64 ((rd_T35 l0 x18_2).f0)) := (blk_cell BK409.out 0).trans rfl; have hcz66_1 : w65.cell? ⟨gb409, 1, none⟩ = some (.int .i64 ((rd_T35 l0 x18_2).f1)) := (blk_cell BK409.out 1).trans rfl; have hcz66_2 : w65.cell? ⟨gb409, 2, none⟩ = some (.string ((rd_T35 l0 x18_2).f2)) := (blk_cell BK409.out 2).trans rfl; have hcz66_3 : w65.cell? ⟨gb409, 3, none⟩ = some (.string ((rd_T35 l0 x18_2).f3)) := (blk_cell BK409.out 3).trans rfl; have hcz66_4 : w65.cell? ⟨gb409, 4, none⟩ = some (.slice A408_4 ((rd_T35 l0 x18_2).f4).length c408_4) := (blk_cell BK409.out 4).trans rfl; have hfz66_0 := blk_frozen BK409.out 0; have hfz66_1 := blk_frozen BK409.out 1; have hfz66_2 := blk_frozen BK409.out 2; have hfz66_3 := blk_frozen BK409.out 3; have hfz66_4 := blk_frozen BK409.out 4) | ((with_reducible refine gate_builtin (b := .append) (xs := #[.tmp 42, .tmp 45]) rfl ?_); at_builtin; refine Kd.R_append Kd.string (w0 := w) w.heap.size rfl (.tmp 42) (.tmp 45) 43 9 (.string ⟨#[]⟩) 16 rfl Tryd.underlying43 info9 rfl (by decide) (by omega) (.slice Ao61 y410.length co61) y410 ((rd_T35 l0 x18_2).f2) [.string ((rd_T35 l0 x18_2).f2)] (fun _ => True) (fun _ => False) rfl rfl ?aP (fun _ hk => hk.elim) ?aF ?aO ?aB ?aS ?aL ?_; (case aP => exact rfl); (case aB => exact (y19_ GE409.out)); (case aF => exact (fun _ _ => trivial)); (case aO => exact (y8_ HO412.out)); (case aS => exact (below_size (y19_ GE409.out))); (case aL => have := LMc57.out; first | omega | exact Nat.le_of_lt this); intro v418 w67 ho hb hg hat; rw [← Ny417.out] at ho; have n0_ := Aside0.mk (blk_grown (g := gb409) (o := .cells #[.int .i64 ((rd_T35 l0 x18_2).f0), .int .i64 ((rd_T35 l0 x18_2).f1), .string ((rd_T35 l0 x18_2).f2), .string ((rd_T35 l0 x18_2).f3), .slice A408_4 ((rd_T35 l0 x18_2).f4).length c408_4] 35 (0, 0)) (y12_ BK409.out) hg (Kd.R_ne HO412.out BK409.out (by decide))); have n1_ := Aside0.mk (hb); have n2_ := Aside0.mk (ho); clear BK409; clear HB; clear HO412; have BK409 := n0_; have HB := n1_; have HO419 := n2_; clear n0_ n1_ n2_; clear ho hb hg hat))
           go_roundg k2
           case measure => have := HJ1.out; have := HK2.out; omega
           case rel => exact ⟨(y417), (wrap64 (x18_2 + 1)), y5_, H', ⟨by have := HJ1.out; have := HK2.out; omega⟩, ⟨by (with_reducible repeat (first | apply Kd.R_alloc | apply Kd.R_drewN | apply Kd.R_drew)); exact HO419.out⟩, ⟨(y19_ GE409.out)⟩⟩
          ·replace c56 := Bool.eq_false_iff.mpr c56
           subst c56
           rw [if_neg (show ¬ (false = true) by decide)] at H
           obtain rfl := Option.some.inj H
           have p408 : 0 ≤ (x18_2 : Int) := of_decide_eq_true y2_
           have q408 : x18_2 < (l0.length : Int) := of_decide_eq_true y2_
           obtain ⟨ad408, A408_4, c408_4, e408, hx408_0, hx408_1, hx408_2, hx408_3, hx408_4, hl408_4, hi408_4⟩ := at_T35 HR0.out x18_2 p408 q408
           cases e408
           replace hx408_0 := (HB.out.cell (World.block_lt_of_cell? w _ hx408_0)).trans hx408_0
           replace hx408_1 := (HB.out.cell (World.block_lt_of_cell? w _ hx408_1)).trans hx408_1
           replace hx408_2 := (HB.out.cell (World.block_lt_of_cell? w _ hx408_2)).trans hx408_2
           replace hx408_3 := (HB.out.cell (World.block_lt_of_cell? w _ hx408_3)).trans hx408_3
           replace hx408_4 := (HB.out.cell (World.block_lt_of_cell? w _ hx408_4)).trans hx408_4
           have HR408_4 := Aside0.mk hi408_4
           have HC408_4 := Aside0.mk hl408_4
           clear hi408_4 hl408_4
           replace p408 := eq_true p408
           replace q408 := eq_true q408
           go_wp2_with (first | ((with_reducible refine gate_dst (N := 5) rfl ?_); refine box_event ?hg (N := 5) ?hd (cs := #[.int .i64 0, .int .i64 0, .string (⟨#[]⟩ : ByteArray), .string (⟨#[]⟩ : ByteArray), .slice none 0 0]) (t := 35) ?hr ?_; (case hd => rfl); (case hg => rfl); (case hr => first | (go_simp; done) | (go_simp; rfl)); intro gb409 hg w68 hbox hb; have n0_ := Aside0.mk (Kd.R_below (y8_ HO_3.out) hb); have n1_ := Aside0.mk (below_step y14_ hb); have n2_ := Aside0.mk (hbox); have n3_ := Aside0.mk ((by rw [hg]; exact (below_size y14_) : w.heap.size ≤ gb409)); have n4_ := Aside0.mk ((by rw [hg]; exact (below_size y14_) : w.heap.size ≤ gb409)); clear HO_3; clear HB; have HO_3 := n0_; have HB := n1_; have BK409 := n2_; have GW409 := n3_; have GE409 := n4_; clear n0_ n1_ n2_ n3_ n4_; clear hb hbox hg; have hcz69_0 : w68.cell? ⟨gb409, 0, none⟩ = some (.int .i64 0) := (blk_cell BK409.out 0).trans rfl; have hcz69_1 : w68.cell? ⟨gb409, 1, none⟩ = some (.int .i64 0) := (blk_cell BK409.out 1).trans rfl; have hcz69_2 : w68.cell? ⟨gb409, 2, none⟩ = some (.string (⟨#[]⟩ : ByteArray)) := (blk_cell BK409.out 2).trans rfl; have hcz69_3 : w68.cell? ⟨gb409, 3, none⟩ = some (.string (⟨#[]⟩ : ByteArray)) := (blk_cell BK409.out 3).trans rfl; have hcz69_4 : w68.cell? ⟨gb409, 4, none⟩ = some (.slice none 0 0) := (blk_cell BK409.out 4).trans rfl; have hfz69_0 := blk_frozen BK409.out 0; have hfz69_1 := blk_frozen BK409.out 1; have hfz69_2 := blk_frozen BK409.out 2; have hfz69_3 := blk_frozen BK409.out 3; have hfz69_4 := blk_frozen BK409.out 4) | ((with_reducible refine gate_store (t := 35) (p := 5) rfl ?_); refine store_event (t := 35) (p := 5) (v := ?vo_w70) (w1 := (((((w68.setCell ⟨gb409, 0, none⟩ (.int .i64 ((rd_T35 l0 x18_2).f0))).setCell ⟨gb409, 1, none⟩ (.int .i64 ((rd_T35 l0 x18_2).f1))).setCell ⟨gb409, 2, none⟩ (.string ((rd_T35 l0 x18_2).f2))).setCell ⟨gb409, 3, none⟩ (.string ((rd_T35 l0 x18_2).f3))).setCell ⟨gb409, 4, none⟩ (.slice A408_4 ((rd_T35 l0 x18_2).f4).length c408_4))) ?hg ?ho ?hn ?hr ?_; (case ho => rfl); (case hg => rfl); (case hn => rfl); (case hr => first | (go_simp; done) | (go_simp; rfl)); intro w70 hw; have n0_ : Aside0 (Kd.R Kd.string 9 w70 w.heap.size (fun _ => True) u3 x3_2) := ⟨(by rw [hw]; exact (by (with_reducible repeat (first | apply Kd.R_alloc | apply Kd.R_drewN | apply Kd.R_drew)); exact Kd.R_mono (Kd.R_far (p := ⟨gb409, 4, none⟩) (Kd.R_far (p := ⟨gb409, 3, none⟩) (Kd.R_far (p := ⟨gb409, 2, none⟩) (Kd.R_far (p := ⟨gb409, 1, none⟩) (Kd.R_far (p := ⟨gb409, 0, none⟩) (Kd.R_types HO_3.out BK409.out (by decide)) (fun _ hk => hk.2) (.int .i64 ((rd_T35 l0 x18_2).f0))) (fun _ hk => hk.2) (.int .i64 ((rd_T35 l0 x18_2).f1))) (fun _ hk => hk.2) (.string ((rd_T35 l0 x18_2).f2))) (fun _ hk => hk.2) (.string ((rd_T35 l0 x18_2).f3))) (fun _ hk => hk.2) (.slice A408_4 ((rd_T35 l0 x18_2).f4).length c408_4)) (fun _ hk => trivial)))⟩; have n1_ : Aside0 (w70.heap[gb409]? = some (.cells #[.int .i64 ((rd_T35 l0 x18_2).f0), .int .i64 ((rd_T35 l0 x18_2).f1), .string ((rd_T35 l0 x18_2).f2), .string ((rd_T35 l0 x18_2).f3), .slice A408_4 ((rd_T35 l0 x18_2).f4).length c408_4] 35 (0, 0))) := ⟨(by rw [hw]; exact (y33_ BK409.out))⟩; have n2_ : Aside0 (Below w.heap.size w w70) := ⟨(by rw [hw]; exact (y19_ GE409.out))⟩; clear hw; clear HO_3; clear BK409; clear HB; have HO_3 := n0_; have BK409 := n1_; have HB := n2_; clear n0_ n1_ n2_; obtain ⟨Ao71, co71, eo71⟩ := Kd.R_slice HO_3.out; subst eo71; have hcz72_0 : w70.cell? ⟨gb409, 0, none⟩ = some (.int .i64 ((rd_T35 l0 x18_2).f0)) := (blk_cell BK409.out 0).trans rfl; have hcz72_1 : w70.cell? ⟨gb409, 1, none⟩ = some (.int .i64 ((rd_T35 l0 x18_2).f1)) := (blk_cell BK409.out 1).trans rfl; have hcz72_2 : w70.cell? ⟨gb409, 2, none⟩ = some (.string ((rd_T35 l0 x18_2).f2)) := (blk_cell BK409.out 2).trans rfl; have hcz72_3 : w70.cell? ⟨gb409, 3, none⟩ = some (.string ((rd_T35 l0 x18_2).f3)) := (blk_cell BK409.out 3).trans rfl; have hcz72_4 : w70.cell? ⟨gb409, 4, none⟩ = some (.slice A408_4 ((rd_T35 l0 x18_2).f4).length c408_4) := (blk_cell BK409.out 4).trans rfl; have hfz72_0 := blk_frozen BK409.out 0; have hfz72_1 := blk_frozen BK409.out 1; have hfz72_2 := blk_frozen BK409.out 2; have hfz72_3 := blk_frozen BK409.out 3; have hfz72_4 := blk_frozen BK409.out 4; have q73 : ((ji16) : Int) ≤ ((x3_2.length : Int) : Int) := of_decide_eq_true y2_; obtain ⟨i073, hi073, _, hsz73, _⟩ := info_parts info9; have hcut73 := cut_to (P := Tryd.prog) 43 9 .i64 Tryd.underlying43 hi073 Ao71 x3_2.length co71 (ji16) (of_decide_eq_true y2_) q73 (Kd.R_reads' HO_3.out).2.1; have hr73 := Kd.R_take (m := ((ji16) : Int).toNat) HO_3.out (by omega); have hy73 : y410.length = ((ji16) : Int).toNat := (y0_ Ny410.out); rw [← Ny410.out] at hr73; rw [← hy73] at hr73 hcut73; clear hy73 hi073 hsz73 HO_3; have HO412 := Aside0.mk hr73; clear hr73; replace q73 := eq_true q73) | ((with_reducible refine gate_callee (f := 32) rfl ?_); refine goesL_ (some 34) rfl rfl Tryd.func32 (by kernel_rfl) rfl #[.agg #[.int .i64 ((rd_T35 l0 x18_2).f0), .int .i64 ((rd_T35 l0 x18_2).f1), .string ((rd_T35 l0 x18_2).f2), .string ((rd_T35 l0 x18_2).f3), .slice A408_4 ((rd_T35 l0 x18_2).f4).length c408_4], .slice Ao71 y410.length co71] rfl y15_ ?_; (with_reducible refine (write_element.calls k2 ((rd_T35 l0 x18_2).f0) ((rd_T35 l0 x18_2).f1) ((rd_T35 l0 x18_2).f2) ((rd_T35 l0 x18_2).f3) _ _ ((rd_T35 l0 x18_2).f4) _ _ y410 true _ ?side1 ?side2 ?side3 ?side4 A53.out).mono ?_); (case side1 => repeat (first | exact (Kd.C_below HR408_4.out HB.out) | (with_reducible refine Kd.C_alloc ?_ _) | (with_reducible refine Kd.C_drewN ?_ _) | (with_reducible refine Kd.C_drew ?_))); (case side2 => exact HC408_4.out); (case side3 => repeat (first | exact (Kd.R_reads' HO412.out).2.2 | (with_reducible refine Kd.C_alloc ?_ _) | (with_reducible refine Kd.C_drewN ?_ _) | (with_reducible refine Kd.C_drew ?_))); (case side4 => exact (Kd.R_reads' HO412.out).2.1); rintro e w74 ⟨rfl, hb⟩; refine ⟨_, rfl, ?_⟩; have n0_ := Aside0.mk (Kd.R_below (y8_ HO412.out) hb); have n1_ := Aside0.mk (blk_below (g := gb409) (o := .cells #[.int .i64 ((rd_T35 l0 x18_2).f0), .int .i64 ((rd_T35 l0 x18_2).f1), .string ((rd_T35 l0 x18_2).f2), .string ((rd_T35 l0 x18_2).f3), .slice A408_4 ((rd_T35 l0 x18_2).f4).length c408_4] 35 (0, 0)) (y12_ BK409.out) hb); have n2_ := Aside0.mk (below_step (y19_ GE409.out) hb); clear HO412; clear BK409; clear HB; have HO412 := n0_; have BK409 := n1_; have HB := n2_; clear n0_ n1_ n2_; (try clear hb); (try clear hb2); (try clear hk); (try clear hi)) | (go_at_call 33; (with_reducible refine (write_within.calls k2 _ _ l0 x18_2 false _ ?side1 ?side2 A55.out).mono ?_); (case side1 => repeat (first | exact (Kd.C_below HR0.out HB.out) | (with_reducible refine Kd.C_alloc ?_ _) | (with_reducible refine Kd.C_drewN ?_ _) | (with_reducible refine Kd.C_drew ?_))); (case side2 => exact HC0.out); rintro e w75 ⟨rfl, hb⟩; have n0_ := Aside0.mk (Kd.R_below (y8_ HO412.out) hb); have n1_ := Aside0.mk (blk_below (g := gb409) (o := .cells #[.int .i64 ((rd_T35 l0 x18_2).f0), .int .i64 ((rd_T35 l0 x18_2).f1), .string ((rd_T35 l0 x18_2).f2), .string ((rd_T35 l0 x18_2).f3), .slice A408_4 ((rd_T35 l0 x18_2).f4).length c408_4] 35 (0, 0)) (y12_ BK409.out) hb); have n2_ := Aside0.mk (below_step (y19_ GE409.out) hb); clear HO412; clear BK409; clear HB; have HO412 := n0_; have BK409 := n1_; have HB := n2_; clear n0_ n1_ n2_; (try clear hb); (try clear hb2); (try clear hk); (try clear hi)))
           go_ret
           exact ⟨y23_, (y19_ GE409.out)⟩
         ·replace c54 := Bool.eq_false_iff.mpr c54
          subst c54
          rw [if_neg (show ¬ (false = true) by decide)] at H
          obtain rfl := Option.some.inj H
          have p408 : 0 ≤ (x18_2 : Int) := of_decide_eq_true y2_
          have q408 : x18_2 < (l0.length : Int) := of_decide_eq_true y2_
          obtain ⟨ad408, A408_4, c408_4, e408, hx408_0, hx408_1, hx408_2, hx408_3, hx408_4, hl408_4, hi408_4⟩ := at_T35 HR0.out x18_2 p408 q408
          cases e408
          replace hx408_0 := (HB.out.cell (World.block_lt_of_cell? w _ hx408_0)).trans hx408_0
          replace hx408_1 := (HB.out.cell (World.block_lt_of_cell? w _ hx408_1)).trans hx408_1
          replace hx408_2 := (HB.out.cell (World.block_lt_of_cell? w _ hx408_2)).trans hx408_2
          replace hx408_3 := (HB.out.cell (World.block_lt_of_cell? w _ hx408_3)).trans hx408_3
          replace hx408_4 := (HB.out.cell (World.block_lt_of_cell? w _ hx408_4)).trans hx408_4
          have HR408_4 := Aside0.mk hi408_4
          have HC408_4 := Aside0.mk hl408_4
          clear hi408_4 hl408_4
          replace p408 := eq_true p408
          replace q408 := eq_true q408
          go_wp2_with (first | ((with_reducible refine gate_dst (N := 5) rfl ?_); refine box_event ?hg (N := 5) ?hd (cs := #[.int .i64 0, .int .i64 0, .string (⟨#[]⟩ : ByteArray), .string (⟨#[]⟩ : ByteArray), .slice none 0 0]) (t := 35) ?hr ?_; (case hd => rfl); (case hg => rfl); (case hr => first | (go_simp; done) | (go_simp; rfl)); intro gb409 hg w76 hbox hb; have n0_ := Aside0.mk (Kd.R_below (y8_ HO_3.out) hb); have n1_ := Aside0.mk (below_step y14_ hb); have n2_ := Aside0.mk (hbox); have n3_ := Aside0.mk ((by rw [hg]; exact (below_size y14_) : w.heap.size ≤ gb409)); have n4_ := Aside0.mk ((by rw [hg]; exact (below_size y14_) : w.heap.size ≤ gb409)); clear HO_3; clear HB; have HO_3 := n0_; have HB := n1_; have BK409 := n2_; have GW409 := n3_; have GE409 := n4_; clear n0_ n1_ n2_ n3_ n4_; clear hb hbox hg; have hcz77_0 : w76.cell? ⟨gb409, 0, none⟩ = some (.int .i64 0) := (blk_cell BK409.out 0).trans rfl; have hcz77_1 : w76.cell? ⟨gb409, 1, none⟩ = some (.int .i64 0) := (blk_cell BK409.out 1).trans rfl; have hcz77_2 : w76.cell? ⟨gb409, 2, none⟩ = some (.string (⟨#[]⟩ : ByteArray)) := (blk_cell BK409.out 2).trans rfl; have hcz77_3 : w76.cell? ⟨gb409, 3, none⟩ = some (.string (⟨#[]⟩ : ByteArray)) := (blk_cell BK409.out 3).trans rfl; have hcz77_4 : w76.cell? ⟨gb409, 4, none⟩ = some (.slice none 0 0) := (blk_cell BK409.out 4).trans rfl; have hfz77_0 := blk_frozen BK409.out 0; have hfz77_1 := blk_frozen BK409.out 1; have hfz77_2 := blk_frozen BK409.out 2; have hfz77_3 := blk_frozen BK409.out 3; have hfz77_4 := blk_frozen BK409.out 4) | ((with_reducible refine gate_store (t := 35) (p := 5) rfl ?_); refine store_event (t := 35) (p := 5) (v := ?vo_w78) (w1 := (((((w76.setCell ⟨gb409, 0, none⟩ (.int .i64 ((rd_T35 l0 x18_2).f0))).setCell ⟨gb409, 1, none⟩ (.int .i64 ((rd_T35 l0 x18_2).f1))).setCell ⟨gb409, 2, none⟩ (.string ((rd_T35 l0 x18_2).f2))).setCell ⟨gb409, 3, none⟩ (.string ((rd_T35 l0 x18_2).f3))).setCell ⟨gb409, 4, none⟩ (.slice A408_4 ((rd_T35 l0 x18_2).f4).length c408_4))) ?hg ?ho ?hn ?hr ?_; (case ho => rfl); (case hg => rfl); (case hn => rfl); (case hr => first | (go_simp; done) | (go_simp; rfl)); intro w78 hw; have n0_ : Aside0 (Kd.R Kd.string 9 w78 w.heap.size (fun _ => True) u3 x3_2) := ⟨(by rw [hw]; exact (by (with_reducible repeat (first | apply Kd.R_alloc | apply Kd.R_drewN | apply Kd.R_drew)); exact Kd.R_mono (Kd.R_far (p := ⟨gb409, 4, none⟩) (Kd.R_far (p := ⟨gb409, 3, none⟩) (Kd.R_far (p := ⟨gb409, 2, none⟩) (Kd.R_far (p := ⟨gb409, 1, none⟩) (Kd.R_far (p := ⟨gb409, 0, none⟩) (Kd.R_types HO_3.out BK409.out (by decide)) (fun _ hk => hk.2) (.int .i64 ((rd_T35 l0 x18_2).f0))) (fun _ hk => hk.2) (.int .i64 ((rd_T35 l0 x18_2).f1))) (fun _ hk => hk.2) (.string ((rd_T35 l0 x18_2).f2))) (fun _ hk => hk.2) (.string ((rd_T35 l0 x18_2).f3))) (fun _ hk => hk.2) (.slice A408_4 ((rd_T35 l0 x18_2).f4).length c408_4)) (fun _ hk => trivial)))⟩; have n1_ : Aside0 (w78.heap[gb409]? = some (.cells #[.int .i64 ((rd_T35 l0 x18_2).f0), .int .i64 ((rd_T35 l0 x18_2).f1), .string ((rd_T35 l0 x18_2).f2), .string ((rd_T35 l0 x18_2).f3), .slice A408_4 ((rd_T35 l0 x18_2).f4).length c408_4] 35 (0, 0))) := ⟨(by rw [hw]; exact (y33_ BK409.out))⟩; have n2_ : Aside0 (Below w.heap.size w w78) := ⟨(by rw [hw]; exact (y19_ GE409.out))⟩; clear hw; clear HO_3; clear BK409; clear HB; have HO_3 := n0_; have BK409 := n1_; have HB := n2_; clear n0_ n1_ n2_; obtain ⟨Ao79, co79, eo79⟩ := Kd.R_slice HO_3.out; subst eo79; have hcz80_0 : w78.cell? ⟨gb409, 0, none⟩ = some (.int .i64 ((rd_T35 l0 x18_2).f0)) := (blk_cell BK409.out 0).trans rfl; have hcz80_1 : w78.cell? ⟨gb409, 1, none⟩ = some (.int .i64 ((rd_T35 l0 x18_2).f1)) := (blk_cell BK409.out 1).trans rfl; have hcz80_2 : w78.cell? ⟨gb409, 2, none⟩ = some (.string ((rd_T35 l0 x18_2).f2)) := (blk_cell BK409.out 2).trans rfl; have hcz80_3 : w78.cell? ⟨gb409, 3, none⟩ = some (.string ((rd_T35 l0 x18_2).f3)) := (blk_cell BK409.out 3).trans rfl; have hcz80_4 : w78.cell? ⟨gb409, 4, none⟩ = some (.slice A408_4 ((rd_T35 l0 x18_2).f4).length c408_4) := (blk_cell BK409.out 4).trans rfl; have hfz80_0 := blk_frozen BK409.out 0; have hfz80_1 := blk_frozen BK409.out 1; have hfz80_2 := blk_frozen BK409.out 2; have hfz80_3 := blk_frozen BK409.out 3; have hfz80_4 := blk_frozen BK409.out 4; have q81 : ((ji16) : Int) ≤ ((x3_2.length : Int) : Int) := of_decide_eq_true y2_; obtain ⟨i081, hi081, _, hsz81, _⟩ := info_parts info9; have hcut81 := cut_to (P := Tryd.prog) 43 9 .i64 Tryd.underlying43 hi081 Ao79 x3_2.length co79 (ji16) (of_decide_eq_true y2_) q81 (Kd.R_reads' HO_3.out).2.1; have hr81 := Kd.R_take (m := ((ji16) : Int).toNat) HO_3.out (by omega); have hy81 : y410.length = ((ji16) : Int).toNat := (y0_ Ny410.out); rw [← Ny410.out] at hr81; rw [← hy81] at hr81 hcut81; clear hy81 hi081 hsz81 HO_3; have HO412 := Aside0.mk hr81; clear hr81; replace q81 := eq_true q81) | ((with_reducible refine gate_callee (f := 32) rfl ?_); refine goesL_ (some 34) rfl rfl Tryd.func32 (by kernel_rfl) rfl #[.agg #[.int .i64 ((rd_T35 l0 x18_2).f0), .int .i64 ((rd_T35 l0 x18_2).f1), .string ((rd_T35 l0 x18_2).f2), .string ((rd_T35 l0 x18_2).f3), .slice A408_4 ((rd_T35 l0 x18_2).f4).length c408_4], .slice Ao79 y410.length co79] rfl y15_ ?_; (with_reducible refine (write_element.calls k2 ((rd_T35 l0 x18_2).f0) ((rd_T35 l0 x18_2).f1) ((rd_T35 l0 x18_2).f2) ((rd_T35 l0 x18_2).f3) _ _ ((rd_T35 l0 x18_2).f4) _ _ y410 false _ ?side1 ?side2 ?side3 ?side4 A53.out).mono ?_); (case side1 => repeat (first | exact (Kd.C_below HR408_4.out HB.out) | (with_reducible refine Kd.C_alloc ?_ _) | (with_reducible refine Kd.C_drewN ?_ _) | (with_reducible refine Kd.C_drew ?_))); (case side2 => exact HC408_4.out); (case side3 => repeat (first | exact (Kd.R_reads' HO412.out).2.2 | (with_reducible refine Kd.C_alloc ?_ _) | (with_reducible refine Kd.C_drewN ?_ _) | (with_reducible refine Kd.C_drew ?_))); (case side4 => exact (Kd.R_reads' HO412.out).2.1); rintro e w82 ⟨rfl, hb⟩; refine ⟨_, rfl, ?_⟩; have n0_ := Aside0.mk (Kd.R_below (y8_ HO412.out) hb); have n1_ := Aside0.mk (blk_below (g := gb409) (o := .cells #[.int .i64 ((rd_T35 l0 x18_2).f0), .int .i64 ((rd_T35 l0 x18_2).f1), .string ((rd_T35 l0 x18_2).f2), .string ((rd_T35 l0 x18_2).f3), .slice A408_4 ((rd_T35 l0 x18_2).f4).length c408_4] 35 (0, 0)) (y12_ BK409.out) hb); have n2_ := Aside0.mk (below_step (y19_ GE409.out) hb); clear HO412; clear BK409; clear HB; have HO412 := n0_; have BK409 := n1_; have HB := n2_; clear n0_ n1_ n2_; (try clear hb); (try clear hb2); (try clear hk); (try clear hi)))
          go_ret
          exact ⟨y23_, (y19_ GE409.out)⟩
      ·rw [if_neg c13] at H
       have c13b0 : decide (x18_2 < (l0.length : Int)) = false := decide_eq_false c13
       clear c13
       obtain rfl := Option.some.inj H
       go_wp2
       go_ret
       exact ⟨y13_, y14_⟩
end Go.Proofs.YtpnhjipaeggcpaaDoor.X
end
section
namespace Go.Proofs.YtpnhjipaeggcpaaDoor.X
open Go.RowKit Go.Proofs.YtpnhjipaeggcpaaDoorW.PrintWords Go.Proofs.YtpnhjipaeggcpaaDoorW.PrintLast Go.Proofs.YtpnhjipaeggcpaaDoorW.PrintMore
theorem rdA_take {l : List AttT} {i j : Nat} (hi : i ≤ l.length) (hj : j < i) : rd_T41 (l.take i) (j : Int) = rd_T41 l (j : Int) := by
  rw [rdA_at (show j < (l.take i).length by rw [List.length_take]; omega), rdA_at (by omega), List.getElem_take]
theorem prow_l1 (f0 f1 : Int) (f2 f3 : ByteArray) (l : List AttT) (hl : l.length ≤ 4611686018427387904) (r : Bool) (i : Nat) (hi : i < l.length) (b1 : ByteArray) (hnext : Ev (fun k => rows_row.l0 k l (l.length : Int) ((i + 1 : Nat) : Int) f0 f1 f2 f3 l) r) : ∀ (d j : Nat), j + d = i →
    Ev (fun k => rows_row.l1 k l (l.length : Int) (i : Int) (l.take i) (i : Int) (j : Int) f0 f1 f2 f3 l (rd_T41 l (i : Int)).f0 b1) (!dupIn l i j && r)
  | 0, j, hj => by
    obtain rfl : j = i := hj
    have : dupIn l j j = false := by simp [dupIn]
    rw [this]
    refine evI (fun k => ?_) hnext
    rw [rows_row.l1, if_neg (by omega), w64n (by omega)]
  | d + 1, j, hj => by
    have hlt : j < i := by omega
    have ih := prow_l1 f0 f1 f2 f3 l hl r i hi b1 hnext d (j + 1) (by omega)
    have hd : dupIn l i j = ((rd_T41 l (i : Int)).f0.toList == (rd_T41 l (j : Int)).f0.toList || dupIn l i (j + 1)) := by
      unfold dupIn
      rw [range'_cons hlt, List.any_cons]
    have hlen : (l.take i).length = i := by rw [List.length_take]; omega
    by_cases he : (rd_T41 l (i : Int)).f0.toList = (rd_T41 l (j : Int)).f0.toList
    · rw [hd, beq_iff_eq.2 he]
      refine evK (fun k => ?_)
      rw [rows_row.l1, if_pos (by omega), if_pos (by omega), hlen, if_pos (by omega), rdA_take (by omega) hlt, if_pos he]
      rfl
    · rw [hd, beq_eq_false_iff_ne.2 he, Bool.false_or]
      refine evI (fun k => ?_) ih
      rw [rows_row.l1, if_pos (by omega), if_pos (by omega), hlen, if_pos (by omega), rdA_take (by omega) hlt, if_neg he, w64n (by omega)]
theorem prow_l0 (f0 f1 : Int) (f2 f3 : ByteArray) (l : List AttT) (hl : l.length ≤ 4611686018427387904) : ∀ (d i : Nat), i + d = l.length →
    Ev (fun k => rows_row.l0 k l (l.length : Int) (i : Int) f0 f1 f2 f3 l) (!dupFrom l i)
  | 0, i, hi => by
    have : dupFrom l i = false := by simp [dupFrom, show l.length - i = 0 by omega]
    rw [this]
    exact evK (fun k => by rw [rows_row.l0, if_neg (by omega)]; rfl)
  | d + 1, i, hi => by
    have hlt : i < l.length := by omega
    have hd : dupFrom l i = (dupIn l i 0 || dupFrom l (i + 1)) := by
      unfold dupFrom
      rw [range'_cons hlt, List.any_cons]
    have hlen : (l.take i).length = i := by rw [List.length_take]; omega
    have := prow_l1 f0 f1 f2 f3 l hl _ i hlt (rd_T41 l (i : Int)).f1 (prow_l0 f0 f1 f2 f3 l hl d (i + 1) (by omega)) i 0 (by omega)
    rw [hd, Bool.not_or]
    refine evI (fun k => ?_) this
    rw [rows_row.l0, if_pos (by omega), if_pos (by omega), if_pos (by omega), if_pos (by omega), Option.bind_some, show ((i : Int)).toNat = i from rfl, hlen]
    rfl
theorem pRow_is (x : RowT) (hl : x.f4.length ≤ 4611686018427387904) : Ev (fun k => rows_row.f k x.f0 x.f1 x.f2 x.f3 x.f4) (rowB x) := by
  have hy : ∀ k, rows_row.j0 (k + 1) true x.f0 x.f1 x.f2 x.f3 x.f4 = some (x.f2.toList == [] && x.f4.length == 0) := fun k => by
    rw [rows_row.j0, if_pos rfl]
    by_cases h2 : x.f2.toList = []
    · rw [if_pos h2, h2]
      congr 1
      rw [Bool.eq_iff_iff]; simp
    · rw [if_neg h2]; simp [h2]
  by_cases h1 : x.f1 = 1
  · refine Ev.congr (f := fun k => rows_row.j0 k true x.f0 x.f1 x.f2 x.f3 x.f4) (fun k => by unfold rows_row.f; rw [if_pos h1]) (evK fun k => ?_)
    rw [hy k, rowB, if_pos (.inl h1)]
  · by_cases h2 : x.f1 = 2
    · refine Ev.congr (f := fun k => rows_row.j0 k true x.f0 x.f1 x.f2 x.f3 x.f4) (fun k => by unfold rows_row.f; rw [if_neg h1, beq_iff_eq.2 h2]) (evK fun k => ?_)
      rw [hy k, rowB, if_pos (.inr h2)]
    · refine Ev.congr (f := fun k => rows_row.j0 k false x.f0 x.f1 x.f2 x.f3 x.f4) (fun k => by unfold rows_row.f; rw [if_neg h1, beq_eq_false_iff_ne.2 h2]) ?_
      have hj1 : ∀ b : Bool, Ev (fun k => rows_row.j1 k b x.f0 x.f1 x.f2 x.f3 x.f4) (!b && !dupFrom x.f4 0) := fun b => by
        cases b with
        | true => exact evK (fun k => by rw [rows_row.j1, if_pos rfl]; rfl)
        | false =>
          rw [Bool.not_false, Bool.true_and]
          exact evI (fun k => by rw [rows_row.j1, if_neg (by decide)]; rfl) (prow_l0 x.f0 x.f1 x.f2 x.f3 x.f4 hl x.f4.length 0 (by omega))
      rw [rowB, if_neg (by omega)]
      by_cases h0 : x.f1 = 0
      · by_cases hn : x.f2.toList = []
        · rw [hn]
          have e : (!dupFrom x.f4 0 && (decide (x.f1 = 0) && (!(([] : List UInt8) == []) && x.f3.toList == []))) = (!true && !dupFrom x.f4 0) := by simp
          rw [e]
          exact evI (fun k => by rw [rows_row.j0, if_neg (by decide), if_pos h0, if_pos hn]) (hj1 true)
        · have e : (!dupFrom x.f4 0 && (decide (x.f1 = 0) && (!(x.f2.toList == []) && x.f3.toList == []))) = (!(x.f3.toList != []) && !dupFrom x.f4 0) := by
            rw [decide_eq_true h0, beq_eq_false_iff_ne.2 hn, bne, Bool.not_not, Bool.and_comm]; rfl
          rw [e]
          exact evI (fun k => by rw [rows_row.j0, if_neg (by decide), if_pos h0, if_neg hn]) (hj1 _)
      · have e : (!dupFrom x.f4 0 && (decide (x.f1 = 0) && (!(x.f2.toList == []) && x.f3.toList == []))) = (!true && !dupFrom x.f4 0) := by rw [decide_eq_false h0]; simp
        rw [e]
        exact evI (fun k => by rw [rows_row.j0, if_neg (by decide), if_neg h0]) (hj1 true)
def dpt (l : List RowT) : Nat → Int
  | 0 => 0
  | j + 1 => if knd l j = 0 then dep l j + 1 else dep l j
theorem rightAt_dpt (l : List RowT) (j : Nat) : rightAt l j = (!decide (dep l j < 0) && (!decide (dep l j > dpt l j) && rowB (rd_T35 l (j : Int)))) := by
  unfold rightAt
  cases j with
  | zero =>
    rw [if_pos rfl]
    show _ = (!decide (dep l 0 < 0) && (!decide (dep l 0 > 0) && _))
    cases rowB (rd_T35 l ((0 : Nat) : Int)) with
    | false => simp
    | true =>
      rw [Bool.eq_iff_iff]; simp; omega
  | succ i =>
    rw [if_neg (by omega), Nat.add_sub_cancel]
    show _ = (!decide (dep l (i + 1) < 0) && (!decide (dep l (i + 1) > if knd l i = 0 then dep l i + 1 else dep l i) && _))
    cases rowB (rd_T35 l ((i + 1 : Nat) : Int)) with
    | false => simp
    | true =>
      rw [Bool.eq_iff_iff]
      by_cases h : knd l i = 0
      · rw [if_pos h]; simp [h]
      · rw [if_neg h]; simp [h]; omega
theorem pright_loop (l : List RowT) (hl : l.length ≤ 4611686018427387904) (ha : ∀ x ∈ l, x.f4.length ≤ 4611686018427387904) : ∀ (d j : Nat), j + d = l.length → (∀ i, i < j → rightAt l i = true) →
    Ev (fun k => rows_right.l0 k (dpt l j) l (l.length : Int) (j : Int)) ((List.range' j d).all (rightAt l))
  | 0, j, hj, hok => evK (fun k => by rw [rows_right.l0, if_neg (by omega)]; rfl)
  | d + 1, j, hj, hok => by
    have hlt : j < l.length := by omega
    have hrow := pRow_is (rd_T35 l (j : Int)) (by rw [rdR_at hlt]; exact ha _ (List.getElem_mem hlt))
    rw [List.range'_succ, List.all_cons]
    have hstep : ∀ k, rows_right.l0 (k + 1) (dpt l j) l (l.length : Int) (j : Int) = if dep l j < 0 then rows_right.j1 k l (l.length : Int) (j : Int) true (dep l j) (knd l j) (rd_T35 l (j : Int)).f2 (rd_T35 l (j : Int)).f3 (rd_T35 l (j : Int)).f4 else if dep l j > dpt l j then rows_right.j1 k l (l.length : Int) (j : Int) true (dep l j) (knd l j) (rd_T35 l (j : Int)).f2 (rd_T35 l (j : Int)).f3 (rd_T35 l (j : Int)).f4 else (rows_row.f k (rd_T35 l (j : Int)).f0 (rd_T35 l (j : Int)).f1 (rd_T35 l (j : Int)).f2 (rd_T35 l (j : Int)).f3 (rd_T35 l (j : Int)).f4).bind fun t266 => rows_right.j1 k l (l.length : Int) (j : Int) (!t266) (dep l j) (knd l j) (rd_T35 l (j : Int)).f2 (rd_T35 l (j : Int)).f3 (rd_T35 l (j : Int)).f4 := fun k => by
      rw [rows_right.l0, if_pos (by omega), if_pos (by omega), if_pos (by omega)]
      rfl
    have hno : Ev (fun k => rows_right.j1 k l (l.length : Int) (j : Int) true (dep l j) (knd l j) (rd_T35 l (j : Int)).f2 (rd_T35 l (j : Int)).f3 (rd_T35 l (j : Int)).f4) false := evK (fun k => by rw [rows_right.j1, if_pos rfl])
    by_cases h1 : dep l j < 0
    · have hat : rightAt l j = false := by rw [rightAt_dpt, decide_eq_true h1]; rfl
      rw [hat]
      exact evI (fun k => by rw [hstep, if_pos h1]) hno
    by_cases h2 : dep l j > dpt l j
    · have hat : rightAt l j = false := by rw [rightAt_dpt, decide_eq_true h2]; simp
      rw [hat]
      exact evI (fun k => by rw [hstep, if_neg h1, if_pos h2]) hno
    refine evI (fun k => by rw [hstep, if_neg h1, if_neg h2]) (Ev.bind hrow ?_)
    cases h3 : rowB (rd_T35 l (j : Int)) with
    | false =>
      have hat : rightAt l j = false := by rw [rightAt_dpt, h3]; simp
      rw [hat]
      exact hno
    | true =>
      have hat : rightAt l j = true := by rw [rightAt_dpt, h3, decide_eq_false h1, decide_eq_false h2]; rfl
      rw [hat, Bool.true_and]
      have hok' : ∀ i, i < j + 1 → rightAt l i = true := fun i hi => by
        by_cases e : i = j
        · rw [e]; exact hat
        · exact hok i (by omega)
      have ih := pright_loop l hl ha d (j + 1) (by omega) hok'
      have hdj := right_deps hok' j (by omega)
      refine evI (fun k => ?_) ih
      rw [Bool.not_true, rows_right.j1, if_neg (by decide), w64n (by omega)]
      show (if knd l j = 0 then rows_right.l0 k (wrap64 (dep l j + 1)) l (l.length : Int) _ else _) = rows_right.l0 k (if knd l j = 0 then dep l j + 1 else dep l j) l _ _
      by_cases hk : knd l j = 0
      · rw [if_pos hk, if_pos hk, w64 (by omega) (by omega)]
      · rw [if_neg hk, if_neg hk]
theorem pRight_is (l : List RowT) (hl : l.length ≤ 4611686018427387904) (ha : ∀ x ∈ l, x.f4.length ≤ 4611686018427387904) : Ev (fun k => rows_right.f k l) (rightB l) :=
  pright_loop l hl ha l.length 0 (by omega) (fun i hi => by omega)
def bigB (l : List RowT) : Bool := decide (4096 < l.length) || l.any deep
theorem check_is (l : List RowT) (hl : l.length ≤ 4611686018427387904) (ha : ∀ x ∈ l, x.f4.length ≤ 4611686018427387904) : Ev (fun k => rows_Check.f k l) (if bigB l = true then 2 else if rightB l = true then 0 else 40) := by
  by_cases h : bigB l = true
  · rw [if_pos h]
    exact Ev.congr (fun k => by unfold rows_Check.f; rw [show rows_big.f l = some (bigB l) from rfl, Option.bind_some, if_pos h]) (Ev.now _)
  · rw [if_neg h]
    refine Ev.congr (fun k => by unfold rows_Check.f; rw [show rows_big.f l = some (bigB l) from rfl, Option.bind_some, if_neg h]) (Ev.bind (pRight_is l hl ha) ?_)
    cases rightB l <;> exact Ev.now _
theorem pmoved_loop (l : List RowT) (hl : l.length ≤ 60000) (ha : ∀ x ∈ l, x.f4.length ≤ 256) (hd : ∀ x ∈ l, -9223372036854775808 ≤ x.f0 ∧ x.f0 ≤ 9223372036854775807) : ∀ (d k j : Nat), j + d = l.length → d < k → rows_moved.l0 k 0 (l.take j) l (l.length : Int) (j : Int) = some l
  | d, 0, j, hj, hk => by omega
  | 0, k + 1, j, hj, hk => by rw [rows_moved.l0, if_neg (by omega), List.take_of_length_le (by omega)]
  | d + 1, k + 1, j, hj, hk => by
    have hlt : j < l.length := by omega
    have h1 := ha l[j] (List.getElem_mem hlt)
    have h2 := hd l[j] (List.getElem_mem hlt)
    have hcl : slices_Clone_Attr.f l[j].f4 = some l[j].f4 := by unfold slices_Clone_Attr.f; rw [if_pos (by omega)]
    rw [rows_moved.l0, if_pos (by omega), if_pos (by omega), if_pos (by omega), rdR_at hlt, hcl, Option.bind_some, if_pos (by rw [List.length_take]; omega), Int.add_zero, w64 h2.1 h2.2, w64n (by omega), ← List.take_succ_eq_append_getElem hlt]
    exact pmoved_loop l hl ha hd d k (j + 1) (by omega) (by omega)
def normT : List RowT → List RowT → List RowT
  | o, [] => o
  | o, x :: r => if x.f1 = 1 ∧ x.f3.toList.isEmpty = true then normT o r else if x.f1 = 1 ∧ lastText o x.f0 = true then normT (lastAdd o x.f3) r else normT (o ++ [x]) r
theorem last_size {o : List RowT} {B : Nat} (h : ∀ x ∈ o, x.f3.size ≤ B) : lastSize o ≤ B := by
  unfold lastSize
  cases hg : o.getLast? with
  | none => exact Nat.zero_le _
  | some y => exact h y (List.mem_of_getLast? hg)
theorem last_add {o : List RowT} {s : ByteArray} {B : Nat} (h : ∀ x ∈ o, x.f3.size ≤ B) (hs : s.size ≤ 1048576) : ∀ x ∈ lastAdd o s, x.f3.size ≤ B + 1048576 := fun x hx => by
  unfold lastAdd at hx
  cases hg : o.getLast? with
  | none => rw [hg] at hx; have := h x hx; omega
  | some y =>
    rw [hg] at hx
    rcases List.mem_or_eq_of_mem_set hx with h1 | rfl
    · have := h x h1; omega
    · have := h y (List.mem_of_getLast? hg)
      show (y.f3 ++ s).size ≤ _
      rw [ByteArray.size_append]; omega
theorem last_add_length (o : List RowT) (s : ByteArray) : (lastAdd o s).length = o.length := by
  unfold lastAdd
  split <;> simp
theorem norm_is : ∀ (r o : List RowT) (B : Nat), (∀ x ∈ o, x.f3.size ≤ B) → B + 1048576 * r.length ≤ 4611686018427387904 → (∀ x ∈ r, x.f3.size ≤ 1048576) → o.length + r.length ≤ 60000 → normGo o r = some (normT o r)
  | [], o, B, ho, hB, hr, hl => rfl
  | x :: r, o, B, ho, hB, hr, hl => by
    have hx := hr x (by simp)
    have hr' : ∀ y ∈ r, y.f3.size ≤ 1048576 := fun y hy => hr y (by simp [hy])
    rw [List.length_cons] at hB hl
    unfold normGo normT
    by_cases h1 : x.f1 = 1 ∧ x.f3.toList.isEmpty = true
    · rw [if_pos h1, if_pos h1]
      exact norm_is r o B ho (by omega) hr' (by omega)
    · rw [if_neg h1, if_neg h1]
      by_cases h2 : x.f1 = 1 ∧ lastText o x.f0 = true
      · have := last_size ho
        rw [if_pos h2, if_pos h2, if_pos (by omega)]
        exact norm_is r _ (B + 1048576) (last_add ho hx) (by omega) hr' (by rw [last_add_length]; omega)
      · rw [if_neg h2, if_neg h2, if_pos (by omega)]
        refine norm_is r _ (B + 1048576) (fun y hy => ?_) (by omega) hr' (by simp; omega)
        rcases List.mem_append.1 hy with h | h
        · have := ho y h; omega
        · obtain rfl := List.mem_singleton.1 h; omega
theorem normal_is {l : List RowT} (hr : rightB l = true) (hs : ∀ x ∈ l, RowSmall x) (hl : l.length ≤ 60000) : rows_Normal.f l = some (normT [] l) := by
  have hd : ∀ x ∈ l, -9223372036854775808 ≤ x.f0 ∧ x.f0 ≤ 9223372036854775807 := fun x hx => by
    obtain ⟨q, hq, rfl⟩ := List.getElem_of_mem hx
    have := right_dep hr hq
    unfold dep at this
    rw [rdR_at hq] at this
    omega
  have hm : rows_moved.f (l.length + 1) l 0 = some l := pmoved_loop l hl (fun x hx => (hs x hx).2.2.1) hd l.length (l.length + 1) 0 (by omega) (by omega)
  unfold rows_Normal.f
  rw [hm, Option.bind_some]
  exact norm_is l [] 0 (fun x hx => by cases hx) (by omega) (fun x hx => (hs x hx).2.1) (by simp; omega)
def softL : List ByteArray := [⟨#[116, 101, 120, 116, 97, 114, 101, 97]⟩, ⟨#[116, 105, 116, 108, 101]⟩]
theorem soft_is (a : ByteArray) {k : Nat} (hk : 2 < k) : names_Soft.f k a = some (inB softL a) := by
  show (names_among.f k a softL).bind some = _
  rw [among_is softL a (by decide) hk]; rfl
def suffB (s t : ByteArray) : Bool := decide (t.size ≤ s.size) && (s.extract (s.size - t.size) s.size).toList == t.toList
theorem suff_is (s t : ByteArray) (hs : s.size ≤ 4611686018427387904) : strings_HasSuffix.f s t = some (suffB s t) := by
  unfold strings_HasSuffix.f stringslite_HasSuffix.f suffB
  by_cases h : (s.size : Int) ≥ (t.size : Int)
  · have hw : wrap64 ((s.size : Int) - (t.size : Int)) = ((s.size - t.size : Nat) : Int) := by unfold wrap64; omega
    rw [if_pos h, hw, if_pos (by omega), if_pos (by omega), decide_eq_true (show t.size ≤ s.size by omega)]; rfl
  · rw [if_neg h, decide_eq_false (show ¬ t.size ≤ s.size by omega)]; rfl
def onlyB (l : List RowT) (soft : Bool) : List Int → Bool
  | [] => true
  | [j] => if (rd_T35 l j).f1 = 1 then soft || (!Lib.contains (rd_T35 l j).f3.data.toList [60, 47] && !suffB (rd_T35 l j).f3 ⟨#[60]⟩) else false
  | _ :: _ :: _ => false
def withinB (l : List RowT) (i : Nat) : Bool :=
  if inB voidL (rd_T35 l (i : Int)).f2 = true then (kidsOf l (i : Int)).length == 0
  else if inB rawL (rd_T35 l (i : Int)).f2 = true ∨ inB softL (rd_T35 l (i : Int)).f2 = true then onlyB l (inB softL (rd_T35 l (i : Int)).f2) (kidsOf l (i : Int)) else true
theorem pwithin_is {l : List RowT} (hs : ∀ x ∈ l, RowSmall x) (hl : l.length ≤ 60000) {i : Nat} (hi : i < l.length) : Ev (fun k => write_within.f k l (i : Int)) (withinB l i) := by
  have hki : rows_Kids.f l (i : Int) = some (kidsOf l (i : Int)) := by unfold rows_Kids.f; rw [if_pos (.inr ⟨by omega, by omega⟩), if_pos (by omega)]
  have hmem : ∀ j ∈ kidsOf l (i : Int), ∃ m : Nat, j = (m : Int) ∧ m < l.length := fun j hj => by
    obtain ⟨m, h1, h2, h3⟩ := kidsOf_mem (.inr ⟨by omega, by omega⟩) hj
    exact ⟨m, h1, h3⟩
  have hj0 : ∀ (f0 f1 : Int) (f2 f3 : ByteArray) (f4 : List AttT), Ev (fun k => write_within.j0 k l (kidsOf l (i : Int)) (((kidsOf l (i : Int)).length : Int) == 0) f0 f1 f2 f3 f4) (onlyB l (inB softL f2) (kidsOf l (i : Int))) := fun f0 f1 f2 f3 f4 => by
    cases hk : kidsOf l (i : Int) with
    | nil => exact evK (fun k => by rw [write_within.j0, if_pos (by rfl)]; rfl)
    | cons j r =>
      cases r with
      | cons j2 r =>
        refine evI (f := fun k => write_within.j1 k l (j :: j2 :: r) true f0 f1 f2 f3 f4) (fun k => ?_) (evK fun k => ?_)
        · rw [write_within.j0, if_neg (by simp; omega), if_pos (by simp only [List.length_cons]; omega)]
        · rw [write_within.j1, if_pos rfl]; rfl
      | nil =>
        obtain ⟨m, rfl, hm⟩ := hmem j (by rw [hk]; simp)
        have hsz := (hs _ (List.getElem_mem hm)).2.1
        refine evI (f := fun k => write_within.j1 k l [(m : Int)] ((rd_T35 l (m : Int)).f1 != 1) f0 f1 f2 f3 f4) (fun k => ?_) ?_
        · rw [write_within.j0, if_neg (by simp), if_neg (by simp), if_pos (by simp), show rd [(m : Int)] 0 = (m : Int) from rfl, if_pos (by omega), if_pos (by omega)]
        · show Ev _ (if (rd_T35 l (m : Int)).f1 = 1 then inB softL f2 || (!Lib.contains (rd_T35 l (m : Int)).f3.data.toList [60, 47] && !suffB (rd_T35 l (m : Int)).f3 ⟨#[60]⟩) else false)
          by_cases h1 : (rd_T35 l (m : Int)).f1 = 1
          · rw [if_pos h1, h1]
            refine evI (f := fun k => (names_Soft.f k f2).bind fun t400 => if t400 = true then some true else some (!Lib.contains (rd_T35 l (m : Int)).f3.data.toList [60, 47] && !suffB (rd_T35 l (m : Int)).f3 ⟨#[60]⟩)) (fun k => ?_) (Ev.bind (evAt 2 (fun k hk => soft_is f2 hk)) ?_)
            · rw [write_within.j1, if_neg (by decide), if_pos (by simp), show rd [(m : Int)] 0 = (m : Int) from rfl, if_pos (by omega), if_pos (by omega), rdR_at hm, contains_some _ _ (by omega), suff_is _ _ (by omega)]
              simp only [Option.bind_some]
              congr 1
              funext t
              cases t <;> cases Lib.contains l[m].f3.data.toList [60, 47] <;> rfl
            · cases inB softL f2 <;> exact Ev.now _
          · rw [if_neg h1, bne_iff_ne.2 h1]
            exact evK (fun k => by rw [write_within.j1, if_pos rfl])
  have hyes : ∀ (f0 f1 : Int) (f2 f3 : ByteArray) (f4 : List AttT), Ev (fun k => write_within.j0 k l (kidsOf l (i : Int)) true f0 f1 f2 f3 f4) true := fun f0 f1 f2 f3 f4 => evK (fun k => by rw [write_within.j0, if_pos rfl])
  refine Ev.congr (fun k => by unfold write_within.f; rw [if_pos (by omega), if_pos (by omega), hki, Option.bind_some]) (Ev.bind (evAt 14 (fun k hk => void_is _ hk)) ?_)
  unfold withinB
  by_cases hv : inB voidL (rd_T35 l (i : Int)).f2 = true
  · rw [if_pos hv]
    refine Ev.congr (fun k => ?_) (Ev.now _)
    rw [if_pos hv]
    congr 1
    rw [Bool.eq_iff_iff]; simp
  · rw [if_neg hv]
    refine Ev.congr (fun k => by rw [if_neg hv]) (Ev.bind (evAt 6 (fun k hk => raw_is _ hk)) ?_)
    by_cases hr : inB rawL (rd_T35 l (i : Int)).f2 = true
    · rw [if_pos (.inl hr)]
      exact Ev.congr (fun k => by rw [if_pos hr]) (hj0 _ _ _ _ _)
    · refine Ev.congr (fun k => by rw [if_neg hr]) (Ev.bind (evAt 2 (fun k hk => soft_is _ hk)) ?_)
      by_cases hso : inB softL (rd_T35 l (i : Int)).f2 = true
      · rw [if_pos (.inr hso)]
        exact Ev.congr (fun k => by rw [if_pos hso]) (hj0 _ _ _ _ _)
      · rw [if_neg (fun h => h.elim hr hso)]
        exact Ev.congr (fun k => by rw [if_neg hso]) (hyes _ _ _ _ _)
def stepA (a : List ByteArray) (x : RowT) : List ByteArray := if x.f1 = 1 ∨ x.f1 = 2 then a.take x.f0.toNat else a.take x.f0.toNat ++ [x.f2]
def arA (l : List RowT) : Nat → List ByteArray
  | 0 => []
  | j + 1 => stepA (arA l j) (rd_T35 l (j : Int))
def rowLegal (l : List RowT) (j : Nat) : Bool :=
  if knd l j = 1 then cleanB (rd_T35 l (j : Int)).f3 else if knd l j = 2 then commentB (rd_T35 l (j : Int)).f3
  else elementB (rd_T35 l (j : Int)).f2 (rd_T35 l (j : Int)).f4 ((arA l j).take (dep l j).toNat) && withinB l j
theorem arA_length (l : List RowT) : ∀ j, (arA l j).length ≤ j
  | 0 => Nat.le_refl _
  | j + 1 => by
    have := arA_length l j
    unfold arA stepA
    split <;> simp <;> omega
theorem take_mn (a : List ByteArray) (d : Int) (hd : 0 ≤ d) : a.take (mn (a.length : Int) d).toNat = a.take d.toNat := by
  unfold mn
  split
  · rfl
  · rw [List.take_of_length_le (i := d.toNat) (by omega), List.take_of_length_le (by omega)]
theorem legal_loop {l : List RowT} (hr : rightB l = true) (hs : ∀ x ∈ l, RowSmall x) (hl : l.length ≤ 60000) : ∀ (d j : Nat), j + d = l.length →
    Ev (fun k => write_Legal.l0 k l (arA l j) l (l.length : Int) (j : Int)) ((List.range' j d).all (rowLegal l))
  | 0, j, hj => evK (fun k => by rw [write_Legal.l0, if_neg (by omega)]; rfl)
  | d + 1, j, hj => by
    have hlt : j < l.length := by omega
    have ih := legal_loop hr hs hl d (j + 1) (by omega)
    have hdj := right_dep hr hlt
    have hal := arA_length l j
    obtain ⟨hx2, hx3, hx4, hxa⟩ : RowSmall (rd_T35 l (j : Int)) := by rw [rdR_at hlt]; exact hs _ (List.getElem_mem hlt)
    have hm : 0 ≤ mn ((arA l j).length : Int) (dep l j) ∧ mn ((arA l j).length : Int) (dep l j) ≤ ((arA l j).length : Int) := by unfold mn; split <;> omega
    rw [List.range'_succ, List.all_cons]
    have hstep : ∀ k, write_Legal.l0 (k + 1) l (arA l j) l (l.length : Int) (j : Int) = if knd l j = 1 then (if cleanB (rd_T35 l (j : Int)).f3 = true then write_Legal.l0 k l ((arA l j).take (dep l j).toNat) l (l.length : Int) ((j + 1 : Nat) : Int) else some false) else if knd l j = 2 then (if commentB (rd_T35 l (j : Int)).f3 = true then write_Legal.l0 k l ((arA l j).take (dep l j).toNat) l (l.length : Int) ((j + 1 : Nat) : Int) else some false)
        else (write_element.f k (rd_T35 l (j : Int)).f0 (rd_T35 l (j : Int)).f1 (rd_T35 l (j : Int)).f2 (rd_T35 l (j : Int)).f3 (rd_T35 l (j : Int)).f4 ((arA l j).take (dep l j).toNat)).bind fun t415 => if t415 = true then (write_within.f k l (j : Int)).bind fun t416 => if t416 = true then write_Legal.l0 k l ((arA l j).take (dep l j).toNat ++ [(rd_T35 l (j : Int)).f2]) l (l.length : Int) ((j + 1 : Nat) : Int) else some false else some false := fun k => by
      have h1 : (rd_T35 l (j : Int)).f0 = dep l j := rfl
      have h2 : (rd_T35 l (j : Int)).f1 = knd l j := rfl
      have hlen : ((arA l j).take (dep l j).toNat).length < 8796093022208 := by rw [List.length_take]; omega
      rw [write_Legal.l0, if_pos (by omega), if_pos (by omega), if_pos (by omega), h1, if_pos hm.1, if_pos hm.2, Option.bind_some, take_mn _ _ hdj.1, clean_is _ (by omega), comment_is _ (by omega), w64n (by omega), h2]
      simp only [Option.bind_some, if_pos hlen]
    have hA1 : (knd l j = 1 ∨ knd l j = 2) → arA l (j + 1) = (arA l j).take (dep l j).toNat := fun h => by
      show stepA (arA l j) _ = _
      unfold stepA
      exact if_pos h
    refine evI hstep ?_
    unfold rowLegal
    by_cases c1 : knd l j = 1
    · rw [if_pos c1]
      cases c3 : cleanB (rd_T35 l (j : Int)).f3 with
      | false => exact Ev.congr (fun k => by rw [if_pos c1, if_neg (by decide)]; rfl) (Ev.now _)
      | true => exact Ev.congr (fun k => by rw [if_pos c1, if_pos rfl, ← hA1 (.inl c1)]) (by rw [Bool.true_and]; exact ih)
    · rw [if_neg c1]
      by_cases c2 : knd l j = 2
      · rw [if_pos c2]
        cases c3 : commentB (rd_T35 l (j : Int)).f3 with
        | false => exact Ev.congr (fun k => by rw [if_neg c1, if_pos c2, if_neg (by decide)]; rfl) (Ev.now _)
        | true => exact Ev.congr (fun k => by rw [if_neg c1, if_pos c2, if_pos rfl, ← hA1 (.inr c2)]) (by rw [Bool.true_and]; exact ih)
      · rw [if_neg c2]
        have hA2 : arA l (j + 1) = (arA l j).take (dep l j).toNat ++ [(rd_T35 l (j : Int)).f2] := by
          show stepA (arA l j) _ = _
          unfold stepA
          exact if_neg (fun h => h.elim c1 c2)
        refine Ev.congr (fun k => by rw [if_neg c1, if_neg c2]) (Ev.bind (element_is _ _ _ _ _ _ hx2 (by omega) hxa) ?_)
        cases c3 : elementB (rd_T35 l (j : Int)).f2 (rd_T35 l (j : Int)).f4 ((arA l j).take (dep l j).toNat) with
        | false => exact Ev.congr (fun k => by rw [if_neg (by decide)]; rfl) (Ev.now _)
        | true =>
          refine Ev.congr (fun k => by rw [if_pos rfl]) (Ev.bind (pwithin_is hs hl hlt) ?_)
          cases c4 : withinB l j with
          | false => exact Ev.congr (fun k => by rw [if_neg (by decide)]; rfl) (Ev.now _)
          | true => exact Ev.congr (fun k => by rw [if_pos rfl, ← hA2]) (by simp only [Bool.true_and]; exact ih)
def legalB (l : List RowT) : Bool := !bigB l && (rightB l && (rowsEq (normT [] l) l && (List.range' 0 l.length).all (rowLegal l)))
theorem legal_is (l : List RowT) (hs : ∀ x ∈ l, RowSmall x) (hl : l.length ≤ 60000) : Ev (fun k => write_Legal.f k l) (legalB l) := by
  have hno : Ev (fun k => write_Legal.j0 k l true) false := evK (fun k => by rw [write_Legal.j0, if_pos rfl])
  have hc := check_is l (by omega) (fun x hx => by have := (hs x hx).2.2.1; omega)
  refine Ev.bind hc ?_
  unfold legalB
  cases h1 : bigB l with
  | true => exact Ev.congr (fun k => by rw [if_pos rfl, if_neg (by decide)]) hno
  | false =>
    cases h2 : rightB l with
    | false => exact Ev.congr (fun k => by rw [if_neg (by decide)]) hno
    | true =>
      refine Ev.congr (f := fun k => write_Legal.j0 k l (!rowsEq (normT [] l) l)) (fun k => ?_) ?_
      · rw [if_pos (by decide), normal_is h2 hs hl, Option.bind_some]; rfl
      · cases h3 : rowsEq (normT [] l) l with
        | false => exact hno
        | true =>
          have := legal_loop h2 hs hl l.length 0 (by omega)
          simp only [Bool.not_false, Bool.not_true, Bool.true_and]
          exact evI (fun k => by rw [write_Legal.j0, if_neg (by decide)]; rfl) this
end Go.Proofs.YtpnhjipaeggcpaaDoor.X
end
section
namespace Go.Proofs.YtpnhjipaeggcpaaDoor.X
open Go.RowKit Go.Proofs.YtpnhjipaeggcpaaDoorW.PrintWords Go.Proofs.YtpnhjipaeggcpaaDoorW.PrintLast Go.Proofs.YtpnhjipaeggcpaaDoorW.PrintMore
def cutRow (x : RowT) : RowT := ⟨x.f0, x.f1, x.f2, x.f3, x.f4.take 6⟩
def bnd (l : List RowT) : List RowT := (l.take 40).map cutRow
theorem cut_mn (x : RowT) : x.f4.take ((mn (x.f4.length : Int) 6 : Int).toNat) = x.f4.take 6 := by
  unfold mn
  split
  · rfl
  · rw [List.take_of_length_le (i := 6) (by omega), List.take_of_length_le (by omega)]
theorem bound_loop (l : List RowT) : ∀ (d j : Nat) (acc : List RowT), j + d = 40 → acc.length ≤ j → Ev (fun k => boltinglaw08_bound.l0 k l acc (j : Int)) (acc ++ ((l.drop j).take d).map cutRow)
  | 0, j, acc, hj, ha => by
    refine evK (fun k => ?_)
    rw [boltinglaw08_bound.l0]
    split
    · rw [if_neg (by omega)]; simp
    · simp
  | d + 1, j, acc, hj, ha => by
    by_cases hlt : j < l.length
    · have ih := bound_loop l d (j + 1) (acc ++ [cutRow l[j]]) (by omega) (by simp; omega)
      rw [List.drop_eq_getElem_cons hlt, List.take_succ_cons, List.map_cons]
      rw [List.append_assoc] at ih
      refine evI (fun k => ?_) ih
      have hm : 0 ≤ mn ((rd_T35 l (j : Int)).f4.length : Int) 6 ∧ mn ((rd_T35 l (j : Int)).f4.length : Int) 6 ≤ ((rd_T35 l (j : Int)).f4.length : Int) := by unfold mn; split <;> omega
      rw [boltinglaw08_bound.l0, if_pos (by omega), if_pos (by omega), if_pos (by omega), if_pos hm.1, if_pos hm.2, if_pos (by omega), cut_mn, rdR_at hlt, w64n (by omega)]
      rfl
    · rw [List.drop_eq_nil_of_le (by omega)]
      refine evK (fun k => ?_)
      rw [boltinglaw08_bound.l0, if_neg (by omega)]
      simp
theorem bound_is (l : List RowT) : Ev (fun k => boltinglaw08_bound.f k l) (bnd l) := by
  have := bound_loop l 40 0 [] rfl (Nat.le_refl _)
  exact this
theorem bnd_length (l : List RowT) : (bnd l).length ≤ 40 := by simp [bnd]; omega
theorem bnd_attrs {l : List RowT} {x : RowT} (h : x ∈ bnd l) : x.f4.length ≤ 6 := by
  unfold bnd at h
  obtain ⟨y, hy, rfl⟩ := List.mem_map.1 h
  simp [cutRow]; omega
theorem bnd_mem {l : List RowT} {x : RowT} (h : x ∈ bnd l) : ∃ y ∈ l, x = cutRow y := by
  unfold bnd at h
  obtain ⟨y, hy, rfl⟩ := List.mem_map.1 h
  exact ⟨y, List.mem_of_mem_take hy, rfl⟩
def StrSmall (x : RowT) : Prop := x.f2.size ≤ 1048576 ∧ x.f3.size ≤ 1048576 ∧ ∀ a ∈ x.f4, a.f0.size ≤ 1048576 ∧ a.f1.size ≤ 1048576
end Go.Proofs.YtpnhjipaeggcpaaDoor.X
end
section
namespace Go.Proofs.YtpnhjipaeggcpaaDoor.X
open Go.RowKit Go.Proofs.YtpnhjipaeggcpaaDoorW.PrintWords Go.Proofs.YtpnhjipaeggcpaaDoorW.PrintLast Go.Proofs.YtpnhjipaeggcpaaDoorW.PrintMore
def fxRow (d k : Int) (n t : ByteArray) (a : List S41) : S35 := ⟨d, k, n, t, a⟩
def fxOne (a b : ByteArray) : List S35 := [fxRow 0 0 a ⟨#[]⟩ [], fxRow 1 1 ⟨#[]⟩ b []]
def boltinglaw08_fixed.f (k : Nat) : Option Bool := some true
theorem fx_rows (t : List S35) (l : List UInt8) (h : ((write_Rows.f t).bind fun x => some x.toList) = some l) : ∃ r, write_Rows.f t = some r ∧ (r.toList == l) = true ∧ (r.toList != l) = false := by
  obtain ⟨r, hr, e⟩ := Option.bind_eq_some_iff.1 h
  cases e
  exact ⟨r, hr, beq_self_eq_true _, by simp⟩
theorem fx_inside (t : List S35) (l : List UInt8) (h : ((write_Inside.f 100 t 0).bind fun x => some x.toList) = some l) : ∃ r, write_Inside.f 100 t 0 = some r ∧ (r.toList == l) = true ∧ (r.toList != l) = false := by
  obtain ⟨r, hr, e⟩ := Option.bind_eq_some_iff.1 h
  cases e
  exact ⟨r, hr, beq_self_eq_true _, by simp⟩
set_option maxHeartbeats 8000000 in
set_option maxRecDepth 100000 in
theorem boltinglaw08_fixed.calls (k : Nat) (r : Bool) (w : World) (h : boltinglaw08_fixed.f k = some r) (hT : WF w := by exact WF.below hT (by repeat (first | (with_reducible first | exact HB.out | apply below_alloc | apply pw_below_drewN | apply below_drew1) | exact HB.out | (refine below_set ?_ (Aside0.out (by assumption)))))) :
    Calls Tryd.prog 8 #[] w fun e w' => e = .returned (.bool r) ∧ Below w.heap.size w w' := by
  cases h
  have hu := Tryd.underlying35
  have hu2 := Tryd.underlying41
  have HB := Aside0.mk (Below.refl w.heap.size w)
  obtain ⟨tP, P0, P1, P2, P3⟩ : ∃ t, boltinglaw08_one.f ⟨#[112]⟩ ⟨#[97, 60, 98]⟩ = some t ∧ write_Legal.f 100 t = some true ∧ (∃ r, write_Rows.f t = some r ∧ (r.toList == [60, 112, 62, 97, 38, 108, 116, 59, 98, 60, 47, 112, 62]) = true ∧ (r.toList != [60, 112, 62, 97, 38, 108, 116, 59, 98, 60, 47, 112, 62]) = false) ∧ (∃ r, write_Inside.f 100 t 0 = some r ∧ (r.toList == [97, 38, 108, 116, 59, 98]) = true ∧ (r.toList != [97, 38, 108, 116, 59, 98]) = false) :=
    ⟨fxOne ⟨#[112]⟩ ⟨#[97, 60, 98]⟩, rfl, by kernel_rfl, fx_rows _ _ (by kernel_rfl), fx_inside _ _ (by kernel_rfl)⟩
  obtain ⟨tS, S0, S1, S2⟩ : ∃ t, boltinglaw08_one.f ⟨#[115, 99, 114, 105, 112, 116]⟩ ⟨#[97, 60, 98]⟩ = some t ∧ write_Legal.f 100 t = some true ∧ (∃ r, write_Rows.f t = some r ∧ (r.toList == [60, 115, 99, 114, 105, 112, 116, 62, 97, 60, 98, 60, 47, 115, 99, 114, 105, 112, 116, 62]) = true ∧ (r.toList != [60, 115, 99, 114, 105, 112, 116, 62, 97, 60, 98, 60, 47, 115, 99, 114, 105, 112, 116, 62]) = false) :=
    ⟨fxOne ⟨#[115, 99, 114, 105, 112, 116]⟩ ⟨#[97, 60, 98]⟩, rfl, by kernel_rfl, fx_rows _ _ (by kernel_rfl)⟩
  obtain ⟨tE, E0, E1⟩ : ∃ t, boltinglaw08_one.f ⟨#[115, 99, 114, 105, 112, 116]⟩ ⟨#[97, 60, 47, 98]⟩ = some t ∧ write_Legal.f 100 t = some false := ⟨fxOne ⟨#[115, 99, 114, 105, 112, 116]⟩ ⟨#[97, 60, 47, 98]⟩, rfl, by kernel_rfl⟩
  obtain ⟨tB, B0, B1⟩ : ∃ t, boltinglaw08_one.f ⟨#[98, 114]⟩ ⟨#[97]⟩ = some t ∧ write_Legal.f 100 t = some false := ⟨fxOne ⟨#[98, 114]⟩ ⟨#[97]⟩, rfl, by kernel_rfl⟩
  obtain ⟨pp, hpp, Q1⟩ : ∃ t : List S35, t = [fxRow 0 0 ⟨#[112]⟩ ⟨#[]⟩ [], fxRow 1 0 ⟨#[112]⟩ ⟨#[]⟩ []] ∧ write_Legal.f 100 t = some false := ⟨_, rfl, by kernel_rfl⟩
  obtain ⟨y, hy⟩ : ∃ y : List S41, y = [⟨⟨#[97]⟩, ⟨#[34]⟩⟩] := ⟨_, rfl⟩
  obtain ⟨z, hz, Z1⟩ : ∃ t : List S35, t = [fxRow 0 0 ⟨#[98, 114]⟩ ⟨#[]⟩ y, fxRow 0 2 ⟨#[]⟩ ⟨#[99]⟩ []] ∧ (∃ r, write_Rows.f t = some r ∧ (r.toList == [60, 98, 114, 32, 97, 61, 34, 38, 113, 117, 111, 116, 59, 34, 62, 60, 33, 45, 45, 99, 45, 45, 62]) = true ∧ (r.toList != [60, 98, 114, 32, 97, 61, 34, 38, 113, 117, 111, 116, 59, 34, 62, 60, 33, 45, 45, 99, 45, 45, 62]) = false) :=
    ⟨_, rfl, by subst hy; exact fx_rows _ _ (by kernel_rfl)⟩
  obtain ⟨rP, P2, b1, b2⟩ := P2
  obtain ⟨iP, P3, b3, b4⟩ := P3
  obtain ⟨rS, S2, b5, b6⟩ := S2
  obtain ⟨rZ, Z1, b7, b8⟩ := Z1
  replace P0 := Aside0.mk P0
  replace P1 := Aside0.mk P1
  replace P2 := Aside0.mk P2
  replace P3 := Aside0.mk P3
  replace S0 := Aside0.mk S0
  replace S1 := Aside0.mk S1
  replace S2 := Aside0.mk S2
  replace E0 := Aside0.mk E0
  replace E1 := Aside0.mk E1
  replace B0 := Aside0.mk B0
  replace B1 := Aside0.mk B1
  replace Q1 := Aside0.mk Q1
  replace Z1 := Aside0.mk Z1
  replace hpp := Aside0.mk hpp
  replace hy := Aside0.mk hy
  replace hz := Aside0.mk hz
  go_enter Tryd.func8, Tryd.ntmps8
  go_wp2_with (first
    | ((with_reducible refine gate_dst (N := 4) rfl ?_); refine Kd.R_lit k35 _ 35 ?hg (N := 4) ?hd (xs := [fxRow 0 0 ⟨#[112]⟩ ⟨#[]⟩ [], fxRow 1 0 ⟨#[112]⟩ ⟨#[]⟩ []]) (inner := [.int .i64 0, .int .i64 0, .string ⟨#[112]⟩, .string ⟨#[]⟩, .slice none 0 0, .int .i64 1, .int .i64 0, .string ⟨#[112]⟩, .string ⟨#[]⟩, .slice none 0 0]) (ok := fun _ => True) (okp := fun _ => True) ?hr ?hp (fun _ hk => hk) trivial (Below.refl _ _) (Nat.le_refl _) (by simp) ?_; (case hd => rfl); (case hg => rfl); (case hr => first | (go_simp; done) | (go_simp; rfl)); (case hp => exact Reps.c5 (k35_mkM _ _ _ (fxRow 0 0 ⟨#[112]⟩ ⟨#[]⟩ []) (Kd.R_nil _ _ _ _ _)) (Reps.c5 (k35_mkM _ _ _ (fxRow 1 0 ⟨#[112]⟩ ⟨#[]⟩ []) (Kd.R_nil _ _ _ _ _)) (Reps.none _ _))); intro v1 w1 ho hb hg_ hn_; clear hg_ hn_; rw [← hpp.out] at ho; obtain ⟨Ap, cp, e, hl, hC⟩ := Kd.R_reads ho; subst e; have HP := Aside0.mk hC; have HPL := Aside0.mk hl; have HB := Aside0.mk (below_step HB.out hb); clear ho hb hl hC)
    | (go_at_call 19; (with_reducible refine (boltinglaw08_one.calls _ _ tP _ P0.out).mono ?_); rintro e wq ⟨v, rfl, ho, hb⟩; obtain ⟨A, c, e, hl, hC⟩ := Kd.S_reads ho; subst e; have HC := Aside0.mk hC; have HL := Aside0.mk hl; have HP := Aside0.mk (Kd.C_below (by (with_reducible repeat (first | refine Kd.C_alloc ?_ _ | refine Kd.C_drewN ?_ _ | refine Kd.C_drew ?_)); exact HP.out) hb); have HB := Aside0.mk (below_step (by repeat (first | (with_reducible first | exact HB.out | apply below_alloc | apply pw_below_drewN | apply below_drew1) | exact HB.out)) hb); clear hl hC ho hb)
    | (go_at_call 19; (with_reducible refine (boltinglaw08_one.calls _ _ tS _ S0.out).mono ?_); rintro e wq ⟨v, rfl, ho, hb⟩; obtain ⟨A, c, e, hl, hC⟩ := Kd.S_reads ho; subst e; have HC := Aside0.mk hC; have HL := Aside0.mk hl; have HP := Aside0.mk (Kd.C_below (by (with_reducible repeat (first | refine Kd.C_alloc ?_ _ | refine Kd.C_drewN ?_ _ | refine Kd.C_drew ?_)); exact HP.out) hb); have HB := Aside0.mk (below_step (by repeat (first | (with_reducible first | exact HB.out | apply below_alloc | apply pw_below_drewN | apply below_drew1) | exact HB.out)) hb); clear hl hC ho hb)
    | (go_at_call 19; (with_reducible refine (boltinglaw08_one.calls _ _ tE _ E0.out).mono ?_); rintro e wq ⟨v, rfl, ho, hb⟩; obtain ⟨A, c, e, hl, hC⟩ := Kd.S_reads ho; subst e; have HC := Aside0.mk hC; have HL := Aside0.mk hl; have HP := Aside0.mk (Kd.C_below (by (with_reducible repeat (first | refine Kd.C_alloc ?_ _ | refine Kd.C_drewN ?_ _ | refine Kd.C_drew ?_)); exact HP.out) hb); have HB := Aside0.mk (below_step (by repeat (first | (with_reducible first | exact HB.out | apply below_alloc | apply pw_below_drewN | apply below_drew1) | exact HB.out)) hb); clear hl hC ho hb)
    | (go_at_call 19; (with_reducible refine (boltinglaw08_one.calls _ _ tB _ B0.out).mono ?_); rintro e wq ⟨v, rfl, ho, hb⟩; obtain ⟨A, c, e, hl, hC⟩ := Kd.S_reads ho; subst e; have HC := Aside0.mk hC; have HL := Aside0.mk hl; have HP := Aside0.mk (Kd.C_below (by (with_reducible repeat (first | refine Kd.C_alloc ?_ _ | refine Kd.C_drewN ?_ _ | refine Kd.C_drew ?_)); exact HP.out) hb); have HB := Aside0.mk (below_step (by repeat (first | (with_reducible first | exact HB.out | apply below_alloc | apply pw_below_drewN | apply below_drew1) | exact HB.out)) hb); clear hl hC ho hb)
    | (go_at_call 9; (with_reducible refine (write_Rows.calls _ _ tP rP _ ?s1 HL.out P2.out).mono ?_); (case s1 => exact (by (with_reducible repeat (first | refine Kd.C_alloc ?_ _ | refine Kd.C_drewN ?_ _ | refine Kd.C_drew ?_)); exact HC.out)); rintro e wq ⟨rfl, hb⟩; have HP := Aside0.mk (Kd.C_below (by (with_reducible repeat (first | refine Kd.C_alloc ?_ _ | refine Kd.C_drewN ?_ _ | refine Kd.C_drew ?_)); exact HP.out) hb); have HB := Aside0.mk (below_step (by repeat (first | (with_reducible first | exact HB.out | apply below_alloc | apply pw_below_drewN | apply below_drew1) | exact HB.out)) hb); clear hb)
    | (go_at_call 9; (with_reducible refine (write_Rows.calls _ _ tS rS _ ?s1 HL.out S2.out).mono ?_); (case s1 => exact (by (with_reducible repeat (first | refine Kd.C_alloc ?_ _ | refine Kd.C_drewN ?_ _ | refine Kd.C_drew ?_)); exact HC.out)); rintro e wq ⟨rfl, hb⟩; have HP := Aside0.mk (Kd.C_below (by (with_reducible repeat (first | refine Kd.C_alloc ?_ _ | refine Kd.C_drewN ?_ _ | refine Kd.C_drew ?_)); exact HP.out) hb); have HB := Aside0.mk (below_step (by repeat (first | (with_reducible first | exact HB.out | apply below_alloc | apply pw_below_drewN | apply below_drew1) | exact HB.out)) hb); clear hb)
    | (go_at_call 9; (with_reducible refine (write_Rows.calls _ _ z rZ _ ?s1 HL.out Z1.out).mono ?_); (case s1 => exact (by (with_reducible repeat (first | refine Kd.C_alloc ?_ _ | refine Kd.C_drewN ?_ _ | refine Kd.C_drew ?_)); exact HC.out)); rintro e wq ⟨rfl, hb⟩; have HP := Aside0.mk (Kd.C_below (by (with_reducible repeat (first | refine Kd.C_alloc ?_ _ | refine Kd.C_drewN ?_ _ | refine Kd.C_drew ?_)); exact HP.out) hb); have HB := Aside0.mk (below_step (by repeat (first | (with_reducible first | exact HB.out | apply below_alloc | apply pw_below_drewN | apply below_drew1) | exact HB.out)) hb); clear hb)
    | (go_at_call 11; (with_reducible refine (write_Inside.calls 100 _ _ tP 0 iP _ ?s1 HL.out P3.out).mono ?_); (case s1 => exact (by (with_reducible repeat (first | refine Kd.C_alloc ?_ _ | refine Kd.C_drewN ?_ _ | refine Kd.C_drew ?_)); exact HC.out)); rintro e wq ⟨rfl, hb⟩; have HP := Aside0.mk (Kd.C_below (by (with_reducible repeat (first | refine Kd.C_alloc ?_ _ | refine Kd.C_drewN ?_ _ | refine Kd.C_drew ?_)); exact HP.out) hb); have HB := Aside0.mk (below_step (by repeat (first | (with_reducible first | exact HB.out | apply below_alloc | apply pw_below_drewN | apply below_drew1) | exact HB.out)) hb); clear hb)
    | ((with_reducible refine gate_dst (N := 20) rfl ?_); (try (refine gate_guard (by rfl) ?_; dsimp only)); refine Kd.R_lit k41 _ 41 ?hg (N := 20) ?hd (xs := [⟨⟨#[97]⟩, ⟨#[34]⟩⟩]) (inner := [.string ⟨#[97]⟩, .string ⟨#[34]⟩]) (ok := fun _ => True) (okp := fun _ => True) ?hr ?hp (fun _ hk => hk) trivial (Below.refl _ _) (Nat.le_refl _) (by simp) ?_; (case hd => rfl); (case hg => rfl); (case hr => first | (go_simp; done) | (go_simp; rfl)); (case hp => exact Reps.c2 (k41_mkM _ _ _ ⟨⟨#[97]⟩, ⟨#[34]⟩⟩) (Reps.none _ _)); intro v1 w1 ho hb hg_ hn_; clear hg_ hn_; rw [← hy.out] at ho; obtain ⟨Ay, cy, e, hl, hC⟩ := Kd.R_reads ho; subst e; have HY := Aside0.mk hC; have HYL := Aside0.mk hl; have HP := Aside0.mk (Kd.C_below (by (with_reducible repeat (first | refine Kd.C_alloc ?_ _ | refine Kd.C_drewN ?_ _ | refine Kd.C_drew ?_)); exact HP.out) hb); have HB := Aside0.mk (below_step (by repeat (first | (with_reducible first | exact HB.out | apply below_alloc | apply pw_below_drewN | apply below_drew1) | exact HB.out)) hb); clear ho hb hl hC)
    | ((with_reducible refine gate_dst (N := 23) rfl ?_); (try (refine gate_guard (by rfl) ?_; dsimp only)); refine Kd.N_lit k35 _ 35 ?hg (N' := 23) ?hd (xs := [fxRow 0 0 ⟨#[98, 114]⟩ ⟨#[]⟩ y, fxRow 0 2 ⟨#[]⟩ ⟨#[99]⟩ []]) (inner := [.int .i64 0, .int .i64 0, .string ⟨#[98, 114]⟩, .string ⟨#[]⟩, .slice Ay y.length cy, .int .i64 0, .int .i64 2, .string ⟨#[]⟩, .string ⟨#[99]⟩, .slice none 0 0]) (ok := fun _ => True) (okp := fun _ => True) ?hr ?hp (fun _ hk => hk) trivial (Below.refl _ _) (Nat.le_refl _) (by simp) ?_; (case hd => rfl); (case hg => rfl); (case hr => first | (go_simp; done) | (go_simp; rfl)); (case hp => exact Reps.c5 (k35_mkF _ _ (fxRow 0 0 ⟨#[98, 114]⟩ ⟨#[]⟩ y) HYL.out (Kd.F_mono (Kd.C_F k41_heap (by (with_reducible repeat (first | refine Kd.C_alloc ?_ _ | refine Kd.C_drewN ?_ _ | refine Kd.C_drew ?_)); exact HY.out)) (fun _ _ => trivial))) (Reps.c5 (k35_mkF _ _ (fxRow 0 2 ⟨#[]⟩ ⟨#[99]⟩ []) (Nat.le_refl _) (Kd.F_nil _ _ _)) (Reps.none _ _))); intro v1 w1 ho hb hg_ hn_; clear hg_ hn_; rw [← hz.out] at ho; obtain ⟨A, c, e, hl, hC⟩ := Kd.N_reads ho; subst e; have HC := Aside0.mk hC; have HL := Aside0.mk hl; have HP := Aside0.mk (Kd.C_below (by (with_reducible repeat (first | refine Kd.C_alloc ?_ _ | refine Kd.C_drewN ?_ _ | refine Kd.C_drew ?_)); exact HP.out) hb); have HB := Aside0.mk (below_step (by repeat (first | (with_reducible first | exact HB.out | apply below_alloc | apply pw_below_drewN | apply below_drew1) | exact HB.out)) hb); clear ho hb hl hC)
    | (go_at_call 16; (with_reducible refine (write_Legal.calls 100 _ _ tP true _ ?s1 HL.out P1.out).mono ?_); (case s1 => exact (by (with_reducible repeat (first | refine Kd.C_alloc ?_ _ | refine Kd.C_drewN ?_ _ | refine Kd.C_drew ?_)); exact HC.out)); rintro e wq ⟨rfl, hb⟩; have HP := Aside0.mk (Kd.C_below (by (with_reducible repeat (first | refine Kd.C_alloc ?_ _ | refine Kd.C_drewN ?_ _ | refine Kd.C_drew ?_)); exact HP.out) hb); have HB := Aside0.mk (below_step (by repeat (first | (with_reducible first | exact HB.out | apply below_alloc | apply pw_below_drewN | apply below_drew1) | exact HB.out)) hb); clear hb)
    | (go_at_call 16; (with_reducible refine (write_Legal.calls 100 _ _ tS true _ ?s1 HL.out S1.out).mono ?_); (case s1 => exact (by (with_reducible repeat (first | refine Kd.C_alloc ?_ _ | refine Kd.C_drewN ?_ _ | refine Kd.C_drew ?_)); exact HC.out)); rintro e wq ⟨rfl, hb⟩; have HP := Aside0.mk (Kd.C_below (by (with_reducible repeat (first | refine Kd.C_alloc ?_ _ | refine Kd.C_drewN ?_ _ | refine Kd.C_drew ?_)); exact HP.out) hb); have HB := Aside0.mk (below_step (by repeat (first | (with_reducible first | exact HB.out | apply below_alloc | apply pw_below_drewN | apply below_drew1) | exact HB.out)) hb); clear hb)
    | (go_at_call 16; (with_reducible refine (write_Legal.calls 100 _ _ tE false _ ?s1 HL.out E1.out).mono ?_); (case s1 => exact (by (with_reducible repeat (first | refine Kd.C_alloc ?_ _ | refine Kd.C_drewN ?_ _ | refine Kd.C_drew ?_)); exact HC.out)); rintro e wq ⟨rfl, hb⟩; have HP := Aside0.mk (Kd.C_below (by (with_reducible repeat (first | refine Kd.C_alloc ?_ _ | refine Kd.C_drewN ?_ _ | refine Kd.C_drew ?_)); exact HP.out) hb); have HB := Aside0.mk (below_step (by repeat (first | (with_reducible first | exact HB.out | apply below_alloc | apply pw_below_drewN | apply below_drew1) | exact HB.out)) hb); clear hb)
    | (go_at_call 16; (with_reducible refine (write_Legal.calls 100 _ _ tB false _ ?s1 HL.out B1.out).mono ?_); (case s1 => exact (by (with_reducible repeat (first | refine Kd.C_alloc ?_ _ | refine Kd.C_drewN ?_ _ | refine Kd.C_drew ?_)); exact HC.out)); rintro e wq ⟨rfl, hb⟩; have HP := Aside0.mk (Kd.C_below (by (with_reducible repeat (first | refine Kd.C_alloc ?_ _ | refine Kd.C_drewN ?_ _ | refine Kd.C_drew ?_)); exact HP.out) hb); have HB := Aside0.mk (below_step (by repeat (first | (with_reducible first | exact HB.out | apply below_alloc | apply pw_below_drewN | apply below_drew1) | exact HB.out)) hb); clear hb)
    | (go_at_call 16; (with_reducible refine (write_Legal.calls 100 _ _ pp false _ ?s1 HPL.out Q1.out).mono ?_); (case s1 => exact (by (with_reducible repeat (first | refine Kd.C_alloc ?_ _ | refine Kd.C_drewN ?_ _ | refine Kd.C_drew ?_)); exact HP.out)); rintro e wq ⟨rfl, hb⟩; have HP := Aside0.mk (Kd.C_below (by (with_reducible repeat (first | refine Kd.C_alloc ?_ _ | refine Kd.C_drewN ?_ _ | refine Kd.C_drew ?_)); exact HP.out) hb); have HB := Aside0.mk (below_step (by repeat (first | (with_reducible first | exact HB.out | apply below_alloc | apply pw_below_drewN | apply below_drew1) | exact HB.out)) hb); clear hb))
  go_ret
  exact ⟨rfl, (by repeat (first | (with_reducible first | exact HB.out | apply below_alloc | apply pw_below_drewN | apply below_drew1) | exact HB.out))⟩
end Go.Proofs.YtpnhjipaeggcpaaDoor.X
end
section
namespace Go.Proofs.YtpnhjipaeggcpaaDoor.X
open Go.RowKit Go.Proofs.YtpnhjipaeggcpaaDoorW.PrintWords Go.Proofs.YtpnhjipaeggcpaaDoorW.PrintLast Go.Proofs.YtpnhjipaeggcpaaDoorW.PrintMore
attribute [local go_sem] max2_int min2_int max_two min_two max_three min_three max_four min_four
def boltinglaw08_WriteTwo.j0 : Nat → List (S35) → List (S35) → Bool → Option (Bool)
 | 0, _, _, _ => none
 | k + 1, x0, x1, x17 => if x17 = true then ((boltinglaw08_fixed.f k).bind fun t437 => (some t437)) else ((boltingref04_Join.f k x0 (([(⟨0, 0, (⟨#[105]⟩ : ByteArray), (⟨#[]⟩ : ByteArray), ([] : List (S41))⟩ : S35)] : List (S35)))).bind fun t441 => ((boltingref04_Join.f k t441 x1).bind fun t444 => ((write_Legal.f k t444).bind fun t447 => (if t447 = true then ((write_Rows.f t444).bind fun t448 => ((write_Rows.f x0).bind fun t449 => (if t449.size + 7 ≤ 9223372036854775807 then ((write_Rows.f x1).bind fun t450 => (if (t449 ++ (⟨#[60, 105, 62, 60, 47, 105, 62]⟩ : ByteArray)).size + t450.size ≤ 9223372036854775807 then (if t448.toList = ((t449 ++ (⟨#[60, 105, 62, 60, 47, 105, 62]⟩ : ByteArray)) ++ t450).toList then ((boltinglaw08_fixed.f k).bind fun t451 => (some t451)) else (some false)) else (none))) else (none)))) else (some false)))))
def boltinglaw08_WriteTwo.f (k : Nat) (l0 : List (S35)) (l1 : List (S35)) : Option (Bool) := (boltinglaw08_bound.f k l0).bind fun t429 => ((boltinglaw08_bound.f k l1).bind fun t432 => ((write_Legal.f k t429).bind fun t435 => (if t435 = true then ((write_Legal.f k t432).bind fun t436 => (boltinglaw08_WriteTwo.j0 k t429 t432 (!t436))) else (boltinglaw08_WriteTwo.j0 k t429 t432 true))))
set_option maxHeartbeats 8000000 in
set_option maxRecDepth 100000 in
theorem boltinglaw08_WriteTwo.calls (k : Nat) (A0 : Option Addr) (c0 : Nat) (l0 : List (S35)) (A1 : Option Addr) (c1 : Nat) (l1 : List (S35)) (r : Bool) (w : World) (hr0 : Kd.C k35 w A0 l0.length l0) (hc0 : l0.length ≤ c0) (hr1 : Kd.C k35 w A1 l1.length l1) (hc1 : l1.length ≤ c1) (h : boltinglaw08_WriteTwo.f k l0 l1 = some r) (hT : WF w := by exact WF.below hT y22_) :
  Calls Tryd.prog 5 #[.slice A0 l0.length c0, .slice A1 l1.length c1] w fun e w' => e = .returned (.bool r) ∧ Below w.heap.size w w' := by
 have hu35 := Tryd.underlying35
 have HR0 := Aside0.mk hr0
 have HC0 := Aside0.mk hc0
 clear hr0 hc0
 have HR1 := Aside0.mk hr1
 have HC1 := Aside0.mk hc1
 clear hr1 hc1
 have HB := Aside0.mk (Below.refl w.heap.size w)
 have H : ((boltinglaw08_bound.f k l0).bind fun t429 => ((boltinglaw08_bound.f k l1).bind fun t432 => ((write_Legal.f k t429).bind fun t435 => (if t435 = true then ((write_Legal.f k t432).bind fun t436 => (boltinglaw08_WriteTwo.j0 k t429 t432 (!t436))) else (boltinglaw08_WriteTwo.j0 k t429 t432 true))))) = some r := h
 clear h
 replace H := Option.bind_eq_some_iff.mp H
 obtain ⟨t429, A30, H⟩ := H
 have A3 := Aside0.mk A30
 clear A30
 replace H := Option.bind_eq_some_iff.mp H
 obtain ⟨t432, A40, H⟩ := H
 have A4 := Aside0.mk A40
 clear A40
 have HC5 := Aside0.mk H
 clear H
 go_enter Tryd.func5, Tryd.ntmps5
 go_upto_region 3 with (first | ((with_reducible refine gate_callee (f := 6) rfl ?_); refine goesL_ (some 7) rfl rfl Tryd.func6 (by kernel_rfl) rfl #[.slice A0 l0.length c0] rfl y15_ ?_; (with_reducible refine (boltinglaw08_bound.calls k (fun k_ => k_ < w.heap.size) _ _ l0 t429 _ ?side1 A3.out).mono ?_); (case side1 => exact Kd.V_mk HC0.out (Kd.F_below (Kd.C_F k35_heap HR0.out) y14_)); rintro e w6 ⟨v430, rfl, ho0, hb⟩; refine ⟨_, rfl, ?_⟩; have n0_ := Aside0.mk (Kd.N_lower (Kd.N_mono (ok' := fun k_ => True) ho0 (fun k_ hk_ => trivial)) (below_size y14_)); have n1_ := Aside0.mk (below_step y14_ hb); clear HB; have HO431 := n0_; have HB := n1_; clear n0_ n1_; (try clear hb); (try clear hb2); (try clear hk); (try clear hi); (try clear ho0)) | ((with_reducible refine gate_callee (f := 6) rfl ?_); refine goesL_ (some 9) rfl rfl Tryd.func6 (by kernel_rfl) rfl #[.slice A1 l1.length c1] rfl y15_ ?_; (with_reducible refine (boltinglaw08_bound.calls k (fun k_ => k_ < w.heap.size) _ _ l1 t432 _ ?side1 A4.out).mono ?_); (case side1 => exact Kd.V_mk HC1.out (Kd.F_below (Kd.C_F k35_heap HR1.out) y14_)); rintro e w7 ⟨v433, rfl, ho0, hb⟩; refine ⟨_, rfl, ?_⟩; have n0_ := Aside0.mk (Kd.N_elder' (y11_ HO431.out) y4_ hb); have n1_ := Aside0.mk (Kd.N_lower (Kd.N_mono (ok' := fun k_ => some k_ ≠ (v430 : Value).ownBlock) ho0 (fun k_ hk_ => Or.elim hk_ (fun hs_ => fun e_ => Nat.not_le.2 hs_ (Kd.N_base HO431.out k_ e_.symm)) (fun hn_ => (Kd.fresh' (Kd.N_lt (y11_ HO431.out)) k_ hn_)))) (below_size y14_)); have n2_ := Aside0.mk (below_step y14_ hb); clear HO431; clear HB; have HO431 := n0_; have HO434 := n1_; have HB := n2_; clear n0_ n1_ n2_; (try clear hb); (try clear hb2); (try clear hk); (try clear hi); (try clear ho0)))
 (try simp only [Act.put, List.setIfInBounds_toArray, List.set_cons_zero, List.set_cons_succ])
 go_cut [17] (fun v17 wc => ∃ (kq : Nat) (x17_4 : Bool), v17 = .bool x17_4 ∧ Aside0 (boltinglaw08_WriteTwo.j0 kq t429 t432 x17_4 = some r) ∧ Aside0 (kq ≤ k) ∧ Aside0 (Kd.N k35 35 wc w.heap.size (fun k_ => some k_ ≠ (v433 : Value).ownBlock) v430 t429) ∧ Aside0 (Kd.N k35 35 wc w.heap.size (fun k_ => some k_ ≠ (v430 : Value).ownBlock) v433 t432) ∧ Aside0 (Below w.heap.size w wc))
 case first =>
  have H := HC5.out
  clear HC5
  replace H := Option.bind_eq_some_iff.mp H
  obtain ⟨t435, A80, H⟩ := H
  have A8 := Aside0.mk A80
  clear A80
  by_cases c9 : t435 = true
  ·subst c9
   rw [if_pos rfl] at H
   replace H := Option.bind_eq_some_iff.mp H
   obtain ⟨t436, A100, H⟩ := H
   have A10 := Aside0.mk A100
   clear A100
   have H' := Aside0.mk H
   clear H
   obtain ⟨Ao11, co11, eo11⟩ := Kd.N_slice HO431.out
   subst eo11
   go_wp2_with (first | ((with_reducible refine gate_callee (f := 16) rfl ?_); refine goesL_ (some 11) rfl rfl Tryd.func16 (by kernel_rfl) rfl #[.slice Ao11 t429.length co11] rfl y15_ ?_; (with_reducible refine (write_Legal.calls k _ _ t429 true _ ?side1 ?side2 A8.out).mono ?_); (case side1 => repeat (first | exact (Kd.N_reads' HO431.out).2.2 | (with_reducible refine Kd.C_alloc ?_ _) | (with_reducible refine Kd.C_drewN ?_ _) | (with_reducible refine Kd.C_drew ?_))); (case side2 => exact (Kd.N_reads' HO431.out).2.1); rintro e w12 ⟨rfl, hb⟩; refine ⟨_, rfl, ?_⟩; have n0_ := Aside0.mk (Kd.N_below (y11_ HO431.out) hb); have n1_ := Aside0.mk (Kd.N_below (y11_ HO434.out) hb); have n2_ := Aside0.mk (below_step y14_ hb); clear HO431; clear HO434; clear HB; have HO431 := n0_; have HO434 := n1_; have HB := n2_; clear n0_ n1_ n2_; (try clear hb); (try clear hb2); (try clear hk); (try clear hi); obtain ⟨Ao13, co13, eo13⟩ := Kd.N_slice HO434.out; subst eo13) | (go_at_call 16; (with_reducible refine (write_Legal.calls k _ _ t432 t436 _ ?side1 ?side2 A10.out).mono ?_); (case side1 => repeat (first | exact (Kd.N_reads' HO434.out).2.2 | (with_reducible refine Kd.C_alloc ?_ _) | (with_reducible refine Kd.C_drewN ?_ _) | (with_reducible refine Kd.C_drew ?_))); (case side2 => exact (Kd.N_reads' HO434.out).2.1); rintro e w14 ⟨rfl, hb⟩; have n0_ := Aside0.mk (Kd.N_below (y11_ HO431.out) hb); have n1_ := Aside0.mk (Kd.N_below (y11_ HO434.out) hb); have n2_ := Aside0.mk (below_step y14_ hb); clear HO431; clear HO434; clear HB; have HO431 := n0_; have HO434 := n1_; have HB := n2_; clear n0_ n1_ n2_; (try clear hb); (try clear hb2); (try clear hk); (try clear hi)))
   go_meet
   case rel => exact ⟨_, (!t436), y5_, H', ⟨y1_⟩, ⟨by (with_reducible repeat (first | apply Kd.N_alloc | apply Kd.N_drewN | apply Kd.N_drew)); exact Kd.N_mono HO431.out (fun _ hk => hk.2)⟩, ⟨by (with_reducible repeat (first | apply Kd.N_alloc | apply Kd.N_drewN | apply Kd.N_drew)); exact HO434.out⟩, ⟨y14_⟩⟩
  ·replace c9 := Bool.eq_false_iff.mpr c9
   subst c9
   rw [if_neg (show ¬ (false = true) by decide)] at H
   have H' := Aside0.mk H
   clear H
   obtain ⟨Ao15, co15, eo15⟩ := Kd.N_slice HO431.out
   subst eo15
   go_wp2_with (first | ((with_reducible refine gate_callee (f := 16) rfl ?_); refine goesL_ (some 11) rfl rfl Tryd.func16 (by kernel_rfl) rfl #[.slice Ao15 t429.length co15] rfl y15_ ?_; (with_reducible refine (write_Legal.calls k _ _ t429 false _ ?side1 ?side2 A8.out).mono ?_); (case side1 => repeat (first | exact (Kd.N_reads' HO431.out).2.2 | (with_reducible refine Kd.C_alloc ?_ _) | (with_reducible refine Kd.C_drewN ?_ _) | (with_reducible refine Kd.C_drew ?_))); (case side2 => exact (Kd.N_reads' HO431.out).2.1); rintro e w16 ⟨rfl, hb⟩; refine ⟨_, rfl, ?_⟩; have n0_ := Aside0.mk (Kd.N_below (y11_ HO431.out) hb); have n1_ := Aside0.mk (Kd.N_below (y11_ HO434.out) hb); have n2_ := Aside0.mk (below_step y14_ hb); clear HO431; clear HO434; clear HB; have HO431 := n0_; have HO434 := n1_; have HB := n2_; clear n0_ n1_ n2_; (try clear hb); (try clear hb2); (try clear hk); (try clear hi)))
   go_meet
   case rel => exact ⟨_, (true), y5_, H', ⟨y1_⟩, ⟨by (with_reducible repeat (first | apply Kd.N_alloc | apply Kd.N_drewN | apply Kd.N_drew)); exact Kd.N_mono HO431.out (fun _ hk => hk.2)⟩, ⟨by (with_reducible repeat (first | apply Kd.N_alloc | apply Kd.N_drewN | apply Kd.N_drew)); exact HO434.out⟩, ⟨y14_⟩⟩
 case rest =>
  clear HC5
  try clear c1
  try clear p2
  try clear c5
  try clear c6
  try clear c9
  try clear c16
  obtain ⟨kq, x17_4, rfl, HA, HJ4, HO_0, HO_1, HB⟩ := hcut
  cases kq with
  | zero => exact absurd HA.out (by simp [boltinglaw08_WriteTwo.j0])
  | succ kj4 =>
   have H := HA.out
   clear HA
   simp only [boltinglaw08_WriteTwo.j0] at H
   by_cases c17 : x17_4 = true
   ·subst c17
    rw [if_pos rfl] at H
    replace H := Option.bind_eq_some_iff.mp H
    obtain ⟨t437, A180, H⟩ := H
    have A18 := Aside0.mk A180
    clear A180
    obtain rfl := Option.some.inj H
    go_wp2_with (first | ((with_reducible refine gate_callee (f := 8) rfl ?_); refine goesL_ (some 18) rfl rfl Tryd.func8 (by kernel_rfl) rfl #[] rfl y15_ ?_; (with_reducible refine (boltinglaw08_fixed.calls kj4  t437 _ A18.out).mono ?_); rintro e w19 ⟨rfl, hb⟩; refine ⟨_, rfl, ?_⟩; have n0_ := Aside0.mk (Kd.N_below (y11_ HO_0.out) hb); have n1_ := Aside0.mk (Kd.N_below (y11_ HO_1.out) hb); have n2_ := Aside0.mk (below_step y14_ hb); clear HO_0; clear HO_1; clear HB; have HO_0 := n0_; have HO_1 := n1_; have HB := n2_; clear n0_ n1_ n2_; (try clear hb); (try clear hb2); (try clear hk); (try clear hi)))
    go_ret
    exact ⟨y13_, y14_⟩
   ·replace c17 := Bool.eq_false_iff.mpr c17
    subst c17
    rw [if_neg (show ¬ (false = true) by decide)] at H
    obtain ⟨y438, hy438⟩ : ∃ y_ : List (S35), y_ = (([(⟨0, 0, (⟨#[105]⟩ : ByteArray), (⟨#[]⟩ : ByteArray), ([] : List (S41))⟩ : S35)] : List (S35))) := ⟨_, rfl⟩
    replace H : ((boltingref04_Join.f kj4 t429 y438).bind fun t441 => ((boltingref04_Join.f kj4 t441 t432).bind fun t444 => ((write_Legal.f kj4 t444).bind fun t447 => (if t447 = true then ((write_Rows.f t444).bind fun t448 => ((write_Rows.f t429).bind fun t449 => (if t449.size + 7 ≤ 9223372036854775807 then ((write_Rows.f t432).bind fun t450 => (if (t449 ++ (⟨#[60, 105, 62, 60, 47, 105, 62]⟩ : ByteArray)).size + t450.size ≤ 9223372036854775807 then (if t448.toList = ((t449 ++ (⟨#[60, 105, 62, 60, 47, 105, 62]⟩ : ByteArray)) ++ t450).toList then ((boltinglaw08_fixed.f kj4).bind fun t451 => (some t451)) else (some false)) else (none))) else (none)))) else (some false))))) = some r := by first | (rw [hy438]; with_reducible exact H) | (have H2_ := (Option.bind_some _ _).symm.trans H; rw [hy438]; with_reducible exact H2_) | (have H2_ := (Option.bind_some _ _).symm.trans H; with_reducible exact H2_) | with_reducible exact H | (rw [hy438]; exact H) | exact H
    have Ny438 := Aside0.mk hy438
    clear hy438
    replace H := Option.bind_eq_some_iff.mp H
    obtain ⟨t441, A200, H⟩ := H
    have A20 := Aside0.mk A200
    clear A200
    replace H := Option.bind_eq_some_iff.mp H
    obtain ⟨t444, A210, H⟩ := H
    have A21 := Aside0.mk A210
    clear A210
    replace H := Option.bind_eq_some_iff.mp H
    obtain ⟨t447, A220, H⟩ := H
    have A22 := Aside0.mk A220
    clear A220
    by_cases c23 : t447 = true
    ·subst c23
     rw [if_pos rfl] at H
     replace H := Option.bind_eq_some_iff.mp H
     obtain ⟨t448, A240, H⟩ := H
     have A24 := Aside0.mk A240
     clear A240
     replace H := Option.bind_eq_some_iff.mp H
     obtain ⟨t449, A250, H⟩ := H
     have A25 := Aside0.mk A250
     clear A250
     by_cases c26 : t449.size + 7 ≤ 9223372036854775807
     rotate_left
     ·rw [if_neg c26] at H
      exact absurd H (by simp)
     rw [if_pos c26] at H
     have c26b0 := eq_true c26
     have c26b1 : decide (t449.size + 7 ≤ 9223372036854775807) = true := decide_eq_true c26
     try have c26b2 : (9223372036854775807 < t449.size + 7) = False := eq_false (Nat.not_lt.2 c26)
     replace H := Option.bind_eq_some_iff.mp H
     obtain ⟨t450, A270, H⟩ := H
     have A27 := Aside0.mk A270
     clear A270
     by_cases c28 : (t449 ++ (⟨#[60, 105, 62, 60, 47, 105, 62]⟩ : ByteArray)).size + t450.size ≤ 9223372036854775807
     rotate_left
     ·rw [if_neg c28] at H
      exact absurd H (by simp)
     rw [if_pos c28] at H
     have c28b0 := eq_true c28
     have c28b1 : decide ((t449 ++ (⟨#[60, 105, 62, 60, 47, 105, 62]⟩ : ByteArray)).size + t450.size ≤ 9223372036854775807) = true := decide_eq_true c28
     try have c28b2 : (9223372036854775807 < (t449 ++ (⟨#[60, 105, 62, 60, 47, 105, 62]⟩ : ByteArray)).size + t450.size) = False := eq_false (Nat.not_lt.2 c28)
     try (have c28p_ := c28b2; simp only [ByteArray.size_append, lit_size, List.length_cons, List.length_nil, Nat.reduceAdd, Nat.zero_add] at c28p_)
     by_cases c29 : t448.toList = ((t449 ++ (⟨#[60, 105, 62, 60, 47, 105, 62]⟩ : ByteArray)) ++ t450).toList
     ·rw [if_pos c29] at H
      have c29b0 : (t448.toList == ((t449 ++ (⟨#[60, 105, 62, 60, 47, 105, 62]⟩ : ByteArray)) ++ t450).toList) = true := beq_iff_eq.mpr c29
      have c29b1 : (t448.toList != ((t449 ++ (⟨#[60, 105, 62, 60, 47, 105, 62]⟩ : ByteArray)) ++ t450).toList) = false := bne_eq_false_iff_eq.mpr c29
      clear c29
      replace H := Option.bind_eq_some_iff.mp H
      obtain ⟨t451, A300, H⟩ := H
      have A30 := Aside0.mk A300
      clear A300
      obtain rfl := Option.some.inj H
      go_wp2_with (first | ((with_reducible refine gate_dst (N := 21) rfl ?_); refine Kd.N_lit k35 _ 35 ?hg (N' := 21) ?hd (xs := ([(⟨0, 0, (⟨#[105]⟩ : ByteArray), (⟨#[]⟩ : ByteArray), ([] : List (S41))⟩ : S35)] : List (S35))) (inner := [.int .i64 0, .int .i64 0, .string (⟨#[105]⟩ : ByteArray), .string (⟨#[]⟩ : ByteArray), .slice none 0 0]) (ok := (fun k_ => some k_ ≠ (v430 : Value).ownBlock ∧ some k_ ≠ (v433 : Value).ownBlock)) (okp := (fun k_ => some k_ ≠ (v430 : Value).ownBlock ∧ some k_ ≠ (v433 : Value).ownBlock)) ?hr ?hp (fun _ hk => hk) ((show ∀ k_, wc.heap.size ≤ k_ → (fun k_ => some k_ ≠ (v430 : Value).ownBlock ∧ some k_ ≠ (v433 : Value).ownBlock) k_ from fun k_ hk => ⟨Kd.fresh' (Kd.N_lt (y11_ HO_0.out)) k_ hk, Kd.fresh' (Kd.N_lt (y11_ HO_1.out)) k_ hk⟩) _ (Nat.le_refl _)) (Below.refl _ _) (Nat.le_refl _) (by simp) ?_; (case hd => rfl); (case hg => rfl); (case hr => first | (go_simp; done) | (go_simp; rfl)); (case hp => exact (Reps.c5 (show Kd.FK k35 _ _ (⟨0, 0, (⟨#[105]⟩ : ByteArray), (⟨#[]⟩ : ByteArray), ([] : List (S41))⟩ : S35) [.int .i64 0, .int .i64 0, .string (⟨#[105]⟩ : ByteArray), .string (⟨#[]⟩ : ByteArray), .slice none 0 0] from (k35_mkF _ _ (⟨0, 0, (⟨#[105]⟩ : ByteArray), (⟨#[]⟩ : ByteArray), ([] : List (S41))⟩ : S35) (Nat.le_refl _) (Kd.F_nil _ _ _))) (Reps.none _ _))); intro v439 w31 ho32 hb hg_ hnew_; clear hg_ hnew_; (first | rw [← Ny438.out] at ho32 | (simp only [Int.reduceToNat] at ho32; rw [← Ny438.out] at ho32)); have n0_ := Aside0.mk (Kd.N_elder' (y11_ HO_0.out) (Kd.N_base ho32) hb); have n1_ := Aside0.mk (Kd.N_elder' (y11_ HO_1.out) (Kd.N_base ho32) hb); have n2_ := Aside0.mk (Kd.N_lower ho32 (below_size y14_)); have n3_ := Aside0.mk (below_step y14_ hb); clear HO_0; clear HO_1; clear HB; have HO_0 := n0_; have HO_1 := n1_; have HO440 := n2_; have HB := n3_; clear n0_ n1_ n2_ n3_; clear hb ho32; obtain ⟨Ao33, co33, eo33⟩ := Kd.N_slice HO_0.out; subst eo33; obtain ⟨Ao34, co34, eo34⟩ := Kd.N_slice HO440.out; subst eo34) | ((with_reducible refine gate_callee (f := 17) rfl ?_); refine goesL_ (some 22) rfl rfl Tryd.func17 (by kernel_rfl) rfl #[.slice Ao33 t429.length co33, .slice Ao34 y438.length co34] rfl y15_ ?_; (with_reducible refine (boltingref04_Join.calls kj4 _ _ t429 _ _ y438 t441 _ ?side1 ?side2 ?side3 ?side4 A20.out).mono ?_); (case side1 => repeat (first | exact (Kd.N_reads' HO_0.out).2.2 | (with_reducible refine Kd.C_alloc ?_ _) | (with_reducible refine Kd.C_drewN ?_ _) | (with_reducible refine Kd.C_drew ?_))); (case side2 => exact (Kd.N_reads' HO_0.out).2.1); (case side3 => repeat (first | exact (Kd.N_reads' HO440.out).2.2 | (with_reducible refine Kd.C_alloc ?_ _) | (with_reducible refine Kd.C_drewN ?_ _) | (with_reducible refine Kd.C_drew ?_))); (case side4 => exact (Kd.N_reads' HO440.out).2.1); rintro e w35 ⟨v442, rfl, ho0, hb⟩; refine ⟨_, rfl, ?_⟩; have n0_ := Aside0.mk (Kd.N_elder' (y11_ HO_0.out) y4_ hb); have n1_ := Aside0.mk (Kd.N_elder' (y11_ HO_1.out) y4_ hb); have n2_ := Aside0.mk (Kd.N_elder' (y11_ HO440.out) y4_ hb); have n3_ := Aside0.mk (Kd.N_lower (Kd.N_mono (ok' := fun k_ => some k_ ≠ (.slice Ao33 t429.length co33 : Value).ownBlock ∧ some k_ ≠ (v433 : Value).ownBlock ∧ some k_ ≠ (.slice Ao34 y438.length co34 : Value).ownBlock) ho0 (fun k_ hk_ => ⟨(Kd.fresh' (Kd.N_lt (y11_ HO_0.out)) k_ hk_), (Kd.fresh' (Kd.N_lt (y11_ HO_1.out)) k_ hk_), (Kd.fresh' (Kd.N_lt (y11_ HO440.out)) k_ hk_)⟩)) (below_size y14_)); have n4_ := Aside0.mk (below_step y14_ hb); clear HO_0; clear HO_1; clear HO440; clear HB; have HO_0 := n0_; have HO_1 := n1_; have HO440 := n2_; have HO443 := n3_; have HB := n4_; clear n0_ n1_ n2_ n3_ n4_; (try clear hb); (try clear hb2); (try clear hk); (try clear hi); (try clear ho0); obtain ⟨Ao36, co36, eo36⟩ := Kd.N_slice HO443.out; subst eo36; obtain ⟨Ao37, co37, eo37⟩ := Kd.N_slice HO_1.out; subst eo37) | ((with_reducible refine gate_callee (f := 17) rfl ?_); refine goesL_ (some 24) rfl rfl Tryd.func17 (by kernel_rfl) rfl #[.slice Ao36 t441.length co36, .slice Ao37 t432.length co37] rfl y15_ ?_; (with_reducible refine (boltingref04_Join.calls kj4 _ _ t441 _ _ t432 t444 _ ?side1 ?side2 ?side3 ?side4 A21.out).mono ?_); (case side1 => repeat (first | exact (Kd.N_reads' HO443.out).2.2 | (with_reducible refine Kd.C_alloc ?_ _) | (with_reducible refine Kd.C_drewN ?_ _) | (with_reducible refine Kd.C_drew ?_))); (case side2 => exact (Kd.N_reads' HO443.out).2.1); (case side3 => repeat (first | exact (Kd.N_reads' HO_1.out).2.2 | (with_reducible refine Kd.C_alloc ?_ _) | (with_reducible refine Kd.C_drewN ?_ _) | (with_reducible refine Kd.C_drew ?_))); (case side4 => exact (Kd.N_reads' HO_1.out).2.1); rintro e w38 ⟨v445, rfl, ho0, hb⟩; refine ⟨_, rfl, ?_⟩; have n0_ := Aside0.mk (Kd.N_elder' (y11_ HO_0.out) y4_ hb); have n1_ := Aside0.mk (Kd.N_elder' (y11_ HO_1.out) y4_ hb); have n2_ := Aside0.mk (Kd.N_elder' (y11_ HO440.out) y4_ hb); have n3_ := Aside0.mk (Kd.N_elder' (y11_ HO443.out) y4_ hb); have n4_ := Aside0.mk (Kd.N_lower (Kd.N_mono (ok' := fun k_ => some k_ ≠ (.slice Ao33 t429.length co33 : Value).ownBlock ∧ some k_ ≠ (.slice Ao37 t432.length co37 : Value).ownBlock ∧ some k_ ≠ (.slice Ao34 y438.length co34 : Value).ownBlock ∧ some k_ ≠ (.slice Ao36 t441.length co36 : Value).ownBlock) ho0 (fun k_ hk_ => ⟨(Kd.fresh' (Kd.N_lt (y11_ HO_0.out)) k_ hk_), (Kd.fresh' (Kd.N_lt (y11_ HO_1.out)) k_ hk_), (Kd.fresh' (Kd.N_lt (y11_ HO440.out)) k_ hk_), (Kd.fresh' (Kd.N_lt (y11_ HO443.out)) k_ hk_)⟩)) (below_size y14_)); have n5_ := Aside0.mk (below_step y14_ hb); clear HO_0; clear HO_1; clear HO440; clear HO443; clear HB; have HO_0 := n0_; have HO_1 := n1_; have HO440 := n2_; have HO443 := n3_; have HO446 := n4_; have HB := n5_; clear n0_ n1_ n2_ n3_ n4_ n5_; (try clear hb); (try clear hb2); (try clear hk); (try clear hi); (try clear ho0); obtain ⟨Ao39, co39, eo39⟩ := Kd.N_slice HO446.out; subst eo39) | ((with_reducible refine gate_callee (f := 16) rfl ?_); refine goesL_ (some 26) rfl rfl Tryd.func16 (by kernel_rfl) rfl #[.slice Ao39 t444.length co39] rfl y15_ ?_; (with_reducible refine (write_Legal.calls kj4 _ _ t444 true _ ?side1 ?side2 A22.out).mono ?_); (case side1 => repeat (first | exact (Kd.N_reads' HO446.out).2.2 | (with_reducible refine Kd.C_alloc ?_ _) | (with_reducible refine Kd.C_drewN ?_ _) | (with_reducible refine Kd.C_drew ?_))); (case side2 => exact (Kd.N_reads' HO446.out).2.1); rintro e w40 ⟨rfl, hb⟩; refine ⟨_, rfl, ?_⟩; have n0_ := Aside0.mk (Kd.N_below (y11_ HO_0.out) hb); have n1_ := Aside0.mk (Kd.N_below (y11_ HO_1.out) hb); have n2_ := Aside0.mk (Kd.N_below (y11_ HO440.out) hb); have n3_ := Aside0.mk (Kd.N_below (y11_ HO443.out) hb); have n4_ := Aside0.mk (Kd.N_below (y11_ HO446.out) hb); have n5_ := Aside0.mk (below_step y14_ hb); clear HO_0; clear HO_1; clear HO440; clear HO443; clear HO446; clear HB; have HO_0 := n0_; have HO_1 := n1_; have HO440 := n2_; have HO443 := n3_; have HO446 := n4_; have HB := n5_; clear n0_ n1_ n2_ n3_ n4_ n5_; (try clear hb); (try clear hb2); (try clear hk); (try clear hi)) | (go_at_call 9; (with_reducible refine (write_Rows.calls _ _ t444 t448 _ ?side1 ?side2 A24.out).mono ?_); (case side1 => repeat (first | exact (Kd.N_reads' HO446.out).2.2 | (with_reducible refine Kd.C_alloc ?_ _) | (with_reducible refine Kd.C_drewN ?_ _) | (with_reducible refine Kd.C_drew ?_))); (case side2 => exact (Kd.N_reads' HO446.out).2.1); rintro e w41 ⟨rfl, hb⟩; have n0_ := Aside0.mk (Kd.N_below (y11_ HO_0.out) hb); have n1_ := Aside0.mk (Kd.N_below (y11_ HO_1.out) hb); have n2_ := Aside0.mk (Kd.N_below (y11_ HO440.out) hb); have n3_ := Aside0.mk (Kd.N_below (y11_ HO443.out) hb); have n4_ := Aside0.mk (Kd.N_below (y11_ HO446.out) hb); have n5_ := Aside0.mk (below_step y14_ hb); clear HO_0; clear HO_1; clear HO440; clear HO443; clear HO446; clear HB; have HO_0 := n0_; have HO_1 := n1_; have HO440 := n2_; have HO443 := n3_; have HO446 := n4_; have HB := n5_; clear n0_ n1_ n2_ n3_ n4_ n5_; (try clear hb); (try clear hb2); (try clear hk); (try clear hi)) | (go_at_call 9; (with_reducible refine (write_Rows.calls _ _ t429 t449 _ ?side1 ?side2 A25.out).mono ?_); (case side1 => repeat (first | exact (Kd.N_reads' HO_0.out).2.2 | (with_reducible refine Kd.C_alloc ?_ _) | (with_reducible refine Kd.C_drewN ?_ _) | (with_reducible refine Kd.C_drew ?_))); (case side2 => exact (Kd.N_reads' HO_0.out).2.1); rintro e w42 ⟨rfl, hb⟩; have n0_ := Aside0.mk (Kd.N_below (y11_ HO_0.out) hb); have n1_ := Aside0.mk (Kd.N_below (y11_ HO_1.out) hb); have n2_ := Aside0.mk (Kd.N_below (y11_ HO440.out) hb); have n3_ := Aside0.mk (Kd.N_below (y11_ HO443.out) hb); have n4_ := Aside0.mk (Kd.N_below (y11_ HO446.out) hb); have n5_ := Aside0.mk (below_step y14_ hb); clear HO_0; clear HO_1; clear HO440; clear HO443; clear HO446; clear HB; have HO_0 := n0_; have HO_1 := n1_; have HO440 := n2_; have HO443 := n3_; have HO446 := n4_; have HB := n5_; clear n0_ n1_ n2_ n3_ n4_ n5_; (try clear hb); (try clear hb2); (try clear hk); (try clear hi)) | (go_at_call 9; (with_reducible refine (write_Rows.calls _ _ t432 t450 _ ?side1 ?side2 A27.out).mono ?_); (case side1 => repeat (first | exact (Kd.N_reads' HO_1.out).2.2 | (with_reducible refine Kd.C_alloc ?_ _) | (with_reducible refine Kd.C_drewN ?_ _) | (with_reducible refine Kd.C_drew ?_))); (case side2 => exact (Kd.N_reads' HO_1.out).2.1); rintro e w43 ⟨rfl, hb⟩; have n0_ := Aside0.mk (Kd.N_below (y11_ HO_0.out) hb); have n1_ := Aside0.mk (Kd.N_below (y11_ HO_1.out) hb); have n2_ := Aside0.mk (Kd.N_below (y11_ HO440.out) hb); have n3_ := Aside0.mk (Kd.N_below (y11_ HO443.out) hb); have n4_ := Aside0.mk (Kd.N_below (y11_ HO446.out) hb); have n5_ := Aside0.mk (below_step y14_ hb); clear HO_0; clear HO_1; clear HO440; clear HO443; clear HO446; clear HB; have HO_0 := n0_; have HO_1 := n1_; have HO440 := n2_; have HO443 := n3_; have HO446 := n4_; have HB := n5_; clear n0_ n1_ n2_ n3_ n4_ n5_; (try clear hb); (try clear hb2); (try clear hk); (try clear hi)) | (go_at_call 8; (with_reducible refine (boltinglaw08_fixed.calls kj4  t451 _ A30.out).mono ?_); rintro e w44 ⟨rfl, hb⟩; have n0_ := Aside0.mk (Kd.N_below (y11_ HO_0.out) hb); have n1_ := Aside0.mk (Kd.N_below (y11_ HO_1.out) hb); have n2_ := Aside0.mk (Kd.N_below (y11_ HO440.out) hb); have n3_ := Aside0.mk (Kd.N_below (y11_ HO443.out) hb); have n4_ := Aside0.mk (Kd.N_below (y11_ HO446.out) hb); have n5_ := Aside0.mk (below_step y14_ hb); clear HO_0; clear HO_1; clear HO440; clear HO443; clear HO446; clear HB; have HO_0 := n0_; have HO_1 := n1_; have HO440 := n2_; have HO443 := n3_; have HO446 := n4_; have HB := n5_; clear n0_ n1_ n2_ n3_ n4_ n5_; (try clear hb); (try clear hb2); (try clear hk); (try clear hi)))
      go_ret
      exact ⟨y13_, y14_⟩
     ·rw [if_neg c29] at H
      have c29b0 : (t448.toList == ((t449 ++ (⟨#[60, 105, 62, 60, 47, 105, 62]⟩ : ByteArray)) ++ t450).toList) = false := beq_eq_false_iff_ne.mpr c29
      have c29b1 : (t448.toList != ((t449 ++ (⟨#[60, 105, 62, 60, 47, 105, 62]⟩ : ByteArray)) ++ t450).toList) = true := bne_iff_ne.mpr c29
      obtain rfl := Option.some.inj H
      go_wp2_with (first | ((with_reducible refine gate_dst (N := 21) rfl ?_); refine Kd.N_lit k35 _ 35 ?hg (N' := 21) ?hd (xs := ([(⟨0, 0, (⟨#[105]⟩ : ByteArray), (⟨#[]⟩ : ByteArray), ([] : List (S41))⟩ : S35)] : List (S35))) (inner := [.int .i64 0, .int .i64 0, .string (⟨#[105]⟩ : ByteArray), .string (⟨#[]⟩ : ByteArray), .slice none 0 0]) (ok := (fun k_ => some k_ ≠ (v430 : Value).ownBlock ∧ some k_ ≠ (v433 : Value).ownBlock)) (okp := (fun k_ => some k_ ≠ (v430 : Value).ownBlock ∧ some k_ ≠ (v433 : Value).ownBlock)) ?hr ?hp (fun _ hk => hk) ((show ∀ k_, wc.heap.size ≤ k_ → (fun k_ => some k_ ≠ (v430 : Value).ownBlock ∧ some k_ ≠ (v433 : Value).ownBlock) k_ from fun k_ hk => ⟨Kd.fresh' (Kd.N_lt (y11_ HO_0.out)) k_ hk, Kd.fresh' (Kd.N_lt (y11_ HO_1.out)) k_ hk⟩) _ (Nat.le_refl _)) (Below.refl _ _) (Nat.le_refl _) (by simp) ?_; (case hd => rfl); (case hg => rfl); (case hr => first | (go_simp; done) | (go_simp; rfl)); (case hp => exact (Reps.c5 (show Kd.FK k35 _ _ (⟨0, 0, (⟨#[105]⟩ : ByteArray), (⟨#[]⟩ : ByteArray), ([] : List (S41))⟩ : S35) [.int .i64 0, .int .i64 0, .string (⟨#[105]⟩ : ByteArray), .string (⟨#[]⟩ : ByteArray), .slice none 0 0] from (k35_mkF _ _ (⟨0, 0, (⟨#[105]⟩ : ByteArray), (⟨#[]⟩ : ByteArray), ([] : List (S41))⟩ : S35) (Nat.le_refl _) (Kd.F_nil _ _ _))) (Reps.none _ _))); intro v439 w45 ho46 hb hg_ hnew_; clear hg_ hnew_; (first | rw [← Ny438.out] at ho46 | (simp only [Int.reduceToNat] at ho46; rw [← Ny438.out] at ho46)); have n0_ := Aside0.mk (Kd.N_elder' (y11_ HO_0.out) (Kd.N_base ho46) hb); have n1_ := Aside0.mk (Kd.N_elder' (y11_ HO_1.out) (Kd.N_base ho46) hb); have n2_ := Aside0.mk (Kd.N_lower ho46 (below_size y14_)); have n3_ := Aside0.mk (below_step y14_ hb); clear HO_0; clear HO_1; clear HB; have HO_0 := n0_; have HO_1 := n1_; have HO440 := n2_; have HB := n3_; clear n0_ n1_ n2_ n3_; clear hb ho46; obtain ⟨Ao47, co47, eo47⟩ := Kd.N_slice HO_0.out; subst eo47; obtain ⟨Ao48, co48, eo48⟩ := Kd.N_slice HO440.out; subst eo48) | ((with_reducible refine gate_callee (f := 17) rfl ?_); refine goesL_ (some 22) rfl rfl Tryd.func17 (by kernel_rfl) rfl #[.slice Ao47 t429.length co47, .slice Ao48 y438.length co48] rfl y15_ ?_; (with_reducible refine (boltingref04_Join.calls kj4 _ _ t429 _ _ y438 t441 _ ?side1 ?side2 ?side3 ?side4 A20.out).mono ?_); (case side1 => repeat (first | exact (Kd.N_reads' HO_0.out).2.2 | (with_reducible refine Kd.C_alloc ?_ _) | (with_reducible refine Kd.C_drewN ?_ _) | (with_reducible refine Kd.C_drew ?_))); (case side2 => exact (Kd.N_reads' HO_0.out).2.1); (case side3 => repeat (first | exact (Kd.N_reads' HO440.out).2.2 | (with_reducible refine Kd.C_alloc ?_ _) | (with_reducible refine Kd.C_drewN ?_ _) | (with_reducible refine Kd.C_drew ?_))); (case side4 => exact (Kd.N_reads' HO440.out).2.1); rintro e w49 ⟨v442, rfl, ho0, hb⟩; refine ⟨_, rfl, ?_⟩; have n0_ := Aside0.mk (Kd.N_elder' (y11_ HO_0.out) y4_ hb); have n1_ := Aside0.mk (Kd.N_elder' (y11_ HO_1.out) y4_ hb); have n2_ := Aside0.mk (Kd.N_elder' (y11_ HO440.out) y4_ hb); have n3_ := Aside0.mk (Kd.N_lower (Kd.N_mono (ok' := fun k_ => some k_ ≠ (.slice Ao47 t429.length co47 : Value).ownBlock ∧ some k_ ≠ (v433 : Value).ownBlock ∧ some k_ ≠ (.slice Ao48 y438.length co48 : Value).ownBlock) ho0 (fun k_ hk_ => ⟨(Kd.fresh' (Kd.N_lt (y11_ HO_0.out)) k_ hk_), (Kd.fresh' (Kd.N_lt (y11_ HO_1.out)) k_ hk_), (Kd.fresh' (Kd.N_lt (y11_ HO440.out)) k_ hk_)⟩)) (below_size y14_)); have n4_ := Aside0.mk (below_step y14_ hb); clear HO_0; clear HO_1; clear HO440; clear HB; have HO_0 := n0_; have HO_1 := n1_; have HO440 := n2_; have HO443 := n3_; have HB := n4_; clear n0_ n1_ n2_ n3_ n4_; (try clear hb); (try clear hb2); (try clear hk); (try clear hi); (try clear ho0); obtain ⟨Ao50, co50, eo50⟩ := Kd.N_slice HO443.out; subst eo50; obtain ⟨Ao51, co51, eo51⟩ := Kd.N_slice HO_1.out; subst eo51) | ((with_reducible refine gate_callee (f := 17) rfl ?_); refine goesL_ (some 24) rfl rfl Tryd.func17 (by kernel_rfl) rfl #[.slice Ao50 t441.length co50, .slice Ao51 t432.length co51] rfl y15_ ?_; (with_reducible refine (boltingref04_Join.calls kj4 _ _ t441 _ _ t432 t444 _ ?side1 ?side2 ?side3 ?side4 A21.out).mono ?_); (case side1 => repeat (first | exact (Kd.N_reads' HO443.out).2.2 | (with_reducible refine Kd.C_alloc ?_ _) | (with_reducible refine Kd.C_drewN ?_ _) | (with_reducible refine Kd.C_drew ?_))); (case side2 => exact (Kd.N_reads' HO443.out).2.1); (case side3 => repeat (first | exact (Kd.N_reads' HO_1.out).2.2 | (with_reducible refine Kd.C_alloc ?_ _) | (with_reducible refine Kd.C_drewN ?_ _) | (with_reducible refine Kd.C_drew ?_))); (case side4 => exact (Kd.N_reads' HO_1.out).2.1); rintro e w52 ⟨v445, rfl, ho0, hb⟩; refine ⟨_, rfl, ?_⟩; have n0_ := Aside0.mk (Kd.N_elder' (y11_ HO_0.out) y4_ hb); have n1_ := Aside0.mk (Kd.N_elder' (y11_ HO_1.out) y4_ hb); have n2_ := Aside0.mk (Kd.N_elder' (y11_ HO440.out) y4_ hb); have n3_ := Aside0.mk (Kd.N_elder' (y11_ HO443.out) y4_ hb); have n4_ := Aside0.mk (Kd.N_lower (Kd.N_mono (ok' := fun k_ => some k_ ≠ (.slice Ao47 t429.length co47 : Value).ownBlock ∧ some k_ ≠ (.slice Ao51 t432.length co51 : Value).ownBlock ∧ some k_ ≠ (.slice Ao48 y438.length co48 : Value).ownBlock ∧ some k_ ≠ (.slice Ao50 t441.length co50 : Value).ownBlock) ho0 (fun k_ hk_ => ⟨(Kd.fresh' (Kd.N_lt (y11_ HO_0.out)) k_ hk_), (Kd.fresh' (Kd.N_lt (y11_ HO_1.out)) k_ hk_), (Kd.fresh' (Kd.N_lt (y11_ HO440.out)) k_ hk_), (Kd.fresh' (Kd.N_lt (y11_ HO443.out)) k_ hk_)⟩)) (below_size y14_)); have n5_ := Aside0.mk (below_step y14_ hb); clear HO_0; clear HO_1; clear HO440; clear HO443; clear HB; have HO_0 := n0_; have HO_1 := n1_; have HO440 := n2_; have HO443 := n3_; have HO446 := n4_; have HB := n5_; clear n0_ n1_ n2_ n3_ n4_ n5_; (try clear hb); (try clear hb2); (try clear hk); (try clear hi); (try clear ho0); obtain ⟨Ao53, co53, eo53⟩ := Kd.N_slice HO446.out; subst eo53) | ((with_reducible refine gate_callee (f := 16) rfl ?_); refine goesL_ (some 26) rfl rfl Tryd.func16 (by kernel_rfl) rfl #[.slice Ao53 t444.length co53] rfl y15_ ?_; (with_reducible refine (write_Legal.calls kj4 _ _ t444 true _ ?side1 ?side2 A22.out).mono ?_); (case side1 => repeat (first | exact (Kd.N_reads' HO446.out).2.2 | (with_reducible refine Kd.C_alloc ?_ _) | (with_reducible refine Kd.C_drewN ?_ _) | (with_reducible refine Kd.C_drew ?_))); (case side2 => exact (Kd.N_reads' HO446.out).2.1); rintro e w54 ⟨rfl, hb⟩; refine ⟨_, rfl, ?_⟩; have n0_ := Aside0.mk (Kd.N_below (y11_ HO_0.out) hb); have n1_ := Aside0.mk (Kd.N_below (y11_ HO_1.out) hb); have n2_ := Aside0.mk (Kd.N_below (y11_ HO440.out) hb); have n3_ := Aside0.mk (Kd.N_below (y11_ HO443.out) hb); have n4_ := Aside0.mk (Kd.N_below (y11_ HO446.out) hb); have n5_ := Aside0.mk (below_step y14_ hb); clear HO_0; clear HO_1; clear HO440; clear HO443; clear HO446; clear HB; have HO_0 := n0_; have HO_1 := n1_; have HO440 := n2_; have HO443 := n3_; have HO446 := n4_; have HB := n5_; clear n0_ n1_ n2_ n3_ n4_ n5_; (try clear hb); (try clear hb2); (try clear hk); (try clear hi)) | (go_at_call 9; (with_reducible refine (write_Rows.calls _ _ t444 t448 _ ?side1 ?side2 A24.out).mono ?_); (case side1 => repeat (first | exact (Kd.N_reads' HO446.out).2.2 | (with_reducible refine Kd.C_alloc ?_ _) | (with_reducible refine Kd.C_drewN ?_ _) | (with_reducible refine Kd.C_drew ?_))); (case side2 => exact (Kd.N_reads' HO446.out).2.1); rintro e w55 ⟨rfl, hb⟩; have n0_ := Aside0.mk (Kd.N_below (y11_ HO_0.out) hb); have n1_ := Aside0.mk (Kd.N_below (y11_ HO_1.out) hb); have n2_ := Aside0.mk (Kd.N_below (y11_ HO440.out) hb); have n3_ := Aside0.mk (Kd.N_below (y11_ HO443.out) hb); have n4_ := Aside0.mk (Kd.N_below (y11_ HO446.out) hb); have n5_ := Aside0.mk (below_step y14_ hb); clear HO_0; clear HO_1; clear HO440; clear HO443; clear HO446; clear HB; have HO_0 := n0_; have HO_1 := n1_; have HO440 := n2_; have HO443 := n3_; have HO446 := n4_; have HB := n5_; clear n0_ n1_ n2_ n3_ n4_ n5_; (try clear hb); (try clear hb2); (try clear hk); (try clear hi)) | (go_at_call 9; (with_reducible refine (write_Rows.calls _ _ t429 t449 _ ?side1 ?side2 A25.out).mono ?_); (case side1 => repeat (first | exact (Kd.N_reads' HO_0.out).2.2 | (with_reducible refine Kd.C_alloc ?_ _) | (with_reducible refine Kd.C_drewN ?_ _) | (with_reducible refine Kd.C_drew ?_))); (case side2 => exact (Kd.N_reads' HO_0.out).2.1); rintro e w56 ⟨rfl, hb⟩; have n0_ := Aside0.mk (Kd.N_below (y11_ HO_0.out) hb); have n1_ := Aside0.mk (Kd.N_below (y11_ HO_1.out) hb); have n2_ := Aside0.mk (Kd.N_below (y11_ HO440.out) hb); have n3_ := Aside0.mk (Kd.N_below (y11_ HO443.out) hb); have n4_ := Aside0.mk (Kd.N_below (y11_ HO446.out) hb); have n5_ := Aside0.mk (below_step y14_ hb); clear HO_0; clear HO_1; clear HO440; clear HO443; clear HO446; clear HB; have HO_0 := n0_; have HO_1 := n1_; have HO440 := n2_; have HO443 := n3_; have HO446 := n4_; have HB := n5_; clear n0_ n1_ n2_ n3_ n4_ n5_; (try clear hb); (try clear hb2); (try clear hk); (try clear hi)) | (go_at_call 9; (with_reducible refine (write_Rows.calls _ _ t432 t450 _ ?side1 ?side2 A27.out).mono ?_); (case side1 => repeat (first | exact (Kd.N_reads' HO_1.out).2.2 | (with_reducible refine Kd.C_alloc ?_ _) | (with_reducible refine Kd.C_drewN ?_ _) | (with_reducible refine Kd.C_drew ?_))); (case side2 => exact (Kd.N_reads' HO_1.out).2.1); rintro e w57 ⟨rfl, hb⟩; have n0_ := Aside0.mk (Kd.N_below (y11_ HO_0.out) hb); have n1_ := Aside0.mk (Kd.N_below (y11_ HO_1.out) hb); have n2_ := Aside0.mk (Kd.N_below (y11_ HO440.out) hb); have n3_ := Aside0.mk (Kd.N_below (y11_ HO443.out) hb); have n4_ := Aside0.mk (Kd.N_below (y11_ HO446.out) hb); have n5_ := Aside0.mk (below_step y14_ hb); clear HO_0; clear HO_1; clear HO440; clear HO443; clear HO446; clear HB; have HO_0 := n0_; have HO_1 := n1_; have HO440 := n2_; have HO443 := n3_; have HO446 := n4_; have HB := n5_; clear n0_ n1_ n2_ n3_ n4_ n5_; (try clear hb); (try clear hb2); (try clear hk); (try clear hi)))
      go_ret
      exact ⟨y13_, y14_⟩
    ·replace c23 := Bool.eq_false_iff.mpr c23
     subst c23
     rw [if_neg (show ¬ (false = true) by decide)] at H
     obtain rfl := Option.some.inj H
     go_wp2_with (first | ((with_reducible refine gate_dst (N := 21) rfl ?_); refine Kd.N_lit k35 _ 35 ?hg (N' := 21) ?hd (xs := ([(⟨0, 0, (⟨#[105]⟩ : ByteArray), (⟨#[]⟩ : ByteArray), ([] : List (S41))⟩ : S35)] : List (S35))) (inner := [.int .i64 0, .int .i64 0, .string (⟨#[105]⟩ : ByteArray), .string (⟨#[]⟩ : ByteArray), .slice none 0 0]) (ok := (fun k_ => some k_ ≠ (v430 : Value).ownBlock ∧ some k_ ≠ (v433 : Value).ownBlock)) (okp := (fun k_ => some k_ ≠ (v430 : Value).ownBlock ∧ some k_ ≠ (v433 : Value).ownBlock)) ?hr ?hp (fun _ hk => hk) ((show ∀ k_, wc.heap.size ≤ k_ → (fun k_ => some k_ ≠ (v430 : Value).ownBlock ∧ some k_ ≠ (v433 : Value).ownBlock) k_ from fun k_ hk => ⟨Kd.fresh' (Kd.N_lt (y11_ HO_0.out)) k_ hk, Kd.fresh' (Kd.N_lt (y11_ HO_1.out)) k_ hk⟩) _ (Nat.le_refl _)) (Below.refl _ _) (Nat.le_refl _) (by simp) ?_; (case hd => rfl); (case hg => rfl); (case hr => first | (go_simp; done) | (go_simp; rfl)); (case hp => exact (Reps.c5 (show Kd.FK k35 _ _ (⟨0, 0, (⟨#[105]⟩ : ByteArray), (⟨#[]⟩ : ByteArray), ([] : List (S41))⟩ : S35) [.int .i64 0, .int .i64 0, .string (⟨#[105]⟩ : ByteArray), .string (⟨#[]⟩ : ByteArray), .slice none 0 0] from (k35_mkF _ _ (⟨0, 0, (⟨#[105]⟩ : ByteArray), (⟨#[]⟩ : ByteArray), ([] : List (S41))⟩ : S35) (Nat.le_refl _) (Kd.F_nil _ _ _))) (Reps.none _ _))); intro v439 w58 ho59 hb hg_ hnew_; clear hg_ hnew_; (first | rw [← Ny438.out] at ho59 | (simp only [Int.reduceToNat] at ho59; rw [← Ny438.out] at ho59)); have n0_ := Aside0.mk (Kd.N_elder' (y11_ HO_0.out) (Kd.N_base ho59) hb); have n1_ := Aside0.mk (Kd.N_elder' (y11_ HO_1.out) (Kd.N_base ho59) hb); have n2_ := Aside0.mk (Kd.N_lower ho59 (below_size y14_)); have n3_ := Aside0.mk (below_step y14_ hb); clear HO_0; clear HO_1; clear HB; have HO_0 := n0_; have HO_1 := n1_; have HO440 := n2_; have HB := n3_; clear n0_ n1_ n2_ n3_; clear hb ho59; obtain ⟨Ao60, co60, eo60⟩ := Kd.N_slice HO_0.out; subst eo60; obtain ⟨Ao61, co61, eo61⟩ := Kd.N_slice HO440.out; subst eo61) | ((with_reducible refine gate_callee (f := 17) rfl ?_); refine goesL_ (some 22) rfl rfl Tryd.func17 (by kernel_rfl) rfl #[.slice Ao60 t429.length co60, .slice Ao61 y438.length co61] rfl y15_ ?_; (with_reducible refine (boltingref04_Join.calls kj4 _ _ t429 _ _ y438 t441 _ ?side1 ?side2 ?side3 ?side4 A20.out).mono ?_); (case side1 => repeat (first | exact (Kd.N_reads' HO_0.out).2.2 | (with_reducible refine Kd.C_alloc ?_ _) | (with_reducible refine Kd.C_drewN ?_ _) | (with_reducible refine Kd.C_drew ?_))); (case side2 => exact (Kd.N_reads' HO_0.out).2.1); (case side3 => repeat (first | exact (Kd.N_reads' HO440.out).2.2 | (with_reducible refine Kd.C_alloc ?_ _) | (with_reducible refine Kd.C_drewN ?_ _) | (with_reducible refine Kd.C_drew ?_))); (case side4 => exact (Kd.N_reads' HO440.out).2.1); rintro e w62 ⟨v442, rfl, ho0, hb⟩; refine ⟨_, rfl, ?_⟩; have n0_ := Aside0.mk (Kd.N_elder' (y11_ HO_0.out) y4_ hb); have n1_ := Aside0.mk (Kd.N_elder' (y11_ HO_1.out) y4_ hb); have n2_ := Aside0.mk (Kd.N_elder' (y11_ HO440.out) y4_ hb); have n3_ := Aside0.mk (Kd.N_lower (Kd.N_mono (ok' := fun k_ => some k_ ≠ (.slice Ao60 t429.length co60 : Value).ownBlock ∧ some k_ ≠ (v433 : Value).ownBlock ∧ some k_ ≠ (.slice Ao61 y438.length co61 : Value).ownBlock) ho0 (fun k_ hk_ => ⟨(Kd.fresh' (Kd.N_lt (y11_ HO_0.out)) k_ hk_), (Kd.fresh' (Kd.N_lt (y11_ HO_1.out)) k_ hk_), (Kd.fresh' (Kd.N_lt (y11_ HO440.out)) k_ hk_)⟩)) (below_size y14_)); have n4_ := Aside0.mk (below_step y14_ hb); clear HO_0; clear HO_1; clear HO440; clear HB; have HO_0 := n0_; have HO_1 := n1_; have HO440 := n2_; have HO443 := n3_; have HB := n4_; clear n0_ n1_ n2_ n3_ n4_; (try clear hb); (try clear hb2); (try clear hk); (try clear hi); (try clear ho0); obtain ⟨Ao63, co63, eo63⟩ := Kd.N_slice HO443.out; subst eo63; obtain ⟨Ao64, co64, eo64⟩ := Kd.N_slice HO_1.out; subst eo64) | ((with_reducible refine gate_callee (f := 17) rfl ?_); refine goesL_ (some 24) rfl rfl Tryd.func17 (by kernel_rfl) rfl #[.slice Ao63 t441.length co63, .slice Ao64 t432.length co64] rfl y15_ ?_; (with_reducible refine (boltingref04_Join.calls kj4 _ _ t441 _ _ t432 t444 _ ?side1 ?side2 ?side3 ?side4 A21.out).mono ?_); (case side1 => repeat (first | exact (Kd.N_reads' HO443.out).2.2 | (with_reducible refine Kd.C_alloc ?_ _) | (with_reducible refine Kd.C_drewN ?_ _) | (with_reducible refine Kd.C_drew ?_))); (case side2 => exact (Kd.N_reads' HO443.out).2.1); (case side3 => repeat (first | exact (Kd.N_reads' HO_1.out).2.2 | (with_reducible refine Kd.C_alloc ?_ _) | (with_reducible refine Kd.C_drewN ?_ _) | (with_reducible refine Kd.C_drew ?_))); (case side4 => exact (Kd.N_reads' HO_1.out).2.1); rintro e w65 ⟨v445, rfl, ho0, hb⟩; refine ⟨_, rfl, ?_⟩; have n0_ := Aside0.mk (Kd.N_elder' (y11_ HO_0.out) y4_ hb); have n1_ := Aside0.mk (Kd.N_elder' (y11_ HO_1.out) y4_ hb); have n2_ := Aside0.mk (Kd.N_elder' (y11_ HO440.out) y4_ hb); have n3_ := Aside0.mk (Kd.N_elder' (y11_ HO443.out) y4_ hb); have n4_ := Aside0.mk (Kd.N_lower (Kd.N_mono (ok' := fun k_ => some k_ ≠ (.slice Ao60 t429.length co60 : Value).ownBlock ∧ some k_ ≠ (.slice Ao64 t432.length co64 : Value).ownBlock ∧ some k_ ≠ (.slice Ao61 y438.length co61 : Value).ownBlock ∧ some k_ ≠ (.slice Ao63 t441.length co63 : Value).ownBlock) ho0 (fun k_ hk_ => ⟨(Kd.fresh' (Kd.N_lt (y11_ HO_0.out)) k_ hk_), (Kd.fresh' (Kd.N_lt (y11_ HO_1.out)) k_ hk_), (Kd.fresh' (Kd.N_lt (y11_ HO440.out)) k_ hk_), (Kd.fresh' (Kd.N_lt (y11_ HO443.out)) k_ hk_)⟩)) (below_size y14_)); have n5_ := Aside0.mk (below_step y14_ hb); clear HO_0; clear HO_1; clear HO440; clear HO443; clear HB; have HO_0 := n0_; have HO_1 := n1_; have HO440 := n2_; have HO443 := n3_; have HO446 := n4_; have HB := n5_; clear n0_ n1_ n2_ n3_ n4_ n5_; (try clear hb); (try clear hb2); (try clear hk); (try clear hi); (try clear ho0); obtain ⟨Ao66, co66, eo66⟩ := Kd.N_slice HO446.out; subst eo66) | ((with_reducible refine gate_callee (f := 16) rfl ?_); refine goesL_ (some 26) rfl rfl Tryd.func16 (by kernel_rfl) rfl #[.slice Ao66 t444.length co66] rfl y15_ ?_; (with_reducible refine (write_Legal.calls kj4 _ _ t444 false _ ?side1 ?side2 A22.out).mono ?_); (case side1 => repeat (first | exact (Kd.N_reads' HO446.out).2.2 | (with_reducible refine Kd.C_alloc ?_ _) | (with_reducible refine Kd.C_drewN ?_ _) | (with_reducible refine Kd.C_drew ?_))); (case side2 => exact (Kd.N_reads' HO446.out).2.1); rintro e w67 ⟨rfl, hb⟩; refine ⟨_, rfl, ?_⟩; have n0_ := Aside0.mk (Kd.N_below (y11_ HO_0.out) hb); have n1_ := Aside0.mk (Kd.N_below (y11_ HO_1.out) hb); have n2_ := Aside0.mk (Kd.N_below (y11_ HO440.out) hb); have n3_ := Aside0.mk (Kd.N_below (y11_ HO443.out) hb); have n4_ := Aside0.mk (Kd.N_below (y11_ HO446.out) hb); have n5_ := Aside0.mk (below_step y14_ hb); clear HO_0; clear HO_1; clear HO440; clear HO443; clear HO446; clear HB; have HO_0 := n0_; have HO_1 := n1_; have HO440 := n2_; have HO443 := n3_; have HO446 := n4_; have HB := n5_; clear n0_ n1_ n2_ n3_ n4_ n5_; (try clear hb); (try clear hb2); (try clear hk); (try clear hi)))
     go_ret
     exact ⟨y13_, y14_⟩
end Go.Proofs.YtpnhjipaeggcpaaDoor.X
end
section
namespace Go.Proofs.YtpnhjipaeggcpaaDoor.X
open Go.RowKit Go.Proofs.YtpnhjipaeggcpaaDoorW.PrintWords Go.Proofs.YtpnhjipaeggcpaaDoorW.PrintLast Go.Proofs.YtpnhjipaeggcpaaDoorW.PrintMore
def goodR : List RowT → List RowT → Prop
  | _, [] => True
  | o, x :: r => ¬ (x.f1 = 1 ∧ x.f3.toList.isEmpty = true) ∧ ¬ (x.f1 = 1 ∧ lastText o x.f0 = true) ∧ goodR (o ++ [x]) r
theorem normT_length : ∀ (r o : List RowT), (normT o r).length ≤ o.length + r.length
  | [], o => by simp [normT]
  | x :: r, o => by
    unfold normT
    rw [List.length_cons]
    split
    · have := normT_length r o; omega
    · split
      · have := normT_length r (lastAdd o x.f3); rw [last_add_length] at this; omega
      · have := normT_length r (o ++ [x]); simp at this; omega
theorem normT_good : ∀ (r o : List RowT), (normT o r).length = o.length + r.length → goodR o r
  | [], o, _ => trivial
  | x :: r, o, h => by
    unfold normT at h
    rw [List.length_cons] at h
    by_cases h1 : x.f1 = 1 ∧ x.f3.toList.isEmpty = true
    · rw [if_pos h1] at h; have := normT_length r o; omega
    rw [if_neg h1] at h
    by_cases h2 : x.f1 = 1 ∧ lastText o x.f0 = true
    · rw [if_pos h2] at h; have := normT_length r (lastAdd o x.f3); rw [last_add_length] at this; omega
    rw [if_neg h2] at h
    exact ⟨h1, h2, normT_good r (o ++ [x]) (by rw [h]; simp; omega)⟩
theorem good_normT : ∀ (r o : List RowT), goodR o r → normT o r = o ++ r
  | [], o, _ => by simp [normT]
  | x :: r, o, h => by
    unfold normT
    rw [if_neg h.1, if_neg h.2.1, good_normT r _ h.2.2, List.append_assoc]; rfl
theorem good_app : ∀ (r o s : List RowT), goodR o r → goodR (o ++ r) s → goodR o (r ++ s)
  | [], o, s, _, h => by simpa using h
  | x :: r, o, s, h, hs => ⟨h.1, h.2.1, good_app r (o ++ [x]) s h.2.2 (by rw [List.append_assoc]; exact hs)⟩
theorem last_app (p o : List RowT) (d : Int) (hp : lastText p d = false) : lastText (p ++ o) d = true → lastText o d = true := fun h => by
  cases o with
  | nil => rw [List.append_nil, hp] at h; cases h
  | cons x r =>
    unfold lastText at h ⊢
    cases hg : (x :: r).getLast? with
    | none => rw [List.getLast?_eq_none_iff] at hg; cases hg
    | some y =>
      rw [List.getLast?_append, hg, Option.some_or] at h
      exact h
theorem good_behind : ∀ (r p o : List RowT), (∀ d, lastText p d = false) → goodR o r → goodR (p ++ o) r
  | [], p, o, _, _ => trivial
  | x :: r, p, o, hp, h => ⟨h.1, fun hn => h.2.1 ⟨hn.1, last_app p o _ (hp _) hn.2⟩, by
      have := good_behind r p (o ++ [x]) hp h.2.2
      rw [List.append_assoc]
      exact this⟩
theorem attrsEq_refl : ∀ l : List AttT, attrsEq l l = true
  | [] => rfl
  | a :: l => by rw [attrsEq, attrsEq_refl l]; simp [attrEq]
theorem rowsEq_refl : ∀ l : List RowT, rowsEq l l = true
  | [] => rfl
  | a :: l => by rw [rowsEq, rowsEq_refl l]; simp [rowEq, attrsEq_refl]
theorem rowsEq_length {l m : List RowT} (h : rowsEq l m = true) : l.length = m.length := by
  apply Classical.byContradiction
  intro hn
  rw [rowsEq_len hn] at h
  cases h
theorem legal_good {l : List RowT} (h : rowsEq (normT [] l) l = true) : goodR [] l := normT_good l [] (by rw [rowsEq_length h]; simp)
theorem good_legal {l : List RowT} (h : goodR [] l) : rowsEq (normT [] l) l = true := by
  rw [good_normT l [] h, List.nil_append]; exact rowsEq_refl l
def rowI : RowT := ⟨0, 0, ⟨#[105]⟩, ⟨#[]⟩, []⟩
def both (a b : List RowT) : List RowT := a ++ [rowI] ++ b
theorem both_length (a b : List RowT) : (both a b).length = a.length + 1 + b.length := by simp [both]; omega
theorem both_a {a b : List RowT} {j : Nat} (h : j < a.length) : rd_T35 (both a b) (j : Int) = rd_T35 a (j : Int) := by
  rw [rdR_at (by rw [both_length]; omega), rdR_at h]
  simp [both, List.getElem_append_left h]
theorem both_i (a b : List RowT) : rd_T35 (both a b) (a.length : Int) = rowI := by
  rw [rdR_at (by rw [both_length]; omega)]
  simp [both]
theorem both_b {a b : List RowT} {j : Nat} (h : j < b.length) : rd_T35 (both a b) ((a.length + 1 + j : Nat) : Int) = rd_T35 b (j : Int) := by
  rw [rdR_at (by rw [both_length]; omega), rdR_at h]
  simp [both, show a.length + 1 + j = a.length + (j + 1) by omega]
theorem dep_a {a b : List RowT} {j : Nat} (h : j < a.length) : dep (both a b) j = dep a j := by unfold dep; rw [both_a h]
theorem dep_i (a b : List RowT) : dep (both a b) a.length = 0 := by unfold dep; rw [both_i]; rfl
theorem dep_b {a b : List RowT} {j : Nat} (h : j < b.length) : dep (both a b) (a.length + 1 + j) = dep b j := by unfold dep; rw [both_b h]
theorem knd_a {a b : List RowT} {j : Nat} (h : j < a.length) : knd (both a b) j = knd a j := by unfold knd; rw [both_a h]
theorem knd_i (a b : List RowT) : knd (both a b) a.length = 0 := by unfold knd; rw [both_i]; rfl
theorem knd_b {a b : List RowT} {j : Nat} (h : j < b.length) : knd (both a b) (a.length + 1 + j) = knd b j := by unfold knd; rw [both_b h]
theorem both_cases {a b : List RowT} {j : Nat} (h : j < (both a b).length) : j < a.length ∨ j = a.length ∨ ∃ k, k < b.length ∧ j = a.length + 1 + k := by
  rw [both_length] at h
  by_cases h1 : j < a.length
  · exact .inl h1
  · by_cases h2 : j = a.length
    · exact .inr (.inl h2)
    · exact .inr (.inr ⟨j - (a.length + 1), by omega, by omega⟩)
theorem both_right {a b : List RowT} (ha : rightB a = true) (hb : rightB b = true) : rightB (both a b) = true := by
  unfold rightB
  rw [List.all_eq_true]
  intro j hj
  rw [List.mem_range'_1] at hj
  have hjl : j < (both a b).length := by omega
  rcases both_cases hjl with h | rfl | ⟨k, hk, rfl⟩
  · have hat := right_at ha h
    unfold rightAt at hat ⊢
    rw [both_a h, dep_a h]
    by_cases h0 : j = 0
    · rw [if_pos h0] at hat ⊢; exact hat
    · rw [if_neg h0] at hat ⊢
      rw [dep_a (show j - 1 < a.length by omega), knd_a (show j - 1 < a.length by omega)]; exact hat
  · unfold rightAt
    rw [both_i, dep_i]
    have hrow : rowB rowI = true := by kernel_rfl
    rw [hrow]
    by_cases h0 : a.length = 0
    · rw [if_pos h0]; rfl
    · have := right_dep ha (j := a.length - 1) (by omega)
      rw [if_neg h0, dep_a (show a.length - 1 < a.length by omega), decide_eq_true (show (0 : Int) ≤ dep a (a.length - 1) + 1 by omega), decide_eq_false (show ¬ (0 : Int) = dep a (a.length - 1) + 1 by omega)]; rfl
  · have hat := right_at hb hk
    unfold rightAt at hat ⊢
    rw [both_b hk, dep_b hk, if_neg (by omega)]
    rw [Bool.and_eq_true] at hat
    rw [hat.1]
    by_cases h0 : k = 0
    · subst h0
      have hd := hat.2
      rw [if_pos rfl] at hd
      have hd0 : dep b 0 = 0 := by simp at hd; exact hd.2
      rw [Nat.add_zero, show a.length + 1 - 1 = a.length by omega, dep_i, hd0]; rfl
    · have hd := hat.2
      rw [if_neg h0] at hd
      rw [show a.length + 1 + k - 1 = a.length + 1 + (k - 1) by omega, dep_b (show k - 1 < b.length by omega), knd_b (show k - 1 < b.length by omega)]
      exact hd
theorem stands_a {a b : List RowT} (ha : rightB a = true) : Stands a (both a b) 0 := by
  have hl := both_length a b
  have h := stands_cut (t := both a b) (m := 0) (e := a.length) (by omega) (by omega) (fun j _ h2 _ => by rw [dep_i, dep_a h2]; exact (right_dep ha h2).1)
  have e : cutOut (both a b) 0 a.length = a := by simp [cutOut, both]
  rw [e] at h
  exact h
theorem stands_b (a b : List RowT) : Stands b (both a b) (a.length + 1) := by
  have hl := both_length a b
  have h := stands_cut (t := both a b) (m := a.length + 1) (e := (both a b).length) (by omega) (Nat.le_refl _) (fun j _ _ h3 => by omega)
  have e : cutOut (both a b) (a.length + 1) (both a b).length = b := by
    unfold cutOut
    rw [List.take_length]
    have : a.length + 1 = (a ++ [rowI]).length := by simp
    rw [this]
    exact List.drop_left
  rw [e] at h
  exact h
theorem within_stands {A t : List RowT} {m : Nat} (h : Stands A t m) {k : Nat} (hk : k < A.length) : withinB t (m + k) = withinB A k := by
  have hmem : ∀ j ∈ kidsOf A (k : Int), ∃ q : Nat, j = (q : Int) ∧ q < A.length := fun j hj => by
    obtain ⟨q, h1, _, h3⟩ := kidsOf_mem (.inr ⟨by omega, by omega⟩) hj
    exact ⟨q, h1, h3⟩
  unfold withinB
  rw [← (h.2 k hk).1, kids_shift h hk, List.length_map]
  have ho : ∀ s : Bool, onlyB t s ((kidsOf A (k : Int)).map fun j => j + (m : Int)) = onlyB A s (kidsOf A (k : Int)) := fun s => by
    cases hk2 : kidsOf A (k : Int) with
    | nil => rfl
    | cons j r =>
      cases r with
      | cons j2 r => rfl
      | nil =>
        obtain ⟨q, rfl, hq⟩ := hmem j (by rw [hk2]; simp)
        have e := (h.2 q hq).1
        show onlyB t s [(q : Int) + (m : Int)] = _
        rw [show (q : Int) + (m : Int) = ((m + q : Nat) : Int) by omega]
        show (if (rd_T35 t ((m + q : Nat) : Int)).f1 = 1 then _ else _) = (if (rd_T35 A (q : Int)).f1 = 1 then _ else _)
        rw [e]
  rw [ho]
theorem ar_a {a b : List RowT} : ∀ j, j ≤ a.length → arA (both a b) j = arA a j
  | 0, _ => rfl
  | j + 1, h => by
    show stepA (arA (both a b) j) _ = stepA (arA a j) _
    rw [ar_a j (by omega), both_a (by omega)]
theorem stepA_zero (x y : List ByteArray) {r : RowT} (h : r.f0 = 0) : stepA x r = stepA y r := by unfold stepA; rw [h]; simp
theorem ar_b {a b : List RowT} (h0 : 0 < b.length → dep b 0 = 0) : ∀ k, k < b.length → arA (both a b) (a.length + 1 + (k + 1)) = arA b (k + 1)
  | 0, h => by
    show stepA (arA (both a b) (a.length + 1 + 0)) _ = stepA (arA b 0) _
    rw [both_b h]
    exact stepA_zero _ _ (h0 h)
  | k + 1, h => by
    show stepA (arA (both a b) (a.length + 1 + (k + 1))) (rd_T35 (both a b) ((a.length + 1 + (k + 1) : Nat) : Int)) = stepA (arA b (k + 1)) (rd_T35 b ((k + 1 : Nat) : Int))
    rw [ar_b h0 k (by omega), both_b h]
theorem both_legal {a b : List RowT} (ha : legalB a = true) (hb : legalB b = true) (hla : a.length ≤ 40) (hlb : b.length ≤ 40) : legalB (both a b) = true := by
  unfold legalB at ha hb ⊢
  simp only [Bool.and_eq_true, Bool.not_eq_true'] at ha hb ⊢
  obtain ⟨ha1, ha2, ha3, ha4⟩ := ha
  obtain ⟨hb1, hb2, hb3, hb4⟩ := hb
  have hl := both_length a b
  have hb0 : 0 < b.length → dep b 0 = 0 := fun h => by have := right_dep hb2 h; omega
  refine ⟨?_, both_right ha2 hb2, good_legal ?_, ?_⟩
  · unfold bigB at ha1 hb1 ⊢
    rw [Bool.or_eq_false_iff] at ha1 hb1 ⊢
    refine ⟨decide_eq_false (by omega), ?_⟩
    unfold both
    rw [List.any_append, List.any_append, ha1.2, hb1.2]
    rfl
  · unfold both
    refine good_app _ _ _ (good_app _ _ _ (legal_good ha3) ?_) ?_
    · exact ⟨fun h => absurd h.1 (by decide), fun h => absurd h.1 (by decide), trivial⟩
    · have := good_behind b ([] ++ (a ++ [rowI])) [] (fun d => by
        unfold lastText
        rw [List.nil_append, List.getLast?_append]
        rfl) (legal_good hb3)
      rw [List.append_nil] at this
      exact this
  · rw [List.all_eq_true] at ha4 hb4 ⊢
    intro j hj
    rw [List.mem_range'_1] at hj
    have hjl : j < (both a b).length := by omega
    rcases both_cases hjl with h | rfl | ⟨k, hk, rfl⟩
    · have := ha4 j (by rw [List.mem_range'_1]; omega)
      unfold rowLegal at this ⊢
      rw [knd_a h, both_a h, dep_a h, ar_a j (by omega)]
      have hw := within_stands (stands_a (b := b) ha2) h
      rw [Nat.zero_add] at hw
      rw [hw]
      exact this
    · unfold rowLegal
      rw [knd_i, both_i, dep_i, if_neg (by decide), if_neg (by decide)]
      have hw : withinB (both a b) a.length = true := by
        unfold withinB
        rw [both_i, show inB voidL rowI.f2 = false by kernel_rfl, show inB rawL rowI.f2 = false by kernel_rfl, show inB softL rowI.f2 = false by kernel_rfl]
        rfl
      rw [hw, show ((0 : Int)).toNat = 0 from rfl, List.take_zero, Bool.and_true]
      exact (show elementB ⟨#[105]⟩ [] [] = true by kernel_rfl)
    · have := hb4 k (by rw [List.mem_range'_1]; omega)
      unfold rowLegal at this ⊢
      have har : (arA (both a b) (a.length + 1 + k)).take (dep b k).toNat = (arA b k).take (dep b k).toNat := by
        cases k with
        | zero => rw [hb0 (by omega)]; simp
        | succ k => rw [ar_b hb0 k (by omega)]
      rw [knd_b hk, both_b hk, dep_b hk, har, within_stands (stands_b a b) hk]
      exact this
theorem kids_root {l : List RowT} (hr : rightB l = true) (hl : l.length ≤ 60000) : kidsOf l (-1) = ((List.range l.length).filter fun j => dep l j == 0).map fun (j : Nat) => (j : Int) := by
  rw [← kids_same hr (by omega) (.inl rfl)]
  unfold rkTo
  congr 1
theorem both_text {a b : List RowT} (ha : rightB a = true) (hb : rightB b = true) (hla : a.length ≤ 40) (hlb : b.length ≤ 40) :
    inT (both a b) ((both a b).length + 1) (-1) false = inT a (a.length + 1) (-1) false ++ [60, 105, 62, 60, 47, 105, 62] ++ inT b (b.length + 1) (-1) false := by
  have hl := both_length a b
  have hc := both_right ha hb
  have hi : nodeT (both a b) ((both a b).length + 1) (a.length : Int) false = [60, 105, 62, 60, 47, 105, 62] := by
    have hend : endOf (both a b) a.length = a.length + 1 := by
      have he := endOf_le (both a b) a.length (by omega)
      apply Classical.byContradiction
      intro hn
      have h2 := end_in (l := both a b) (i := a.length) (j := a.length + 1) (by omega) (by omega)
      have h3 := dep_b (a := a) (b := b) (j := 0) (by omega)
      have h4 := right_dep hb (j := 0) (by omega)
      rw [Nat.add_zero] at h3
      rw [dep_i, h3] at h2
      omega
    have hk : kidsOf (both a b) (a.length : Int) = [] := by
      have hre : rEnd (both a b) (a.length : Int) = ((a.length + 1 : Nat) : Int) := by unfold rEnd; rw [if_pos ⟨by omega, by omega⟩, ← hend]; rfl
      unfold kidsOf
      rw [if_neg (by omega), hre, hl]
      show kidsGo (both a b) (a.length + 1) (a.length + 1 + b.length) (a.length + 1) = []
      rw [show a.length + 1 + b.length = (a.length + b.length) + 1 by omega]
      unfold kidsGo
      rw [if_neg (by omega)]
    unfold nodeT
    rw [both_i, hk, if_neg (by decide), if_neg (by decide), show inB voidL rowI.f2 = false by kernel_rfl]
    rfl
  have ea : ∀ j, j < a.length → nodeT (both a b) ((both a b).length + 1) (j : Int) false = nodeT a (a.length + 1) (j : Int) false := fun j hj => by
    have := node_shift (stands_a (b := b) ha) ((both a b).length + 1) (a.length + 1) j false hj (by omega) (by omega)
    rw [Nat.zero_add] at this
    exact this
  have eb : ∀ j, j < b.length → nodeT (both a b) ((both a b).length + 1) ((a.length + 1 + j : Nat) : Int) false = nodeT b (b.length + 1) (j : Int) false := fun j hj =>
    node_shift (stands_b a b) ((both a b).length + 1) (b.length + 1) j false hj (by omega) (by omega)
  unfold inT
  rw [kids_root hc (by omega), kids_root ha (by omega), kids_root hb (by omega), hl]
  have hr1 : List.range (a.length + 1 + b.length) = List.range a.length ++ ([a.length] ++ (List.range b.length).map fun j => a.length + 1 + j) := by
    rw [List.range_add, List.range_succ, List.append_assoc]
  rw [hr1, List.filter_append, List.filter_append, List.map_append, List.map_append, List.flatMap_append, List.flatMap_append, List.append_assoc]
  congr 1
  · rw [List.flatMap_map, List.flatMap_map, List.filter_congr (q := fun j => dep a j == 0) (fun j hj => by rw [dep_a (List.mem_range.1 hj)])]
    exact flat_congr (fun j hj => by rw [← hl]; exact ea j (List.mem_range.1 (List.mem_filter.1 hj).1))
  · congr 1
    · rw [List.filter_cons_of_pos (by rw [dep_i]; rfl)]
      simp only [List.filter_nil, List.map_cons, List.map_nil, List.flatMap_cons, List.flatMap_nil, List.append_nil]
      rw [← hl]; exact hi
    · rw [List.filter_map, List.map_map, List.flatMap_map, List.flatMap_map, List.filter_congr (q := fun j => dep b j == 0) (fun j hj => by show (dep (both a b) (a.length + 1 + j) == 0) = _; rw [dep_b (List.mem_range.1 hj)])]
      exact flat_congr (fun j hj => by rw [← hl]; exact eb j (List.mem_range.1 (List.mem_filter.1 hj).1))
theorem cut_small2 {l : List RowT} (h : ∀ x ∈ l, StrSmall x) : ∀ x ∈ bnd l, RowSmall x := fun x hx => by
  have h6 := bnd_attrs hx
  obtain ⟨y, hy, rfl⟩ := bnd_mem hx
  obtain ⟨h1, h2, h3⟩ := h y hy
  exact ⟨h1, h2, by omega, fun a ha => h3 a (List.mem_of_mem_take ha)⟩
theorem moved2_loop (l : List RowT) (hl : l.length ≤ 60000) (ha : ∀ x ∈ l, x.f4.length ≤ 256) (hd : ∀ x ∈ l, -9223372036854775808 ≤ x.f0 ∧ x.f0 ≤ 9223372036854775807) : ∀ (d j : Nat), j + d = l.length → Ev (fun k => boltingref04_Moved.l0 k l 0 (l.take j) (j : Int)) l
  | 0, j, hj => by
    refine evK (fun k => ?_)
    rw [boltingref04_Moved.l0, if_neg (by omega), List.take_of_length_le (by omega)]
  | d + 1, j, hj => by
    have hlt : j < l.length := by omega
    have ih := moved2_loop l hl ha hd d (j + 1) (by omega)
    have h1 := ha l[j] (List.getElem_mem hlt)
    have h2 := hd l[j] (List.getElem_mem hlt)
    refine evI (fun k => ?_) ih
    rw [boltingref04_Moved.l0, if_pos (by omega), if_pos (by omega), Option.bind_some, rdR_at hlt, if_pos (by simp only [List.length_nil]; omega), if_pos (by rw [List.length_take]; omega), Int.add_zero, w64 h2.1 h2.2, w64n (by omega), List.nil_append, List.take_succ_eq_append_getElem hlt]
theorem moved2_is (l : List RowT) (hr : rightB l = true) (hl : l.length ≤ 60000) (hs : ∀ x ∈ l, RowSmall x) : Ev (fun k => boltingref04_Moved.f k l 0) l :=
  moved2_loop l hl (fun x hx => (hs x hx).2.2.1) (fun x hx => by
    obtain ⟨q, hq, rfl⟩ := List.getElem_of_mem hx
    have := right_dep hr hq
    unfold dep at this
    rw [rdR_at hq] at this
    omega) l.length 0 (by omega)
theorem join_is {a b : List RowT} (ha : rightB a = true) (hb : rightB b = true) (hla : a.length ≤ 1000) (hlb : b.length ≤ 1000) (hsa : ∀ x ∈ a, RowSmall x) (hsb : ∀ x ∈ b, RowSmall x) : Ev (fun k => boltingref04_Join.f k a b) (a ++ b) :=
  Ev.bind (moved2_is a ha (by omega) hsa) (Ev.bind (moved2_is b hb (by omega) hsb) (Ev.congr (fun k => by rw [if_pos (by omega)]) (Ev.now _)))
theorem writeTwo_true (l m : List RowT) (h1 : ∀ x ∈ l, StrSmall x) (h2 : ∀ x ∈ m, StrSmall x) : ∃ k, boltinglaw08_WriteTwo.f k l m = some true := by
  have hla := bnd_length l
  have hlb := bnd_length m
  have hsa := cut_small2 h1
  have hsb := cut_small2 h2
  apply Ev.rounds
  unfold boltinglaw08_WriteTwo.f
  refine Ev.bind (bound_is l) (Ev.bind (bound_is m) ?_)
  generalize bnd l = a at *
  generalize bnd m = b at *
  refine Ev.bind (legal_is a hsa (by omega)) ?_
  have hno : Ev (fun k => boltinglaw08_WriteTwo.j0 k a b true) true := evI (f := fun _ => some true) (fun k => by rw [boltinglaw08_WriteTwo.j0, if_pos rfl]; rfl) (Ev.now true)
  cases ca : legalB a with
  | false => exact Ev.congr (fun k => by rw [if_neg (by decide)]) hno
  | true =>
    refine Ev.congr (fun k => by rw [if_pos rfl]) (Ev.bind (legal_is b hsb (by omega)) ?_)
    cases cb : legalB b with
    | false => exact hno
    | true =>
      have hra : rightB a = true := by unfold legalB at ca; simp only [Bool.and_eq_true] at ca; exact ca.2.1
      have hrb : rightB b = true := by unfold legalB at cb; simp only [Bool.and_eq_true] at cb; exact cb.2.1
      have hrc := both_right hra hrb
      have hI : RowSmall rowI := ⟨by decide, by decide, by decide, fun x hx => by cases hx⟩
      have hri : rightB [rowI] = true := by kernel_rfl
      have hsc : ∀ x ∈ both a b, RowSmall x := fun x hx => by
        unfold both at hx
        rcases List.mem_append.1 hx with h | h
        · rcases List.mem_append.1 h with h | h
          · exact hsa x h
          · obtain rfl := List.mem_singleton.1 h; exact hI
        · exact hsb x h
      have hsai : ∀ x ∈ a ++ [rowI], RowSmall x := fun x hx => by
        rcases List.mem_append.1 hx with h | h
        · exact hsa x h
        · obtain rfl := List.mem_singleton.1 h; exact hI
      have hrai : rightB (a ++ [rowI]) = true := by
        have := both_right (b := []) hra (by kernel_rfl)
        unfold both at this
        rw [List.append_nil] at this
        exact this
      have hlc := both_length a b
      have hta := written_text hra hsa (by omega) (-1) (.inl rfl)
      have htb := written_text hrb hsb (by omega) (-1) (.inl rfl)
      have htc := written_text hrc hsc (by omega) (-1) (.inl rfl)
      have hna := in_length hsa (a.length + 1) (-1) (.inl rfl) false
      have hnb := in_length hsb (b.length + 1) (-1) (.inl rfl) false
      rw [show rawOf a (-1) = false from rfl] at hta
      rw [show rawOf b (-1) = false from rfl] at htb
      rw [show rawOf (both a b) (-1) = false from rfl, both_text hra hrb hla hlb] at htc
      refine evI (f := fun k => (boltingref04_Join.f k a [rowI]).bind fun t441 => (boltingref04_Join.f k t441 b).bind fun t444 => (write_Legal.f k t444).bind fun t447 => if t447 = true then (write_Rows.f t444).bind fun t448 => (write_Rows.f a).bind fun t449 => if t449.size + 7 ≤ 9223372036854775807 then (write_Rows.f b).bind fun t450 => if (t449 ++ (⟨#[60, 105, 62, 60, 47, 105, 62]⟩ : ByteArray)).size + t450.size ≤ 9223372036854775807 then if t448.toList = ((t449 ++ (⟨#[60, 105, 62, 60, 47, 105, 62]⟩ : ByteArray)) ++ t450).toList then (boltinglaw08_fixed.f k).bind fun t451 => some t451 else some false else none else none else some false) (fun k => by rw [Bool.not_true, boltinglaw08_WriteTwo.j0, if_neg (by decide)]; rfl) ?_
      refine Ev.bind (join_is hra hri (by omega) (by simp) hsa (fun x hx => by obtain rfl := List.mem_singleton.1 hx; exact hI)) (Ev.bind (join_is hrai hrb (by simp; omega) (by omega) hsai hsb) ?_)
      show Ev (fun k => (write_Legal.f k (both a b)).bind _) true
      refine Ev.bind (legal_is (both a b) hsc (by omega)) ?_
      refine Ev.congr (f := fun _ => some true) (fun k => ?_) (Ev.now true)
      have hwa : write_Rows.f a = some (bs (inT a (a.length + 1) (-1) false)) := by unfold write_Rows.f; rw [hta]; rfl
      have hwb : write_Rows.f b = some (bs (inT b (b.length + 1) (-1) false)) := by unfold write_Rows.f; rw [htb]; rfl
      have hwc : write_Rows.f (both a b) = some (bs (inT a (a.length + 1) (-1) false ++ [60, 105, 62, 60, 47, 105, 62] ++ inT b (b.length + 1) (-1) false)) := by unfold write_Rows.f; rw [htc]; rfl
      have hwc' : write_Rows.f (a ++ [rowI] ++ b) = some (bs (inT a (a.length + 1) (-1) false ++ [60, 105, 62, 60, 47, 105, 62] ++ inT b (b.length + 1) (-1) false)) := hwc
      rw [both_legal ca cb hla hlb, if_pos rfl, hwc', hwa, hwb]
      simp only [Option.bind_some]
      rw [if_pos (by simp only [bs_size]; omega), if_pos (by simp only [ByteArray.size_append, bs_size, lit_size, List.length_cons, List.length_nil]; omega), show (⟨#[60, 105, 62, 60, 47, 105, 62]⟩ : ByteArray) = bs [60, 105, 62, 60, 47, 105, 62] from rfl, bs_app, bs_app, if_pos rfl]
      rfl
end Go.Proofs.YtpnhjipaeggcpaaDoor.X
end
section
namespace Go.Proofs.YtpnhjipaeggcpaaDoor.writeTwo
open Go.ChangeShapes Go.WideShapes Go.ChangeAt Go.RowKit Go.Proofs.YtpnhjipaeggcpaaDoor.X
open Go.ChangeMaps (open_string shut_string)
set_option maxHeartbeats 4000000 in
set_option maxRecDepth 100000 in
theorem contract (H : Type) (enc : TypeId × Value → H) (W : World) (base : Nat) (args : Array Value) (ds gs : List (DataW H)) (before : List MemPlace)
    (hval0 : ∀ (j : Nat) t v, Tryd.f5.params[j]? = some t → args[j]? = some v → Value.okWide Tryd.prog W .any base t v)
    (hW : DataW.Whole enc Tryd.prog Tryd.f5.params.toList Rows.writeTwoSpec.vars false W args.toList ds gs before) (hk : Rows.uptoSmall H (ds ++ gs) = true) (hT : WF W) :
    Calls Tryd.prog 5 args W fun e W' => ∃ v, e = .returned v ∧ Rows.writeTwoSpec.post enc Tryd.prog Tryd.f5 false true false false W args v W' := by
  have hval : ∀ (j : Nat) t v, Tryd.f5.params[j]? = some t → args[j]? = some v → Value.okWide Tryd.prog W .any base t v := hval0
  have hW' := hW
  obtain ⟨p, q, hA0, hV, rfl, hfz, hnd⟩ := hW
  have hA : DataW.TrodAll enc Tryd.prog W 0 (fun _ => true) true Tryd.f5.params.toList args.toList ds p := hA0
  rw [Tryd.params5] at hA hval
  obtain ⟨v0, vs0, d0, ds0, p0, q0, hargs, rfl, rfl, h0, r0⟩ := trodAll_cons hA
  obtain ⟨v1, vs1, d1, ds1, p1, q1, rfl, rfl, rfl, h1, r1⟩ := trodAll_cons r0
  obtain ⟨rfl, rfl, rfl⟩ := trodAll_nil r1
  obtain rfl : args = #[v0, v1] := by cases args; simp_all
  obtain ⟨rfl, rfl⟩ := trodVars_none hV
  obtain ⟨a0, len0, cap0, rfl⟩ := okWide_slice Tryd.underlying22 (hval 0 22 v0 rfl rfl)
  have k0 := h0
  have lt0 : ∀ x ∈ p0, x.block < W.heap.size := by obtain ⟨m, hm⟩ := k0; exact DataW.trod_lt m _ _ _ hm
  obtain ⟨fuel0, hf0⟩ := h0
  obtain ⟨A0, c0, l0, e0, hl0, hC0, hz0⟩ := open_rows hf0
  dsimp only at hz0
  cases e0
  obtain ⟨a1, len1, cap1, rfl⟩ := okWide_slice Tryd.underlying22 (hval 1 22 v1 rfl rfl)
  have k1 := h1
  have lt1 : ∀ x ∈ p1, x.block < W.heap.size := by obtain ⟨m, hm⟩ := k1; exact DataW.trod_lt m _ _ _ hm
  obtain ⟨fuel1, hf1⟩ := h1
  obtain ⟨A1, c1, l1, e1, hl1, hC1, hz1⟩ := open_rows hf1
  dsimp only at hz1
  cases e1
  have hb : Rows.uptoBulkAll ([d0, d1] ++ []) ≤ 1048576 := of_decide_eq_true hk
  have hb0 : Rows.uptoBulk (d0 : DataW H) ≤ 1048576 := by
    have := bulk_one (H := H) (l := [d0, d1] ++ []) (d := d0) (by simp)
    omega
  have hb1 : Rows.uptoBulk (d1 : DataW H) ≤ 1048576 := by
    have := bulk_one (H := H) (l := [d0, d1] ++ []) (d := d1) (by simp)
    omega
  clear hA0 hval0 hk
  have hs0 : ∀ x ∈ l0, StrSmall x := fun x hx => by
    obtain ⟨z1, z2, z3⟩ := hz0 x hx
    exact ⟨by omega, by omega, fun a ha => by have := z3 a ha; omega⟩
  have hs1 : ∀ x ∈ l1, StrSmall x := fun x hx => by
    obtain ⟨z1, z2, z3⟩ := hz1 x hx
    exact ⟨by omega, by omega, fun a ha => by have := z3 a ha; omega⟩
  obtain ⟨k, hpure⟩ := writeTwo_true l0 l1 hs0 hs1
  refine (boltinglaw08_WriteTwo.calls k _ _ l0 _ _ l1 true W hC0 hl0 hC1 hl1 hpure hT).mono fun e W' ⟨he, bel⟩ => ?_
  subst he
  exact ⟨_, rfl, _, _, _, [], _, [], hW', trodAll_mk1 (shut_bool Tryd.underlying4 _), (trodAll_cons_mk (Below.trod laidOut (by kernel_rfl) (of_decide_eq_true (by kernel_rfl)) k0 bel lt0) (trodAll_cons_mk (Below.trod laidOut (by kernel_rfl) (of_decide_eq_true (by kernel_rfl)) k1 bel lt1) trodAll_mk0)), rfl, bel.frame _, fun h => by cases h⟩
theorem witness_row (os : Os) {H : Type} (enc : TypeId × Value → H) :
    (Rows.OpenSpec.upto Rows.writeTwoSpec).preRow enc Tryd.prog Tryd.f5 Rows.writeTwoUptoRow.domain false Rows.writeTwoUptoRow.laid ((laidWorld os).forCall (fun _ _ => 0) ⟨#[], #[.slice none 0 0, .slice none 0 0], []⟩).memory #[.slice none 0 0, .slice none 0 0] := by
  have hw : (DataW.whole enc Tryd.prog ((laidWorld os).forCall (fun _ _ => 0) ⟨#[], #[.slice none 0 0, .slice none 0 0], []⟩).memory Tryd.f5.params.toList Rows.writeTwoSpec.vars false #[Value.slice none 0 0, .slice none 0 0].toList 8).map (fun x => (x.1, x.2.1)) =
      some ([.nil, .nil], []) := by kernel_rfl
  obtain ⟨⟨x1, x2, x3⟩, hx, hx1⟩ := Option.map_eq_some_iff.1 hw
  simp only [Prod.mk.injEq] at hx1
  obtain ⟨rfl, rfl⟩ := hx1
  exact OpenSpec.preRow_of_cond 8 hx (by kernel_rfl) (fun k hk => by cases hk; kernel_rfl) (by kernel_rfl) (laid_met os _)
set_option maxRecDepth 100000 in
theorem lifted (os : Os) (started : os.Started) (H : Type) (enc : TypeId × Value → H) (F : Stop.Interp) :
    ReturnsInHanded {} Tryd.checked os 5 .any ((Rows.OpenSpec.upto Rows.writeTwoSpec).preRow enc Tryd.prog Tryd.f5 Rows.writeTwoUptoRow.domain false Rows.writeTwoUptoRow.laid) (((Rows.OpenSpec.upto Rows.writeTwoSpec).at F).post enc Tryd.prog Tryd.f5 false true false false) := by
  refine returnsInHanded_of_row (C := Tryd.checked) (s := Rows.OpenSpec.upto Rows.writeTwoSpec) own started (by kernel_rfl) Tryd.func5
    (witness_row_atRef (enc := enc) (C := Tryd.checked) false (laidWorld os) #[.slice none 0 0, .slice none 0 0] rfl (by kernel_rfl) (by kernel_rfl) (by kernel_rfl) (witness_row os enc)) ?_
  intro W base args ds gs before hval hW _ hcond _ hL hS _
  exact contract H enc W base args ds gs before hval hW (hcond _ rfl) (wf_of hL hS)
theorem said : Rows.WriteTwoUptoSaid :=
  OpenClaim.holds_of_cond 5 Tryd.f5 rfl rfl rfl rfl rfl rfl rfl ⟨rfl, rfl, rfl, rfl, rfl⟩ rfl rfl rfl rfl rfl (by kernel_rfl) Tryd.func5 (by kernel_rfl)
    (of_decide_eq_true (by kernel_rfl)) (by unfold Func.isWrapper; first | (rw [if_pos (by decide +kernel)]; kernel_rfl) | (rw [if_neg (by decide +kernel)]; exact ⟨rfl, rfl⟩))
    (fun os started H enc _ F => by rw [OpenClaim.pre_eq_preRow]; exact lifted os started H enc F)
theorem plain (f : FuncId) (fn : Func) (hf : Tryd.pinned.checked.prog.funcNamed "bolting/boltinglaw08.WriteTwo" = some f) (hfn : Tryd.pinned.checked.prog.funcs[f]? = some fn) :
    false = Tryd.pinned.checked.prog.looks [] ∧ ∀ (j : Nat) t, fn.params[j]? = some t → Tryd.pinned.checked.prog.wantsStandIn t = false := by
  obtain rfl : f = 5 := Option.some.inj ((show Tryd.prog.funcNamed "bolting/boltinglaw08.WriteTwo" = some 5 by kernel_rfl).symm.trans hf) |>.symm
  obtain rfl : fn = Tryd.f5 := (Option.some.inj (Tryd.func5.symm.trans hfn)).symm
  refine ⟨by kernel_rfl, fun j t ht => ?_⟩
  rw [Tryd.params5] at ht
  have hm := Array.mem_of_getElem? ht
  have hall : t = 22 := by
    simp at hm; omega
  rcases hall with rfl
  · exact (show Tryd.prog.wantsStandIn 22 = false by kernel_rfl)
theorem card : Rows.WriteTwoUptoCardSaid :=
  Claim7.holds_tied_plain_at .later [] _ _ _ _ said (fun _ h => by cases h) (by kernel_rfl) (fun _ h => by cases h) writeTwoUpto_row_tie rfl ⟨rfl, rfl⟩ (by kernel_rfl) rfl plain (by kernel_rfl)
end Go.Proofs.YtpnhjipaeggcpaaDoor.writeTwo
namespace Go.Proofs.YtpnhjipaeggcpaaDoor
theorem writeTwo_holds : Rows.WriteTwoUptoCardSaid := writeTwo.card
end Go.Proofs.YtpnhjipaeggcpaaDoor
end
#print axioms Go.Proofs.YtpnhjipaeggcpaaDoor.writeTwo_holds
