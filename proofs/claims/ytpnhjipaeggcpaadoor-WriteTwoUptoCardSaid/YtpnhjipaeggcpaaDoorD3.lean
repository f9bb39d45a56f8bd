/- A part of a proof, put together by this session's own program out of its texts. -/
import Derived.Test.YtpnhjipaeggcpaaDoorD2
import Derived.Test.YtpnhjipaeggcpaaDoorRows
import Derived.Shelf.Unicode.ValidAny
import Derived.Shelf.Strings.Builder1
import Derived.Shelf.Small.Utf8
import Derived.Shelf.Small.Strs
import Derived.Shelf.Strings.BuilderF
import Derived.Shelf.Strings.BuilderK
import Derived.Shelf.Strings.Search1
import Derived.Shelf.Strings.Search2
import Derived.Shelf.Strings.Search3
import Derived.Shelf.LaysM
import Derived.Shelf.Strings.Shaped
import Derived.Shelf.Strings.Prefix
import Derived.Shelf.Strings.Runes
import Derived.Shelf.Strings.IndexAny
import Derived.Shelf.Strings.AsciiSet
import Derived.Shelf.Strings.IndexAnyAll
import Derived.Deep.Slices
import Derived.Deep.Fields
import Derived.ChangeSame
import Derived.ProofKit
import Derived.OpenShut
import Derived.SizedLaws
import Derived.Lib.LaidIn
import Derived.Lib.LaidU8T
import Derived.Lib.Builder
import Derived.Laws.Externs
import Derived.StillTailTactics
import Derived.Lib.SliceRun
set_option linter.unusedVariables false
set_option linter.unusedSimpArgs false
section
namespace Go.Proofs.YtpnhjipaeggcpaaDoor.X
open Go.RowKit Go.Proofs.YtpnhjipaeggcpaaDoorW.PrintWords Go.Proofs.YtpnhjipaeggcpaaDoorW.PrintLast Go.Proofs.YtpnhjipaeggcpaaDoorW.PrintMore
attribute [local go_sem] max2_int min2_int max_two min_two max_three min_three max_four min_four
mutual
def rows_row.j0 : Nat → Bool → Int → Int → ByteArray → ByteArray → List (S41) → Option (Bool)
 | 0, _, _, _, _, _, _ => none
 | k + 1, x14, x256000, x256001, x256002, x256003, x256004 => if x14 = true then (if x256002.toList = ([] : List UInt8) then (some ((x256004.length : Int) == 0)) else (some false)) else (if x256001 = 0 then (if x256002.toList = ([] : List UInt8) then (rows_row.j1 k true x256000 x256001 x256002 x256003 x256004) else (rows_row.j1 k (x256003.toList != ([] : List UInt8)) x256000 x256001 x256002 x256003 x256004)) else (rows_row.j1 k true x256000 x256001 x256002 x256003 x256004))
def rows_row.j1 : Nat → Bool → Int → Int → ByteArray → ByteArray → List (S41) → Option (Bool)
 | 0, _, _, _, _, _, _ => none
 | k + 1, x36, x256000, x256001, x256002, x256003, x256004 => if x36 = true then (some false) else (rows_row.l0 k x256004 (x256004.length : Int) 0 x256000 x256001 x256002 x256003 x256004)
def rows_row.l0 : Nat → List (S41) → Int → Int → Int → Int → ByteArray → ByteArray → List (S41) → Option (Bool)
 | 0, _, _, _, _, _, _, _, _ => none
 | k + 1, x38, x39, x40, x256000, x256001, x256002, x256003, x256004 => if x40 < x39 then (if 0 ≤ x40 then (if x40 < (x38.length : Int) then (if x40 ≤ (x256004.length : Int) then ((some (x256004.take (x40 : Int).toNat : List (S41))).bind fun y258 => (rows_row.l1 k x38 x39 x40 y258 (y258.length : Int) 0 x256000 x256001 x256002 x256003 x256004 ((rd_T41 x38 x40).f0) ((rd_T41 x38 x40).f1))) else (none)) else (none)) else (none)) else (some true)
def rows_row.l1 : Nat → List (S41) → Int → Int → List (S41) → Int → Int → Int → Int → ByteArray → ByteArray → List (S41) → ByteArray → ByteArray → Option (Bool)
 | 0, _, _, _, _, _, _, _, _, _, _, _, _, _ => none
 | k + 1, x38, x39, x40, x48, x49, x50, x256000, x256001, x256002, x256003, x256004, x258000, x258001 => if x50 < x49 then (if 0 ≤ x50 then (if x50 < (x48.length : Int) then (if x258000.toList = ((rd_T41 x48 x50).f0).toList then (some false) else (rows_row.l1 k x38 x39 x40 x48 x49 (wrap64 (x50 + 1)) x256000 x256001 x256002 x256003 x256004 x258000 x258001)) else (none)) else (none)) else (rows_row.l0 k x38 x39 (wrap64 (x40 + 1)) x256000 x256001 x256002 x256003 x256004)
end
def rows_row.f (k : Nat) (a0_0 : Int) (a0_1 : Int) (a0_2 : ByteArray) (a0_3 : ByteArray) (l0_4 : List (S41)) : Option (Bool) := if a0_1 = 1 then (rows_row.j0 k true a0_0 a0_1 a0_2 a0_3 l0_4) else (rows_row.j0 k (a0_1 == 2) a0_0 a0_1 a0_2 a0_3 l0_4)
set_option maxHeartbeats 8000000 in
set_option maxRecDepth 100000 in
theorem rows_row.calls (k : Nat) (a0_0 : Int) (a0_1 : Int) (a0_2 : ByteArray) (a0_3 : ByteArray) (A0_4 : Option Addr) (c0_4 : Nat) (l0_4 : List (S41)) (r : Bool) (w : World) (hr0_4 : Kd.C k41 w A0_4 l0_4.length l0_4) (hc0_4 : l0_4.length ≤ c0_4) (h : rows_row.f k a0_0 a0_1 a0_2 a0_3 l0_4 = some r) :
  Calls Tryd.prog 66 #[.agg #[.int .i64 a0_0, .int .i64 a0_1, .string a0_2, .string a0_3, .slice A0_4 l0_4.length c0_4]] w fun e w' => e = .returned (.bool r) ∧ Below w.heap.size w w' := by
 have hu35 := Tryd.underlying35
 have hu41 := Tryd.underlying41
 have HR0_4 := Aside0.mk hr0_4
 have HC0_4 := Aside0.mk hc0_4
 clear hr0_4 hc0_4
 have HB := Aside0.mk (Below.refl w.heap.size w)
 have H : (if a0_1 = 1 then (rows_row.j0 k true a0_0 a0_1 a0_2 a0_3 l0_4) else (rows_row.j0 k (a0_1 == 2) a0_0 a0_1 a0_2 a0_3 l0_4)) = some r := h
 clear h
 have HC2 := Aside0.mk H
 clear H
 go_enter Tryd.func66, Tryd.ntmps66
 go_upto_region 1 with (first | ((with_reducible refine gate_dst (N := 1) rfl ?_); (try (refine gate_guard (by rfl) ?_; dsimp only)); refine box_event ?hg (N := 1) ?hd (cs := #[.int .i64 a0_0, .int .i64 a0_1, .string a0_2, .string a0_3, .slice A0_4 l0_4.length c0_4]) (t := 35) ?hr ?_; (case hd => rfl); (case hg => rfl); (case hr => first | (go_simp; done) | (go_simp; rfl)); intro gb255 hg w3 hbox hb; have n0_ := Aside0.mk (below_step y14_ hb); have n1_ := Aside0.mk (hbox); have n2_ := Aside0.mk ((by rw [hg]; exact (below_size y14_) : w.heap.size ≤ gb255)); have n3_ := Aside0.mk ((by rw [hg]; exact (below_size y14_) : w.heap.size ≤ gb255)); clear HB; have HB := n0_; have BK255 := n1_; have GW255 := n2_; have GE255 := n3_; clear n0_ n1_ n2_ n3_; clear hb hbox hg))
 (try simp only [Act.put, List.setIfInBounds_toArray, List.set_cons_zero, List.set_cons_succ])
 go_cut [14] (fun v14 wc => ∃ (kq : Nat) (x14_1 : Bool), v14 = .bool x14_1 ∧ Aside0 (rows_row.j0 kq x14_1 a0_0 a0_1 a0_2 a0_3 l0_4 = some r) ∧ Aside0 (kq ≤ k) ∧ Aside0 (wc.heap[gb255]? = some (.cells #[.int .i64 a0_0, .int .i64 a0_1, .string a0_2, .string a0_3, (.slice A0_4 l0_4.length c0_4)] 35 (0, 0))) ∧ Aside0 (Below w.heap.size w wc))
 case first =>
  have H := HC2.out
  clear HC2
  by_cases c4 : a0_1 = 1
  ·rw [if_pos c4] at H
   have c4b0 : (a0_1 == 1) = true := beq_iff_eq.mpr c4
   have c4b1 : (a0_1 != 1) = false := bne_eq_false_iff_eq.mpr c4
   clear c4
   (first | rw [c4b0] | (simp only [i64_w, i32_w]; rw [c4b0]) | skip)
   have H' := Aside0.mk H
   clear H
   have hcz5_0 : w3.cell? ⟨gb255, 0, none⟩ = some (.int .i64 a0_0) := (blk_cell BK255.out 0).trans rfl
   have hcz5_1 : w3.cell? ⟨gb255, 1, none⟩ = some (.int .i64 a0_1) := (blk_cell BK255.out 1).trans rfl
   have hcz5_2 : w3.cell? ⟨gb255, 2, none⟩ = some (.string a0_2) := (blk_cell BK255.out 2).trans rfl
   have hcz5_3 : w3.cell? ⟨gb255, 3, none⟩ = some (.string a0_3) := (blk_cell BK255.out 3).trans rfl
   have hcz5_4 : w3.cell? ⟨gb255, 4, none⟩ = some (.slice A0_4 l0_4.length c0_4) := (blk_cell BK255.out 4).trans rfl
   have hfz5_0 := blk_frozen BK255.out 0
   have hfz5_1 := blk_frozen BK255.out 1
   have hfz5_2 := blk_frozen BK255.out 2
   have hfz5_3 := blk_frozen BK255.out 3
   have hfz5_4 := blk_frozen BK255.out 4
   go_wp2
   go_meet
   case rel => exact ⟨_, (true), y5_, H', ⟨y1_⟩, ⟨by (with_reducible repeat (first | refine blk_drewN ?_ _ | refine blk_drew ?_ | refine blk_alloc ?_ _)); exact BK255.out⟩, ⟨(y19_ GE255.out)⟩⟩
  ·rw [if_neg c4] at H
   have c4b0 : (a0_1 == 1) = false := beq_eq_false_iff_ne.mpr c4
   have c4b1 : (a0_1 != 1) = true := bne_iff_ne.mpr c4
   (first | rw [c4b0] | (simp only [i64_w, i32_w]; rw [c4b0]) | skip)
   have H' := Aside0.mk H
   clear H
   have hcz6_0 : w3.cell? ⟨gb255, 0, none⟩ = some (.int .i64 a0_0) := (blk_cell BK255.out 0).trans rfl
   have hcz6_1 : w3.cell? ⟨gb255, 1, none⟩ = some (.int .i64 a0_1) := (blk_cell BK255.out 1).trans rfl
   have hcz6_2 : w3.cell? ⟨gb255, 2, none⟩ = some (.string a0_2) := (blk_cell BK255.out 2).trans rfl
   have hcz6_3 : w3.cell? ⟨gb255, 3, none⟩ = some (.string a0_3) := (blk_cell BK255.out 3).trans rfl
   have hcz6_4 : w3.cell? ⟨gb255, 4, none⟩ = some (.slice A0_4 l0_4.length c0_4) := (blk_cell BK255.out 4).trans rfl
   have hfz6_0 := blk_frozen BK255.out 0
   have hfz6_1 := blk_frozen BK255.out 1
   have hfz6_2 := blk_frozen BK255.out 2
   have hfz6_3 := blk_frozen BK255.out 3
   have hfz6_4 := blk_frozen BK255.out 4
   go_wp2
   go_meet
   case rel => exact ⟨_, ((a0_1 == 2)), y5_, H', ⟨y1_⟩, ⟨by (with_reducible repeat (first | refine blk_drewN ?_ _ | refine blk_drew ?_ | refine blk_alloc ?_ _)); exact BK255.out⟩, ⟨(y19_ GE255.out)⟩⟩
 case rest =>
  clear HC2
  try clear p2
  try clear c4
  try clear c4b0
  try clear c4b1
  try clear c6
  try clear hcz5_0
  try clear hcz5_1
  try clear hcz5_2
  try clear hcz5_3
  try clear hcz5_4
  try clear hcz6_0
  try clear hcz6_1
  try clear hcz6_2
  try clear hcz6_3
  try clear hcz6_4
  try clear hfz5_0
  try clear hfz5_1
  try clear hfz5_2
  try clear hfz5_3
  try clear hfz5_4
  try clear hfz6_0
  try clear hfz6_1
  try clear hfz6_2
  try clear hfz6_3
  try clear hfz6_4
  obtain ⟨kq, x14_1, rfl, HA, HJ1, BK255, HB⟩ := hcut
  cases kq with
  | zero => exact absurd HA.out (by simp [rows_row.j0])
  | succ kj1 =>
   have H := HA.out
   clear HA
   simp only [rows_row.j0] at H
   by_cases c7 : x14_1 = true
   ·subst c7
    rw [if_pos rfl] at H
    by_cases c8 : a0_2.toList = ([] : List UInt8)
    ·rw [if_pos c8] at H
     have c8b0 : (a0_2.toList == ([] : List UInt8)) = true := beq_iff_eq.mpr c8
     have c8b1 : (a0_2.toList != ([] : List UInt8)) = false := bne_eq_false_iff_eq.mpr c8
     clear c8
     obtain rfl := Option.some.inj H
     have hcz9_0 : wc.cell? ⟨gb255, 0, none⟩ = some (.int .i64 a0_0) := (blk_cell BK255.out 0).trans rfl
     have hcz9_1 : wc.cell? ⟨gb255, 1, none⟩ = some (.int .i64 a0_1) := (blk_cell BK255.out 1).trans rfl
     have hcz9_2 : wc.cell? ⟨gb255, 2, none⟩ = some (.string a0_2) := (blk_cell BK255.out 2).trans rfl
     have hcz9_3 : wc.cell? ⟨gb255, 3, none⟩ = some (.string a0_3) := (blk_cell BK255.out 3).trans rfl
     have hcz9_4 : wc.cell? ⟨gb255, 4, none⟩ = some (.slice A0_4 l0_4.length c0_4) := (blk_cell BK255.out 4).trans rfl
     have hfz9_0 := blk_frozen BK255.out 0
     have hfz9_1 := blk_frozen BK255.out 1
     have hfz9_2 := blk_frozen BK255.out 2
     have hfz9_3 := blk_frozen BK255.out 3
     have hfz9_4 := blk_frozen BK255.out 4
     go_wp2
     go_ret
     exact ⟨y13_, (y19_ GE255.out)⟩
    ·rw [if_neg c8] at H
     have c8b0 : (a0_2.toList == ([] : List UInt8)) = false := beq_eq_false_iff_ne.mpr c8
     have c8b1 : (a0_2.toList != ([] : List UInt8)) = true := bne_iff_ne.mpr c8
     obtain rfl := Option.some.inj H
     have hcz10_0 : wc.cell? ⟨gb255, 0, none⟩ = some (.int .i64 a0_0) := (blk_cell BK255.out 0).trans rfl
     have hcz10_1 : wc.cell? ⟨gb255, 1, none⟩ = some (.int .i64 a0_1) := (blk_cell BK255.out 1).trans rfl
     have hcz10_2 : wc.cell? ⟨gb255, 2, none⟩ = some (.string a0_2) := (blk_cell BK255.out 2).trans rfl
     have hcz10_3 : wc.cell? ⟨gb255, 3, none⟩ = some (.string a0_3) := (blk_cell BK255.out 3).trans rfl
     have hcz10_4 : wc.cell? ⟨gb255, 4, none⟩ = some (.slice A0_4 l0_4.length c0_4) := (blk_cell BK255.out 4).trans rfl
     have hfz10_0 := blk_frozen BK255.out 0
     have hfz10_1 := blk_frozen BK255.out 1
     have hfz10_2 := blk_frozen BK255.out 2
     have hfz10_3 := blk_frozen BK255.out 3
     have hfz10_4 := blk_frozen BK255.out 4
     go_wp2
     go_ret
     exact ⟨y13_, (y19_ GE255.out)⟩
   ·replace c7 := Bool.eq_false_iff.mpr c7
    subst c7
    rw [if_neg (show ¬ (false = true) by decide)] at H
    have HC11 := Aside0.mk H
    clear H
    go_upto_region 3 with (fail)
    go_cut [36] (fun v36 wc => ∃ (kq : Nat) (x36_10 : Bool), v36 = .bool x36_10 ∧ Aside0 (rows_row.j1 kq x36_10 a0_0 a0_1 a0_2 a0_3 l0_4 = some r) ∧ Aside0 (kq ≤ kj1) ∧ Aside0 (wc.heap[gb255]? = some (.cells #[.int .i64 a0_0, .int .i64 a0_1, .string a0_2, .string a0_3, (.slice A0_4 l0_4.length c0_4)] 35 (0, 0))) ∧ Aside0 (Below w.heap.size w wc))
    case first =>
     have H := HC11.out
     clear HC11
     by_cases c12 : a0_1 = 0
     ·rw [if_pos c12] at H
      have c12b0 : (a0_1 == 0) = true := beq_iff_eq.mpr c12
      have c12b1 : (a0_1 != 0) = false := bne_eq_false_iff_eq.mpr c12
      clear c12
      (first | rw [c12b0] | (simp only [i64_w, i32_w]; rw [c12b0]) | skip)
      by_cases c13 : a0_2.toList = ([] : List UInt8)
      ·rw [if_pos c13] at H
       have c13b0 : (a0_2.toList == ([] : List UInt8)) = true := beq_iff_eq.mpr c13
       have c13b1 : (a0_2.toList != ([] : List UInt8)) = false := bne_eq_false_iff_eq.mpr c13
       clear c13
       have H' := Aside0.mk H
       clear H
       have hcz14_0 : wc.cell? ⟨gb255, 0, none⟩ = some (.int .i64 a0_0) := (blk_cell BK255.out 0).trans rfl
       have hcz14_1 : wc.cell? ⟨gb255, 1, none⟩ = some (.int .i64 a0_1) := (blk_cell BK255.out 1).trans rfl
       have hcz14_2 : wc.cell? ⟨gb255, 2, none⟩ = some (.string a0_2) := (blk_cell BK255.out 2).trans rfl
       have hcz14_3 : wc.cell? ⟨gb255, 3, none⟩ = some (.string a0_3) := (blk_cell BK255.out 3).trans rfl
       have hcz14_4 : wc.cell? ⟨gb255, 4, none⟩ = some (.slice A0_4 l0_4.length c0_4) := (blk_cell BK255.out 4).trans rfl
       have hfz14_0 := blk_frozen BK255.out 0
       have hfz14_1 := blk_frozen BK255.out 1
       have hfz14_2 := blk_frozen BK255.out 2
       have hfz14_3 := blk_frozen BK255.out 3
       have hfz14_4 := blk_frozen BK255.out 4
       go_wp2
       go_meet
       case rel => exact ⟨_, (true), y5_, H', ⟨by have := HJ1.out; first | omega | exact Nat.le_refl _⟩, ⟨by (with_reducible repeat (first | refine blk_drewN ?_ _ | refine blk_drew ?_ | refine blk_alloc ?_ _)); exact BK255.out⟩, ⟨(y19_ GE255.out)⟩⟩
      ·rw [if_neg c13] at H
       have c13b0 : (a0_2.toList == ([] : List UInt8)) = false := beq_eq_false_iff_ne.mpr c13
       have c13b1 : (a0_2.toList != ([] : List UInt8)) = true := bne_iff_ne.mpr c13
       have H' := Aside0.mk H
       clear H
       have hcz15_0 : wc.cell? ⟨gb255, 0, none⟩ = some (.int .i64 a0_0) := (blk_cell BK255.out 0).trans rfl
       have hcz15_1 : wc.cell? ⟨gb255, 1, none⟩ = some (.int .i64 a0_1) := (blk_cell BK255.out 1).trans rfl
       have hcz15_2 : wc.cell? ⟨gb255, 2, none⟩ = some (.string a0_2) := (blk_cell BK255.out 2).trans rfl
       have hcz15_3 : wc.cell? ⟨gb255, 3, none⟩ = some (.string a0_3) := (blk_cell BK255.out 3).trans rfl
       have hcz15_4 : wc.cell? ⟨gb255, 4, none⟩ = some (.slice A0_4 l0_4.length c0_4) := (blk_cell BK255.out 4).trans rfl
       have hfz15_0 := blk_frozen BK255.out 0
       have hfz15_1 := blk_frozen BK255.out 1
       have hfz15_2 := blk_frozen BK255.out 2
       have hfz15_3 := blk_frozen BK255.out 3
       have hfz15_4 := blk_frozen BK255.out 4
       go_wp2
       go_meet
       case rel => exact ⟨_, ((a0_3.toList != ([] : List UInt8))), y5_, H', ⟨by have := HJ1.out; first | omega | exact Nat.le_refl _⟩, ⟨by (with_reducible repeat (first | refine blk_drewN ?_ _ | refine blk_drew ?_ | refine blk_alloc ?_ _)); exact BK255.out⟩, ⟨(y19_ GE255.out)⟩⟩
     ·rw [if_neg c12] at H
      have c12b0 : (a0_1 == 0) = false := beq_eq_false_iff_ne.mpr c12
      have c12b1 : (a0_1 != 0) = true := bne_iff_ne.mpr c12
      (first | rw [c12b0] | (simp only [i64_w, i32_w]; rw [c12b0]) | skip)
      have H' := Aside0.mk H
      clear H
      have hcz16_0 : wc.cell? ⟨gb255, 0, none⟩ = some (.int .i64 a0_0) := (blk_cell BK255.out 0).trans rfl
      have hcz16_1 : wc.cell? ⟨gb255, 1, none⟩ = some (.int .i64 a0_1) := (blk_cell BK255.out 1).trans rfl
      have hcz16_2 : wc.cell? ⟨gb255, 2, none⟩ = some (.string a0_2) := (blk_cell BK255.out 2).trans rfl
      have hcz16_3 : wc.cell? ⟨gb255, 3, none⟩ = some (.string a0_3) := (blk_cell BK255.out 3).trans rfl
      have hcz16_4 : wc.cell? ⟨gb255, 4, none⟩ = some (.slice A0_4 l0_4.length c0_4) := (blk_cell BK255.out 4).trans rfl
      have hfz16_0 := blk_frozen BK255.out 0
      have hfz16_1 := blk_frozen BK255.out 1
      have hfz16_2 := blk_frozen BK255.out 2
      have hfz16_3 := blk_frozen BK255.out 3
      have hfz16_4 := blk_frozen BK255.out 4
      go_wp2
      go_meet
      case rel => exact ⟨_, (true), y5_, H', ⟨by have := HJ1.out; first | omega | exact Nat.le_refl _⟩, ⟨by (with_reducible repeat (first | refine blk_drewN ?_ _ | refine blk_drew ?_ | refine blk_alloc ?_ _)); exact BK255.out⟩, ⟨(y19_ GE255.out)⟩⟩
    case rest =>
     clear HC11
     try clear c1
     try clear p2
     try clear c4
     try clear c4b0
     try clear c4b1
     try clear c6
     try clear c7
     try clear c8
     try clear c8b0
     try clear c8b1
     try clear c12
     try clear c12b0
     try clear c12b1
     try clear c13
     try clear c13b0
     try clear c13b1
     try clear hcz10_0
     try clear hcz10_1
     try clear hcz10_2
     try clear hcz10_3
     try clear hcz10_4
     try clear hcz14_0
     try clear hcz14_1
     try clear hcz14_2
     try clear hcz14_3
     try clear hcz14_4
     try clear hcz15_0
     try clear hcz15_1
     try clear hcz15_2
     try clear hcz15_3
     try clear hcz15_4
     try clear hcz16_0
     try clear hcz16_1
     try clear hcz16_2
     try clear hcz16_3
     try clear hcz16_4
     try clear hcz5_0
     try clear hcz5_1
     try clear hcz5_2
     try clear hcz5_3
     try clear hcz5_4
     try clear hcz6_0
     try clear hcz6_1
     try clear hcz6_2
     try clear hcz6_3
     try clear hcz6_4
     try clear hcz9_0
     try clear hcz9_1
     try clear hcz9_2
     try clear hcz9_3
     try clear hcz9_4
     try clear hfz10_0
     try clear hfz10_1
     try clear hfz10_2
     try clear hfz10_3
     try clear hfz10_4
     try clear hfz14_0
     try clear hfz14_1
     try clear hfz14_2
     try clear hfz14_3
     try clear hfz14_4
     try clear hfz15_0
     try clear hfz15_1
     try clear hfz15_2
     try clear hfz15_3
     try clear hfz15_4
     try clear hfz16_0
     try clear hfz16_1
     try clear hfz16_2
     try clear hfz16_3
     try clear hfz16_4
     try clear hfz5_0
     try clear hfz5_1
     try clear hfz5_2
     try clear hfz5_3
     try clear hfz5_4
     try clear hfz6_0
     try clear hfz6_1
     try clear hfz6_2
     try clear hfz6_3
     try clear hfz6_4
     try clear hfz9_0
     try clear hfz9_1
     try clear hfz9_2
     try clear hfz9_3
     try clear hfz9_4
     try clear p2
     obtain ⟨kq, x36_10, rfl, HA, HJ10, BK255, HB⟩ := hcut
     cases kq with
     | zero => exact absurd HA.out (by simp [rows_row.j1])
     | succ kj10 =>
      have H := HA.out
      clear HA
      simp only [rows_row.j1] at H
      by_cases c17 : x36_10 = true
      ·subst c17
       rw [if_pos rfl] at H
       obtain rfl := Option.some.inj H
       go_wp2
       go_ret
       exact ⟨y13_, (y19_ GE255.out)⟩
      ·replace c17 := Bool.eq_false_iff.mpr c17
       subst c17
       rw [if_neg (show ¬ (false = true) by decide)] at H
       have H' := Aside0.mk H
       clear H
       have hcz18_0 : wc.cell? ⟨gb255, 0, none⟩ = some (.int .i64 a0_0) := (blk_cell BK255.out 0).trans rfl
       have hcz18_1 : wc.cell? ⟨gb255, 1, none⟩ = some (.int .i64 a0_1) := (blk_cell BK255.out 1).trans rfl
       have hcz18_2 : wc.cell? ⟨gb255, 2, none⟩ = some (.string a0_2) := (blk_cell BK255.out 2).trans rfl
       have hcz18_3 : wc.cell? ⟨gb255, 3, none⟩ = some (.string a0_3) := (blk_cell BK255.out 3).trans rfl
       have hcz18_4 : wc.cell? ⟨gb255, 4, none⟩ = some (.slice A0_4 l0_4.length c0_4) := (blk_cell BK255.out 4).trans rfl
       have hfz18_0 := blk_frozen BK255.out 0
       have hfz18_1 := blk_frozen BK255.out 1
       have hfz18_2 := blk_frozen BK255.out 2
       have hfz18_3 := blk_frozen BK255.out 3
       have hfz18_4 := blk_frozen BK255.out 4
       go_wp2
       go_loopg [40] kj10 (fun kq v40 w' => ∃ (x40_3 : Int), v40 = .int .i64 x40_3 ∧ Aside0 (rows_row.l0 kq l0_4 (l0_4.length : Int) x40_3 a0_0 a0_1 a0_2 a0_3 l0_4 = some r) ∧ Aside0 (kq ≤ kj10) ∧ Aside0 (w'.heap[gb255]? = some (.cells #[.int .i64 a0_0, .int .i64 a0_1, .string a0_2, .string a0_3, (.slice A0_4 l0_4.length c0_4)] 35 (0, 0))) ∧ Aside0 (Below w.heap.size w w'))
       case atStart => exact ⟨(0), y5_, H', ⟨Nat.le_refl _⟩, ⟨by (with_reducible repeat (first | refine blk_drewN ?_ _ | refine blk_drew ?_ | refine blk_alloc ?_ _)); exact BK255.out⟩, ⟨(y19_ GE255.out)⟩⟩
       case round =>
        clear H'
        try clear c1
        try clear p2
        try clear c4
        try clear c4b0
        try clear c4b1
        try clear c6
        try clear c7
        try clear c8
        try clear c8b0
        try clear c8b1
        try clear c12
        try clear c12b0
        try clear c12b1
        try clear c13
        try clear c13b0
        try clear c13b1
        try clear c17
        try clear hcz10_0
        try clear hcz10_1
        try clear hcz10_2
        try clear hcz10_3
        try clear hcz10_4
        try clear hcz14_0
        try clear hcz14_1
        try clear hcz14_2
        try clear hcz14_3
        try clear hcz14_4
        try clear hcz15_0
        try clear hcz15_1
        try clear hcz15_2
        try clear hcz15_3
        try clear hcz15_4
        try clear hcz16_0
        try clear hcz16_1
        try clear hcz16_2
        try clear hcz16_3
        try clear hcz16_4
        try clear hcz18_0
        try clear hcz18_1
        try clear hcz18_2
        try clear hcz18_3
        try clear hcz18_4
        try clear hcz5_0
        try clear hcz5_1
        try clear hcz5_2
        try clear hcz5_3
        try clear hcz5_4
        try clear hcz6_0
        try clear hcz6_1
        try clear hcz6_2
        try clear hcz6_3
        try clear hcz6_4
        try clear hcz9_0
        try clear hcz9_1
        try clear hcz9_2
        try clear hcz9_3
        try clear hcz9_4
        try clear hfz10_0
        try clear hfz10_1
        try clear hfz10_2
        try clear hfz10_3
        try clear hfz10_4
        try clear hfz14_0
        try clear hfz14_1
        try clear hfz14_2
        try clear hfz14_3
        try clear hfz14_4
        try clear hfz15_0
        try clear hfz15_1
        try clear hfz15_2
        try clear hfz15_3
        try clear hfz15_4
        try clear hfz16_0
        try clear hfz16_1
        try clear hfz16_2
        try clear hfz16_3
        try clear hfz16_4
        try clear hfz18_0
        try clear hfz18_1
        try clear hfz18_2
        try clear hfz18_3
        try clear hfz18_4
        try clear hfz5_0
        try clear hfz5_1
        try clear hfz5_2
        try clear hfz5_3
        try clear hfz5_4
        try clear hfz6_0
        try clear hfz6_1
        try clear hfz6_2
        try clear hfz6_3
        try clear hfz6_4
        try clear hfz9_0
        try clear hfz9_1
        try clear hfz9_2
        try clear hfz9_3
        try clear hfz9_4
        try clear p2
        obtain ⟨x40_3, rfl, HA, HK3, BK255, HB⟩ := hrel
        cases gk with
        | zero => exact absurd HA.out (by simp [rows_row.l0])
        | succ k3 =>
         have H := HA.out
         clear HA
         simp only [rows_row.l0] at H
         by_cases c19 : x40_3 < (l0_4.length : Int)
         ·rw [if_pos c19] at H
          have c19b0 : decide (x40_3 < (l0_4.length : Int)) = true := decide_eq_true c19
          clear c19
          by_cases c20 : 0 ≤ x40_3
          rotate_left
          ·rw [if_neg c20] at H
           exact absurd H (by simp)
          rw [if_pos c20] at H
          have c20b0 : decide (0 ≤ x40_3) = true := decide_eq_true c20
          clear c20
          by_cases c21 : x40_3 < (l0_4.length : Int)
          rotate_left
          ·rw [if_neg c21] at H
           exact absurd H (by simp)
          rw [if_pos c21] at H
          have c21b0 : decide (x40_3 < (l0_4.length : Int)) = true := decide_eq_true c21
          clear c21
          have c22b0 := eq_true (of_decide_eq_true y2_ : 0 ≤ x40_3)
          by_cases c23 : x40_3 ≤ (l0_4.length : Int)
          rotate_left
          ·rw [if_neg c23] at H
           exact absurd H (by simp)
          rw [if_pos c23] at H
          have c23b0 := eq_true c23
          have c23b1 : decide (x40_3 ≤ (l0_4.length : Int)) = true := decide_eq_true c23
          clear c23
          obtain ⟨y258, hy258⟩ : ∃ y_ : List (S41), y_ = (l0_4.take (x40_3 : Int).toNat) := ⟨_, rfl⟩
          replace H : (rows_row.l1 k3 l0_4 (l0_4.length : Int) x40_3 y258 (y258.length : Int) 0 a0_0 a0_1 a0_2 a0_3 l0_4 ((rd_T41 l0_4 x40_3).f0) ((rd_T41 l0_4 x40_3).f1)) = some r := by first | (rw [hy258]; with_reducible exact H) | (have H2_ := (Option.bind_some _ _).symm.trans H; rw [hy258]; with_reducible exact H2_) | (have H2_ := (Option.bind_some _ _).symm.trans H; with_reducible exact H2_) | with_reducible exact H | (rw [hy258]; exact H) | exact H
          have Ny258 := Aside0.mk hy258
          clear hy258
          have H' := Aside0.mk H
          clear H
          have p256 : 0 ≤ (x40_3 : Int) := of_decide_eq_true y2_
          have q256 : x40_3 < (l0_4.length : Int) := of_decide_eq_true y2_
          obtain ⟨ad256, e256, hx256_0, hx256_1⟩ := at_T41 HR0_4.out x40_3 p256 q256
          cases e256
          replace hx256_0 := (HB.out.cell (World.block_lt_of_cell? w _ hx256_0)).trans hx256_0
          replace hx256_1 := (HB.out.cell (World.block_lt_of_cell? w _ hx256_1)).trans hx256_1
          replace p256 := eq_true p256
          replace q256 := eq_true q256
          go_wp2_with (first | ((with_reducible refine gate_dst (N := 4) rfl ?_); (try (refine gate_guard (by rfl) ?_; dsimp only)); refine box_event ?hg (N := 4) ?hd (cs := #[.string (⟨#[]⟩ : ByteArray), .string (⟨#[]⟩ : ByteArray)]) (t := 41) ?hr ?_; (case hd => rfl); (case hg => rfl); (case hr => first | (go_simp; done) | (go_simp; rfl)); intro gb257 hg w24 hbox hb; have n0_ := Aside0.mk (blk_below (g := gb255) (o := .cells #[.int .i64 a0_0, .int .i64 a0_1, .string a0_2, .string a0_3, .slice (some ad256) l0_4.length c0_4] 35 (0, 0)) (y12_ BK255.out) hb); have n1_ := Aside0.mk (below_step (y19_ GE255.out) hb); have n2_ := Aside0.mk (hbox); have n3_ := Aside0.mk ((by rw [hg]; exact (below_size (y19_ GE255.out)) : w.heap.size ≤ gb257)); have n4_ := Aside0.mk ((by rw [hg]; exact (below_size (y19_ GE255.out)) : w.heap.size ≤ gb257)); have n5_ := Aside0.mk ((by rw [hg]; exact Nat.ne_of_lt (blk_lt (g := gb255) (o := .cells #[.int .i64 a0_0, .int .i64 a0_1, .string a0_2, .string a0_3, .slice (some ad256) l0_4.length c0_4] 35 (0, 0)) (y12_ BK255.out)) : gb255 ≠ gb257)); have n6_ := Aside0.mk ((by rw [hg]; exact Nat.ne_of_gt (blk_lt (g := gb255) (o := .cells #[.int .i64 a0_0, .int .i64 a0_1, .string a0_2, .string a0_3, .slice (some ad256) l0_4.length c0_4] 35 (0, 0)) (y12_ BK255.out)) : gb257 ≠ gb255)); clear BK255; clear HB; have BK255 := n0_; have HB := n1_; have BK257 := n2_; have GW257 := n3_; have GE257 := n4_; have NB255_257 := n5_; have NB257_255 := n6_; clear n0_ n1_ n2_ n3_ n4_ n5_ n6_; clear hb hbox hg; have hnb25 := NB257_255.out; have hnc25 := NB255_257.out; have hcz26_0 : w24.cell? ⟨gb257, 0, none⟩ = some (.string (⟨#[]⟩ : ByteArray)) := (blk_cell BK257.out 0).trans rfl; have hcz26_1 : w24.cell? ⟨gb257, 1, none⟩ = some (.string (⟨#[]⟩ : ByteArray)) := (blk_cell BK257.out 1).trans rfl; have hfz26_0 := blk_frozen BK257.out 0; have hfz26_1 := blk_frozen BK257.out 1) | ((with_reducible refine gate_store (t := 41) (p := 4) rfl ?_); refine store_event (t := 41) (p := 4) (v := ?vo_w27) (w1 := ((w24.setCell ⟨gb257, 0, none⟩ (.string ((rd_T41 l0_4 x40_3).f0))).setCell ⟨gb257, 1, none⟩ (.string ((rd_T41 l0_4 x40_3).f1)))) ?hg ?ho ?hn ?hr ?_; (case ho => rfl); (case hg => rfl); (case hn => rfl); (case hr => first | (go_simp; done) | (go_simp; rfl)); intro w27 hw; have n0_ : Aside0 (w27.heap[gb255]? = some (.cells #[.int .i64 a0_0, .int .i64 a0_1, .string a0_2, .string a0_3, .slice (some ad256) l0_4.length c0_4] 35 (0, 0))) := ⟨(by rw [hw]; exact (y27_ NB255_257.out BK255.out))⟩; have n1_ : Aside0 (w27.heap[gb257]? = some (.cells #[.string ((rd_T41 l0_4 x40_3).f0), .string ((rd_T41 l0_4 x40_3).f1)] 41 (0, 0))) := ⟨(by rw [hw]; exact (by (with_reducible repeat (first | refine blk_drewN ?_ _ | refine blk_drew ?_ | refine blk_alloc ?_ _)); refine blk_put (cs := #[.string ((rd_T41 l0_4 x40_3).f0), .string (⟨#[]⟩ : ByteArray)]) ?_ 1 _ rfl; (with_reducible repeat (first | refine blk_drewN ?_ _ | refine blk_drew ?_ | refine blk_alloc ?_ _)); refine blk_put (cs := #[.string (⟨#[]⟩ : ByteArray), .string (⟨#[]⟩ : ByteArray)]) ?_ 0 _ rfl; (with_reducible repeat (first | refine blk_drewN ?_ _ | refine blk_drew ?_ | refine blk_alloc ?_ _)); exact BK257.out))⟩; have n2_ : Aside0 (Below w.heap.size w w27) := ⟨(by rw [hw]; exact (y21_ GE255.out GE257.out))⟩; clear hw; clear BK255; clear BK257; clear HB; have BK255 := n0_; have BK257 := n1_; have HB := n2_; clear n0_ n1_ n2_; have hcz28_0 : w27.cell? ⟨gb255, 0, none⟩ = some (.int .i64 a0_0) := (blk_cell BK255.out 0).trans rfl; have hcz28_1 : w27.cell? ⟨gb255, 1, none⟩ = some (.int .i64 a0_1) := (blk_cell BK255.out 1).trans rfl; have hcz28_2 : w27.cell? ⟨gb255, 2, none⟩ = some (.string a0_2) := (blk_cell BK255.out 2).trans rfl; have hcz28_3 : w27.cell? ⟨gb255, 3, none⟩ = some (.string a0_3) := (blk_cell BK255.out 3).trans rfl; have hcz28_4 : w27.cell? ⟨gb255, 4, none⟩ = some (.slice (some ad256) l0_4.length c0_4) := (blk_cell BK255.out 4).trans rfl; have hfz28_0 := blk_frozen BK255.out 0; have hfz28_1 := blk_frozen BK255.out 1; have hfz28_2 := blk_frozen BK255.out 2; have hfz28_3 := blk_frozen BK255.out 3; have hfz28_4 := blk_frozen BK255.out 4; have q29 : (x40_3 : Int) ≤ ((l0_4.length : Int) : Int) := of_decide_eq_true y2_; obtain ⟨i029, hi029, _, hsz29, _⟩ := info_parts info41; have hroom29 : l0_4.length ≤ c0_4 := HC0_4.out; have hC29 : Kd.C k41 _ (some ad256) l0_4.length l0_4 := HR0_4.out; have hcut29 := cut_to (P := Tryd.prog) 33 41 .i64 Tryd.underlying33 hi029 (some ad256) l0_4.length c0_4 x40_3 (of_decide_eq_true y2_) q29 hroom29; have hr29 := Kd.C_take (m := (x40_3 : Int).toNat) hC29 (by omega); have hy29 : y258.length = (x40_3 : Int).toNat := (y0_ Ny258.out); rw [← Ny258.out] at hr29; rw [← hy29] at hcut29; have HR261 := Aside0.mk hr29; have HC261 := Aside0.mk (show y258.length ≤ c0_4 from by omega); clear hr29 hC29 hroom29 hi029 hsz29; have KY29 := Aside0.mk hy29; clear hy29; replace q29 := eq_true q29))
          go_loopg [50] k3 (fun kq v50 w' => ∃ (x50_4 : Int), v50 = .int .i64 x50_4 ∧ Aside0 (rows_row.l1 kq l0_4 (l0_4.length : Int) x40_3 y258 (y258.length : Int) x50_4 a0_0 a0_1 a0_2 a0_3 l0_4 ((rd_T41 l0_4 x40_3).f0) ((rd_T41 l0_4 x40_3).f1) = some r) ∧ Aside0 (kq ≤ k3) ∧ Aside0 (w'.heap[gb255]? = some (.cells #[.int .i64 a0_0, .int .i64 a0_1, .string a0_2, .string a0_3, (.slice (some ad256) l0_4.length c0_4)] 35 (0, 0))) ∧ Aside0 (w'.heap[gb257]? = some (.cells #[.string ((rd_T41 l0_4 x40_3).f0), .string ((rd_T41 l0_4 x40_3).f1)] 41 (0, 0))) ∧ Aside0 (Below w.heap.size w w'))
          case atStart => exact ⟨(0), y5_, H', ⟨Nat.le_refl _⟩, ⟨by (with_reducible repeat (first | refine blk_drewN ?_ _ | refine blk_drew ?_ | refine blk_alloc ?_ _)); exact BK255.out⟩, ⟨by (with_reducible repeat (first | refine blk_drewN ?_ _ | refine blk_drew ?_ | refine blk_alloc ?_ _)); exact BK257.out⟩, ⟨(y21_ GE255.out GE257.out)⟩⟩
          case round =>
           clear H'
           try clear c1
           try clear c2
           try clear p2
           try clear q2
           try clear hx2
           try clear c4
           try clear c4b0
           try clear c4b1
           try clear c6
           try clear c7
           try clear c8
           try clear c8b0
           try clear c8b1
           try clear c12
           try clear c12b0
           try clear c12b1
           try clear c13
           try clear c13b0
           try clear c13b1
           try clear c17
           try clear c19
           try clear c19b0
           try clear c20
           try clear c20b0
           try clear c21
           try clear c21b0
           try clear c22
           try clear c22b0
           try clear c23
           try clear c23b0
           try clear c23b1
           try clear c25
           try clear p25
           try clear q25
           try clear hx25
           try clear q29
           try clear hcz10_0
           try clear hcz10_1
           try clear hcz10_2
           try clear hcz10_3
           try clear hcz10_4
           try clear hcz14_0
           try clear hcz14_1
           try clear hcz14_2
           try clear hcz14_3
           try clear hcz14_4
           try clear hcz15_0
           try clear hcz15_1
           try clear hcz15_2
           try clear hcz15_3
           try clear hcz15_4
           try clear hcz16_0
           try clear hcz16_1
           try clear hcz16_2
           try clear hcz16_3
           try clear hcz16_4
           try clear hcz18_0
           try clear hcz18_1
           try clear hcz18_2
           try clear hcz18_3
           try clear hcz18_4
           try clear hcz26_0
           try clear hcz26_1
           try clear hcz28_0
           try clear hcz28_1
           try clear hcz28_2
           try clear hcz28_3
           try clear hcz28_4
           try clear hcz5_0
           try clear hcz5_1
           try clear hcz5_2
           try clear hcz5_3
           try clear hcz5_4
           try clear hcz6_0
           try clear hcz6_1
           try clear hcz6_2
           try clear hcz6_3
           try clear hcz6_4
           try clear hcz9_0
           try clear hcz9_1
           try clear hcz9_2
           try clear hcz9_3
           try clear hcz9_4
           try clear hfz10_0
           try clear hfz10_1
           try clear hfz10_2
           try clear hfz10_3
           try clear hfz10_4
           try clear hfz14_0
           try clear hfz14_1
           try clear hfz14_2
           try clear hfz14_3
           try clear hfz14_4
           try clear hfz15_0
           try clear hfz15_1
           try clear hfz15_2
           try clear hfz15_3
           try clear hfz15_4
           try clear hfz16_0
           try clear hfz16_1
           try clear hfz16_2
           try clear hfz16_3
           try clear hfz16_4
           try clear hfz18_0
           try clear hfz18_1
           try clear hfz18_2
           try clear hfz18_3
           try clear hfz18_4
           try clear hfz26_0
           try clear hfz26_1
           try clear hfz28_0
           try clear hfz28_1
           try clear hfz28_2
           try clear hfz28_3
           try clear hfz28_4
           try clear hfz5_0
           try clear hfz5_1
           try clear hfz5_2
           try clear hfz5_3
           try clear hfz5_4
           try clear hfz6_0
           try clear hfz6_1
           try clear hfz6_2
           try clear hfz6_3
           try clear hfz6_4
           try clear hfz9_0
           try clear hfz9_1
           try clear hfz9_2
           try clear hfz9_3
           try clear hfz9_4
           try clear hx256_0
           try clear hx256_1
           try clear p2
           try clear p256
           try clear q256
           try clear q29
           obtain ⟨x50_4, rfl, HA, HK4, BK255, BK257, HB⟩ := hrel
           cases gk with
           | zero => exact absurd HA.out (by simp [rows_row.l1])
           | succ k4 =>
            have H := HA.out
            clear HA
            simp only [rows_row.l1] at H
            by_cases c30 : x50_4 < (y258.length : Int)
            ·rw [if_pos c30] at H
             have c30b0 : decide (x50_4 < (y258.length : Int)) = true := decide_eq_true c30
             clear c30
             by_cases c31 : 0 ≤ x50_4
             rotate_left
             ·rw [if_neg c31] at H
              exact absurd H (by simp)
             rw [if_pos c31] at H
             have c31b0 : decide (0 ≤ x50_4) = true := decide_eq_true c31
             clear c31
             by_cases c32 : x50_4 < (y258.length : Int)
             rotate_left
             ·rw [if_neg c32] at H
              exact absurd H (by simp)
             rw [if_pos c32] at H
             have c32b0 : decide (x50_4 < (y258.length : Int)) = true := decide_eq_true c32
             clear c32
             by_cases c33 : ((rd_T41 l0_4 x40_3).f0).toList = ((rd_T41 y258 x50_4).f0).toList
             ·rw [if_pos c33] at H
              have c33b0 : (((rd_T41 l0_4 x40_3).f0).toList == ((rd_T41 y258 x50_4).f0).toList) = true := beq_iff_eq.mpr c33
              have c33b1 : (((rd_T41 l0_4 x40_3).f0).toList != ((rd_T41 y258 x50_4).f0).toList) = false := bne_eq_false_iff_eq.mpr c33
              clear c33
              obtain rfl := Option.some.inj H
              have p262 : 0 ≤ (x50_4 : Int) := of_decide_eq_true y2_
              have q262 : x50_4 < (y258.length : Int) := of_decide_eq_true y2_
              obtain ⟨ad262, e262, hx262_0, hx262_1⟩ := at_T41 HR261.out x50_4 p262 q262
              obtain rfl : ad256 = ad262 := (by injection e262)
              replace hx262_0 := (HB.out.cell (World.block_lt_of_cell? w _ hx262_0)).trans hx262_0
              replace hx262_1 := (HB.out.cell (World.block_lt_of_cell? w _ hx262_1)).trans hx262_1
              replace p262 := eq_true p262
              replace q262 := eq_true q262
              go_wp2_with (first | ((with_reducible refine gate_dst (N := 6) rfl ?_); (try (refine gate_guard (by rfl) ?_; dsimp only)); refine box_event ?hg (N := 6) ?hd (cs := #[.string (⟨#[]⟩ : ByteArray), .string (⟨#[]⟩ : ByteArray)]) (t := 41) ?hr ?_; (case hd => rfl); (case hg => rfl); (case hr => first | (go_simp; done) | (go_simp; rfl)); intro gb263 hg w34 hbox hb; have n0_ := Aside0.mk (blk_below (g := gb255) (o := .cells #[.int .i64 a0_0, .int .i64 a0_1, .string a0_2, .string a0_3, .slice (some ad256) l0_4.length c0_4] 35 (0, 0)) (y12_ BK255.out) hb); have n1_ := Aside0.mk (blk_below (g := gb257) (o := .cells #[.string ((rd_T41 l0_4 x40_3).f0), .string ((rd_T41 l0_4 x40_3).f1)] 41 (0, 0)) (y12_ BK257.out) hb); have n2_ := Aside0.mk (below_step (y21_ GE255.out GE257.out) hb); have n3_ := Aside0.mk (hbox); have n4_ := Aside0.mk ((by rw [hg]; exact (below_size (y21_ GE255.out GE257.out)) : w.heap.size ≤ gb263)); have n5_ := Aside0.mk ((by rw [hg]; exact (below_size (y21_ GE255.out GE257.out)) : w.heap.size ≤ gb263)); have n6_ := Aside0.mk ((by rw [hg]; exact Nat.ne_of_lt (blk_lt (g := gb255) (o := .cells #[.int .i64 a0_0, .int .i64 a0_1, .string a0_2, .string a0_3, .slice (some ad256) l0_4.length c0_4] 35 (0, 0)) (y12_ BK255.out)) : gb255 ≠ gb263)); have n7_ := Aside0.mk ((by rw [hg]; exact Nat.ne_of_gt (blk_lt (g := gb255) (o := .cells #[.int .i64 a0_0, .int .i64 a0_1, .string a0_2, .string a0_3, .slice (some ad256) l0_4.length c0_4] 35 (0, 0)) (y12_ BK255.out)) : gb263 ≠ gb255)); have n8_ := Aside0.mk ((by rw [hg]; exact Nat.ne_of_lt (blk_lt (g := gb257) (o := .cells #[.string ((rd_T41 l0_4 x40_3).f0), .string ((rd_T41 l0_4 x40_3).f1)] 41 (0, 0)) (y12_ BK257.out)) : gb257 ≠ gb263)); have n9_ := Aside0.mk ((by rw [hg]; exact Nat.ne_of_gt (blk_lt (g := gb257) (o := .cells #[.string ((rd_T41 l0_4 x40_3).f0), .string ((rd_T41 l0_4 x40_3).f1)] 41 (0, 0)) (y12_ BK257.out)) : gb263 ≠ gb257)); clear BK255; clear BK257; clear HB; have BK255 := n0_; have BK257 := n1_; have HB := n2_; have BK263 := n3_; have GW263 := n4_; have GE263 := n5_; have NB255_263 := n6_; have NB263_255 := n7_; have NB257_263 := n8_; have NB263_257 := n9_; clear n0_ n1_ n2_ n3_ n4_ n5_ n6_ n7_ n8_ n9_; clear hb hbox hg; have hnb35 := NB263_255.out; have hnc35 := NB255_263.out; have hnb36 := NB263_257.out; have hnc36 := NB257_263.out; have hcz37_0 : w34.cell? ⟨gb263, 0, none⟩ = some (.string (⟨#[]⟩ : ByteArray)) := (blk_cell BK263.out 0).trans rfl; have hcz37_1 : w34.cell? ⟨gb263, 1, none⟩ = some (.string (⟨#[]⟩ : ByteArray)) := (blk_cell BK263.out 1).trans rfl; have hfz37_0 := blk_frozen BK263.out 0; have hfz37_1 := blk_frozen BK263.out 1; have hnb38 := NB257_255.out; have hnc38 := NB255_257.out; have hcz39_0 : w34.cell? ⟨gb257, 0, none⟩ = some (.string ((rd_T41 l0_4 x40_3).f0)) := (blk_cell BK257.out 0).trans rfl; have hcz39_1 : w34.cell? ⟨gb257, 1, none⟩ = some (.string ((rd_T41 l0_4 x40_3).f1)) := (blk_cell BK257.out 1).trans rfl; have hfz39_0 := blk_frozen BK257.out 0; have hfz39_1 := blk_frozen BK257.out 1))
              go_ret
              exact ⟨y13_, (y24_ GE255.out GE257.out GE263.out)⟩
             ·rw [if_neg c33] at H
              have c33b0 : (((rd_T41 l0_4 x40_3).f0).toList == ((rd_T41 y258 x50_4).f0).toList) = false := beq_eq_false_iff_ne.mpr c33
              have c33b1 : (((rd_T41 l0_4 x40_3).f0).toList != ((rd_T41 y258 x50_4).f0).toList) = true := bne_iff_ne.mpr c33
              have H' := Aside0.mk H
              clear H
              have p262 : 0 ≤ (x50_4 : Int) := of_decide_eq_true y2_
              have q262 : x50_4 < (y258.length : Int) := of_decide_eq_true y2_
              obtain ⟨ad262, e262, hx262_0, hx262_1⟩ := at_T41 HR261.out x50_4 p262 q262
              obtain rfl : ad256 = ad262 := (by injection e262)
              replace hx262_0 := (HB.out.cell (World.block_lt_of_cell? w _ hx262_0)).trans hx262_0
              replace hx262_1 := (HB.out.cell (World.block_lt_of_cell? w _ hx262_1)).trans hx262_1
              replace p262 := eq_true p262
              replace q262 := eq_true q262
              go_wp2_with (first | ((with_reducible refine gate_dst (N := 6) rfl ?_); (try (refine gate_guard (by rfl) ?_; dsimp only)); refine box_event ?hg (N := 6) ?hd (cs := #[.string (⟨#[]⟩ : ByteArray), .string (⟨#[]⟩ : ByteArray)]) (t := 41) ?hr ?_; (case hd => rfl); (case hg => rfl); (case hr => first | (go_simp; done) | (go_simp; rfl)); intro gb263 hg w40 hbox hb; have n0_ := Aside0.mk (blk_below (g := gb255) (o := .cells #[.int .i64 a0_0, .int .i64 a0_1, .string a0_2, .string a0_3, .slice (some ad256) l0_4.length c0_4] 35 (0, 0)) (y12_ BK255.out) hb); have n1_ := Aside0.mk (blk_below (g := gb257) (o := .cells #[.string ((rd_T41 l0_4 x40_3).f0), .string ((rd_T41 l0_4 x40_3).f1)] 41 (0, 0)) (y12_ BK257.out) hb); have n2_ := Aside0.mk (below_step (y21_ GE255.out GE257.out) hb); have n3_ := Aside0.mk (hbox); have n4_ := Aside0.mk ((by rw [hg]; exact (below_size (y21_ GE255.out GE257.out)) : w.heap.size ≤ gb263)); have n5_ := Aside0.mk ((by rw [hg]; exact (below_size (y21_ GE255.out GE257.out)) : w.heap.size ≤ gb263)); have n6_ := Aside0.mk ((by rw [hg]; exact Nat.ne_of_lt (blk_lt (g := gb255) (o := .cells #[.int .i64 a0_0, .int .i64 a0_1, .string a0_2, .string a0_3, .slice (some ad256) l0_4.length c0_4] 35 (0, 0)) (y12_ BK255.out)) : gb255 ≠ gb263)); have n7_ := Aside0.mk ((by rw [hg]; exact Nat.ne_of_gt (blk_lt (g := gb255) (o := .cells #[.int .i64 a0_0, .int .i64 a0_1, .string a0_2, .string a0_3, .slice (some ad256) l0_4.length c0_4] 35 (0, 0)) (y12_ BK255.out)) : gb263 ≠ gb255)); have n8_ := Aside0.mk ((by rw [hg]; exact Nat.ne_of_lt (blk_lt (g := gb257) (o := .cells #[.string ((rd_T41 l0_4 x40_3).f0), .string ((rd_T41 l0_4 x40_3).f1)] 41 (0, 0)) (y12_ BK257.out)) : gb257 ≠ gb263)); have n9_ := Aside0.mk ((by rw [hg]; exact Nat.ne_of_gt (blk_lt (g := gb257) (o := .cells #[.string ((rd_T41 l0_4 x40_3).f0), .string ((rd_T41 l0_4 x40_3).f1)] 41 (0, 0)) (y12_ BK257.out)) : gb263 ≠ gb257)); clear BK255; clear BK257; clear HB; have BK255 := n0_; have BK257 := n1_; have HB := n2_; have BK263 := n3_; have GW263 := n4_; have GE263 := n5_; have NB255_263 := n6_; have NB263_255 := n7_; have NB257_263 := n8_; have NB263_257 := n9_; clear n0_ n1_ n2_ n3_ n4_ n5_ n6_ n7_ n8_ n9_; clear hb hbox hg; have hnb41 := NB263_255.out; have hnc41 := NB255_263.out; have hnb42 := NB263_257.out; have hnc42 := NB257_263.out; have hcz43_0 : w40.cell? ⟨gb263, 0, none⟩ = some (.string (⟨#[]⟩ : ByteArray)) := (blk_cell BK263.out 0).trans rfl; have hcz43_1 : w40.cell? ⟨gb263, 1, none⟩ = some (.string (⟨#[]⟩ : ByteArray)) := (blk_cell BK263.out 1).trans rfl; have hfz43_0 := blk_frozen BK263.out 0; have hfz43_1 := blk_frozen BK263.out 1; have hnb44 := NB257_255.out; have hnc44 := NB255_257.out; have hcz45_0 : w40.cell? ⟨gb257, 0, none⟩ = some (.string ((rd_T41 l0_4 x40_3).f0)) := (blk_cell BK257.out 0).trans rfl; have hcz45_1 : w40.cell? ⟨gb257, 1, none⟩ = some (.string ((rd_T41 l0_4 x40_3).f1)) := (blk_cell BK257.out 1).trans rfl; have hfz45_0 := blk_frozen BK257.out 0; have hfz45_1 := blk_frozen BK257.out 1))
              go_roundg k4
              case measure => have := HJ1.out; have := HJ10.out; have := HK3.out; have := HK4.out; omega
              case rel => exact ⟨(wrap64 (x50_4 + 1)), y5_, H', ⟨by have := HJ1.out; have := HJ10.out; have := HK3.out; have := HK4.out; omega⟩, ⟨by (with_reducible repeat (first | refine blk_drewN ?_ _ | refine blk_drew ?_ | refine blk_alloc ?_ _)); refine blk_far ?_ NB255_263.out _; (with_reducible repeat (first | refine blk_drewN ?_ _ | refine blk_drew ?_ | refine blk_alloc ?_ _)); refine blk_far ?_ NB255_263.out _; (with_reducible repeat (first | refine blk_drewN ?_ _ | refine blk_drew ?_ | refine blk_alloc ?_ _)); exact BK255.out⟩, ⟨by (with_reducible repeat (first | refine blk_drewN ?_ _ | refine blk_drew ?_ | refine blk_alloc ?_ _)); refine blk_far ?_ NB257_263.out _; (with_reducible repeat (first | refine blk_drewN ?_ _ | refine blk_drew ?_ | refine blk_alloc ?_ _)); refine blk_far ?_ NB257_263.out _; (with_reducible repeat (first | refine blk_drewN ?_ _ | refine blk_drew ?_ | refine blk_alloc ?_ _)); exact BK257.out⟩, ⟨(y24_ GE255.out GE257.out GE263.out)⟩⟩
            ·rw [if_neg c30] at H
             have c30b0 : decide (x50_4 < (y258.length : Int)) = false := decide_eq_false c30
             clear c30
             have H' := Aside0.mk H
             clear H
             go_wp2
             go_roundg k4
             case measure => have := HJ1.out; have := HJ10.out; have := HK3.out; have := HK4.out; omega
             case rel => exact ⟨(wrap64 (x40_3 + 1)), y5_, H', ⟨by have := HJ1.out; have := HJ10.out; have := HK3.out; have := HK4.out; omega⟩, ⟨by (with_reducible repeat (first | refine blk_drewN ?_ _ | refine blk_drew ?_ | refine blk_alloc ?_ _)); exact BK255.out⟩, ⟨(y21_ GE255.out GE257.out)⟩⟩
         ·rw [if_neg c19] at H
          have c19b0 : decide (x40_3 < (l0_4.length : Int)) = false := decide_eq_false c19
          clear c19
          obtain rfl := Option.some.inj H
          go_wp2
          go_ret
          exact ⟨y13_, (y19_ GE255.out)⟩
end Go.Proofs.YtpnhjipaeggcpaaDoor.X
end
section
namespace Go.Proofs.YtpnhjipaeggcpaaDoor.X
open Go.RowKit Go.Proofs.YtpnhjipaeggcpaaDoorW.PrintWords Go.Proofs.YtpnhjipaeggcpaaDoorW.PrintLast Go.Proofs.YtpnhjipaeggcpaaDoorW.PrintMore
attribute [local go_sem] max2_int min2_int max_two min_two max_three min_three max_four min_four
mutual
def rows_right.l0 : Nat → Int → List (S35) → Int → Int → Option (Bool)
 | 0, _, _, _, _ => none
 | k + 1, x3, x6, x7, x8 => if x8 < x7 then (if 0 ≤ x8 then (if x8 < (x6.length : Int) then (if ((rd_T35 x6 x8).f0) < 0 then (rows_right.j1 k x6 x7 x8 true ((rd_T35 x6 x8).f0) ((rd_T35 x6 x8).f1) ((rd_T35 x6 x8).f2) ((rd_T35 x6 x8).f3) ((rd_T35 x6 x8).f4)) else (if ((rd_T35 x6 x8).f0) > x3 then (rows_right.j1 k x6 x7 x8 true ((rd_T35 x6 x8).f0) ((rd_T35 x6 x8).f1) ((rd_T35 x6 x8).f2) ((rd_T35 x6 x8).f3) ((rd_T35 x6 x8).f4)) else ((rows_row.f k ((rd_T35 x6 x8).f0) ((rd_T35 x6 x8).f1) ((rd_T35 x6 x8).f2) ((rd_T35 x6 x8).f3) ((rd_T35 x6 x8).f4)).bind fun t266 => (rows_right.j1 k x6 x7 x8 (!t266) ((rd_T35 x6 x8).f0) ((rd_T35 x6 x8).f1) ((rd_T35 x6 x8).f2) ((rd_T35 x6 x8).f3) ((rd_T35 x6 x8).f4))))) else (none)) else (none)) else (some true)
def rows_right.j1 : Nat → List (S35) → Int → Int → Bool → Int → Int → ByteArray → ByteArray → List (S41) → Option (Bool)
 | 0, _, _, _, _, _, _, _, _, _ => none
 | k + 1, x6, x7, x8, x25, x266000, x266001, x266002, x266003, x266004 => if x25 = true then (some false) else (if x266001 = 0 then (rows_right.l0 k (wrap64 (x266000 + 1)) x6 x7 (wrap64 (x8 + 1))) else (rows_right.l0 k x266000 x6 x7 (wrap64 (x8 + 1))))
end
def rows_right.f (k : Nat) (l0 : List (S35)) : Option (Bool) := rows_right.l0 k 0 l0 (l0.length : Int) 0
set_option maxHeartbeats 8000000 in
set_option maxRecDepth 100000 in
theorem rows_right.calls (k : Nat) (A0 : Option Addr) (c0 : Nat) (l0 : List (S35)) (r : Bool) (w : World) (hr0 : Kd.C k35 w A0 l0.length l0) (hc0 : l0.length ≤ c0) (h : rows_right.f k l0 = some r) :
  Calls Tryd.prog 44 #[.slice A0 l0.length c0] w fun e w' => e = .returned (.bool r) ∧ Below w.heap.size w w' := by
 have hu35 := Tryd.underlying35
 have HR0 := Aside0.mk hr0
 have HC0 := Aside0.mk hc0
 clear hr0 hc0
 have HB := Aside0.mk (Below.refl w.heap.size w)
 have H : (rows_right.l0 k 0 l0 (l0.length : Int) 0) = some r := h
 clear h
 have H' := Aside0.mk H
 clear H
 go_enter Tryd.func44, Tryd.ntmps44
 go_wp2
 go_loopg [3, 8] k (fun kq v3 v8 w' => ∃ (x3_1 : Int) (x8_1 : Int), v3 = .int .i64 x3_1 ∧ v8 = .int .i64 x8_1 ∧ Aside0 (rows_right.l0 kq x3_1 l0 (l0.length : Int) x8_1 = some r) ∧ Aside0 (kq ≤ k) ∧ Aside0 (Below w.heap.size w w'))
 case atStart => exact ⟨(0), (0), y5_, y5_, H', ⟨Nat.le_refl _⟩, ⟨y14_⟩⟩
 case round =>
  clear H'
  obtain ⟨x3_1, x8_1, rfl, rfl, HA, HK1, HB⟩ := hrel
  cases gk with
  | zero => exact absurd HA.out (by simp [rows_right.l0])
  | succ k1 =>
   have H := HA.out
   clear HA
   simp only [rows_right.l0] at H
   by_cases c2 : x8_1 < (l0.length : Int)
   ·rw [if_pos c2] at H
    have c2b0 : decide (x8_1 < (l0.length : Int)) = true := decide_eq_true c2
    clear c2
    by_cases c3 : 0 ≤ x8_1
    rotate_left
    ·rw [if_neg c3] at H
     exact absurd H (by simp)
    rw [if_pos c3] at H
    have c3b0 : decide (0 ≤ x8_1) = true := decide_eq_true c3
    clear c3
    by_cases c4 : x8_1 < (l0.length : Int)
    rotate_left
    ·rw [if_neg c4] at H
     exact absurd H (by simp)
    rw [if_pos c4] at H
    have c4b0 : decide (x8_1 < (l0.length : Int)) = true := decide_eq_true c4
    clear c4
    have HC5 := Aside0.mk H
    clear H
    have p264 : 0 ≤ (x8_1 : Int) := of_decide_eq_true y2_
    have q264 : x8_1 < (l0.length : Int) := of_decide_eq_true y2_
    obtain ⟨ad264, A264_4, c264_4, e264, hx264_0, hx264_1, hx264_2, hx264_3, hx264_4, hl264_4, hi264_4⟩ := at_T35 HR0.out x8_1 p264 q264
    cases e264
    replace hx264_0 := (HB.out.cell (World.block_lt_of_cell? w _ hx264_0)).trans hx264_0
    replace hx264_1 := (HB.out.cell (World.block_lt_of_cell? w _ hx264_1)).trans hx264_1
    replace hx264_2 := (HB.out.cell (World.block_lt_of_cell? w _ hx264_2)).trans hx264_2
    replace hx264_3 := (HB.out.cell (World.block_lt_of_cell? w _ hx264_3)).trans hx264_3
    replace hx264_4 := (HB.out.cell (World.block_lt_of_cell? w _ hx264_4)).trans hx264_4
    have HR264_4 := Aside0.mk hi264_4
    have HC264_4 := Aside0.mk hl264_4
    clear hi264_4 hl264_4
    replace p264 := eq_true p264
    replace q264 := eq_true q264
    go_upto_region 5 with (first | ((with_reducible refine gate_dst (N := 5) rfl ?_); refine box_event ?hg (N := 5) ?hd (cs := #[.int .i64 0, .int .i64 0, .string (⟨#[]⟩ : ByteArray), .string (⟨#[]⟩ : ByteArray), .slice none 0 0]) (t := 35) ?hr ?_; (case hd => rfl); (case hg => rfl); (case hr => first | (go_simp; done) | (go_simp; rfl)); intro gb265 hg w6 hbox hb; have n0_ := Aside0.mk (below_step y14_ hb); have n1_ := Aside0.mk (hbox); have n2_ := Aside0.mk ((by rw [hg]; exact (below_size y14_) : w.heap.size ≤ gb265)); have n3_ := Aside0.mk ((by rw [hg]; exact (below_size y14_) : w.heap.size ≤ gb265)); clear HB; have HB := n0_; have BK265 := n1_; have GW265 := n2_; have GE265 := n3_; clear n0_ n1_ n2_ n3_; clear hb hbox hg; have hcz7_0 : w6.cell? ⟨gb265, 0, none⟩ = some (.int .i64 0) := (blk_cell BK265.out 0).trans rfl; have hcz7_1 : w6.cell? ⟨gb265, 1, none⟩ = some (.int .i64 0) := (blk_cell BK265.out 1).trans rfl; have hcz7_2 : w6.cell? ⟨gb265, 2, none⟩ = some (.string (⟨#[]⟩ : ByteArray)) := (blk_cell BK265.out 2).trans rfl; have hcz7_3 : w6.cell? ⟨gb265, 3, none⟩ = some (.string (⟨#[]⟩ : ByteArray)) := (blk_cell BK265.out 3).trans rfl; have hcz7_4 : w6.cell? ⟨gb265, 4, none⟩ = some (.slice none 0 0) := (blk_cell BK265.out 4).trans rfl; have hfz7_0 := blk_frozen BK265.out 0; have hfz7_1 := blk_frozen BK265.out 1; have hfz7_2 := blk_frozen BK265.out 2; have hfz7_3 := blk_frozen BK265.out 3; have hfz7_4 := blk_frozen BK265.out 4))
    (try simp only [Act.put, List.setIfInBounds_toArray, List.set_cons_zero, List.set_cons_succ])
    go_cut [25] (fun v25 wc => ∃ (kq : Nat) (x25_4 : Bool), v25 = .bool x25_4 ∧ Aside0 (rows_right.j1 kq l0 (l0.length : Int) x8_1 x25_4 ((rd_T35 l0 x8_1).f0) ((rd_T35 l0 x8_1).f1) ((rd_T35 l0 x8_1).f2) ((rd_T35 l0 x8_1).f3) ((rd_T35 l0 x8_1).f4) = some r) ∧ Aside0 (kq ≤ k1) ∧ Aside0 (wc.heap[gb265]? = some (.cells #[.int .i64 ((rd_T35 l0 x8_1).f0), .int .i64 ((rd_T35 l0 x8_1).f1), .string ((rd_T35 l0 x8_1).f2), .string ((rd_T35 l0 x8_1).f3), (.slice A264_4 ((rd_T35 l0 x8_1).f4).length c264_4)] 35 (0, 0))) ∧ Aside0 (Below w.heap.size w wc))
    case first =>
     have H := HC5.out
     clear HC5
     by_cases c8 : ((rd_T35 l0 x8_1).f0) < 0
     ·rw [if_pos c8] at H
      have c8b0 : decide (((rd_T35 l0 x8_1).f0) < 0) = true := decide_eq_true c8
      clear c8
      (first | rw [c8b0] | (simp only [i64_w, i32_w]; rw [c8b0]) | skip)
      have H' := Aside0.mk H
      clear H
      have hcz9_0 : w6.cell? ⟨gb265, 0, none⟩ = some (.int .i64 0) := (blk_cell BK265.out 0).trans rfl
      have hcz9_1 : w6.cell? ⟨gb265, 1, none⟩ = some (.int .i64 0) := (blk_cell BK265.out 1).trans rfl
      have hcz9_2 : w6.cell? ⟨gb265, 2, none⟩ = some (.string (⟨#[]⟩ : ByteArray)) := (blk_cell BK265.out 2).trans rfl
      have hcz9_3 : w6.cell? ⟨gb265, 3, none⟩ = some (.string (⟨#[]⟩ : ByteArray)) := (blk_cell BK265.out 3).trans rfl
      have hcz9_4 : w6.cell? ⟨gb265, 4, none⟩ = some (.slice none 0 0) := (blk_cell BK265.out 4).trans rfl
      have hfz9_0 := blk_frozen BK265.out 0
      have hfz9_1 := blk_frozen BK265.out 1
      have hfz9_2 := blk_frozen BK265.out 2
      have hfz9_3 := blk_frozen BK265.out 3
      have hfz9_4 := blk_frozen BK265.out 4
      go_wp2
      go_meet
      case rel => exact ⟨_, (true), y5_, H', ⟨by have := HK1.out; first | omega | exact Nat.le_refl _⟩, ⟨by (with_reducible repeat (first | refine blk_drewN ?_ _ | refine blk_drew ?_ | refine blk_alloc ?_ _)); refine blk_put (cs := #[.int .i64 ((rd_T35 l0 x8_1).f0), .int .i64 ((rd_T35 l0 x8_1).f1), .string ((rd_T35 l0 x8_1).f2), .string ((rd_T35 l0 x8_1).f3), .slice none 0 0]) ?_ 4 _ rfl; (with_reducible repeat (first | refine blk_drewN ?_ _ | refine blk_drew ?_ | refine blk_alloc ?_ _)); refine blk_put (cs := #[.int .i64 ((rd_T35 l0 x8_1).f0), .int .i64 ((rd_T35 l0 x8_1).f1), .string ((rd_T35 l0 x8_1).f2), .string (⟨#[]⟩ : ByteArray), .slice none 0 0]) ?_ 3 _ rfl; (with_reducible repeat (first | refine blk_drewN ?_ _ | refine blk_drew ?_ | refine blk_alloc ?_ _)); refine blk_put (cs := #[.int .i64 ((rd_T35 l0 x8_1).f0), .int .i64 ((rd_T35 l0 x8_1).f1), .string (⟨#[]⟩ : ByteArray), .string (⟨#[]⟩ : ByteArray), .slice none 0 0]) ?_ 2 _ rfl; (with_reducible repeat (first | refine blk_drewN ?_ _ | refine blk_drew ?_ | refine blk_alloc ?_ _)); refine blk_put (cs := #[.int .i64 ((rd_T35 l0 x8_1).f0), .int .i64 0, .string (⟨#[]⟩ : ByteArray), .string (⟨#[]⟩ : ByteArray), .slice none 0 0]) ?_ 1 _ rfl; (with_reducible repeat (first | refine blk_drewN ?_ _ | refine blk_drew ?_ | refine blk_alloc ?_ _)); refine blk_put (cs := #[.int .i64 0, .int .i64 0, .string (⟨#[]⟩ : ByteArray), .string (⟨#[]⟩ : ByteArray), .slice none 0 0]) ?_ 0 _ rfl; (with_reducible repeat (first | refine blk_drewN ?_ _ | refine blk_drew ?_ | refine blk_alloc ?_ _)); exact BK265.out⟩, ⟨(y19_ GE265.out)⟩⟩
     ·rw [if_neg c8] at H
      have c8b0 : decide (((rd_T35 l0 x8_1).f0) < 0) = false := decide_eq_false c8
      clear c8
      (first | rw [c8b0] | (simp only [i64_w, i32_w]; rw [c8b0]) | skip)
      by_cases c10 : ((rd_T35 l0 x8_1).f0) > x3_1
      ·rw [if_pos c10] at H
       have c10b0 : decide (x3_1 < ((rd_T35 l0 x8_1).f0)) = true := decide_eq_true c10
       clear c10
       have H' := Aside0.mk H
       clear H
       have hcz11_0 : w6.cell? ⟨gb265, 0, none⟩ = some (.int .i64 0) := (blk_cell BK265.out 0).trans rfl
       have hcz11_1 : w6.cell? ⟨gb265, 1, none⟩ = some (.int .i64 0) := (blk_cell BK265.out 1).trans rfl
       have hcz11_2 : w6.cell? ⟨gb265, 2, none⟩ = some (.string (⟨#[]⟩ : ByteArray)) := (blk_cell BK265.out 2).trans rfl
       have hcz11_3 : w6.cell? ⟨gb265, 3, none⟩ = some (.string (⟨#[]⟩ : ByteArray)) := (blk_cell BK265.out 3).trans rfl
       have hcz11_4 : w6.cell? ⟨gb265, 4, none⟩ = some (.slice none 0 0) := (blk_cell BK265.out 4).trans rfl
       have hfz11_0 := blk_frozen BK265.out 0
       have hfz11_1 := blk_frozen BK265.out 1
       have hfz11_2 := blk_frozen BK265.out 2
       have hfz11_3 := blk_frozen BK265.out 3
       have hfz11_4 := blk_frozen BK265.out 4
       go_wp2
       go_meet
       case rel => exact ⟨_, (true), y5_, H', ⟨by have := HK1.out; first | omega | exact Nat.le_refl _⟩, ⟨by (with_reducible repeat (first | refine blk_drewN ?_ _ | refine blk_drew ?_ | refine blk_alloc ?_ _)); refine blk_put (cs := #[.int .i64 ((rd_T35 l0 x8_1).f0), .int .i64 ((rd_T35 l0 x8_1).f1), .string ((rd_T35 l0 x8_1).f2), .string ((rd_T35 l0 x8_1).f3), .slice none 0 0]) ?_ 4 _ rfl; (with_reducible repeat (first | refine blk_drewN ?_ _ | refine blk_drew ?_ | refine blk_alloc ?_ _)); refine blk_put (cs := #[.int .i64 ((rd_T35 l0 x8_1).f0), .int .i64 ((rd_T35 l0 x8_1).f1), .string ((rd_T35 l0 x8_1).f2), .string (⟨#[]⟩ : ByteArray), .slice none 0 0]) ?_ 3 _ rfl; (with_reducible repeat (first | refine blk_drewN ?_ _ | refine blk_drew ?_ | refine blk_alloc ?_ _)); refine blk_put (cs := #[.int .i64 ((rd_T35 l0 x8_1).f0), .int .i64 ((rd_T35 l0 x8_1).f1), .string (⟨#[]⟩ : ByteArray), .string (⟨#[]⟩ : ByteArray), .slice none 0 0]) ?_ 2 _ rfl; (with_reducible repeat (first | refine blk_drewN ?_ _ | refine blk_drew ?_ | refine blk_alloc ?_ _)); refine blk_put (cs := #[.int .i64 ((rd_T35 l0 x8_1).f0), .int .i64 0, .string (⟨#[]⟩ : ByteArray), .string (⟨#[]⟩ : ByteArray), .slice none 0 0]) ?_ 1 _ rfl; (with_reducible repeat (first | refine blk_drewN ?_ _ | refine blk_drew ?_ | refine blk_alloc ?_ _)); refine blk_put (cs := #[.int .i64 0, .int .i64 0, .string (⟨#[]⟩ : ByteArray), .string (⟨#[]⟩ : ByteArray), .slice none 0 0]) ?_ 0 _ rfl; (with_reducible repeat (first | refine blk_drewN ?_ _ | refine blk_drew ?_ | refine blk_alloc ?_ _)); exact BK265.out⟩, ⟨(y19_ GE265.out)⟩⟩
      ·rw [if_neg c10] at H
       have c10b0 : decide (x3_1 < ((rd_T35 l0 x8_1).f0)) = false := decide_eq_false c10
       clear c10
       replace H := Option.bind_eq_some_iff.mp H
       obtain ⟨t266, A120, H⟩ := H
       have A12 := Aside0.mk A120
       clear A120
       have H' := Aside0.mk H
       clear H
       have hcz13_0 : w6.cell? ⟨gb265, 0, none⟩ = some (.int .i64 0) := (blk_cell BK265.out 0).trans rfl
       have hcz13_1 : w6.cell? ⟨gb265, 1, none⟩ = some (.int .i64 0) := (blk_cell BK265.out 1).trans rfl
       have hcz13_2 : w6.cell? ⟨gb265, 2, none⟩ = some (.string (⟨#[]⟩ : ByteArray)) := (blk_cell BK265.out 2).trans rfl
       have hcz13_3 : w6.cell? ⟨gb265, 3, none⟩ = some (.string (⟨#[]⟩ : ByteArray)) := (blk_cell BK265.out 3).trans rfl
       have hcz13_4 : w6.cell? ⟨gb265, 4, none⟩ = some (.slice none 0 0) := (blk_cell BK265.out 4).trans rfl
       have hfz13_0 := blk_frozen BK265.out 0
       have hfz13_1 := blk_frozen BK265.out 1
       have hfz13_2 := blk_frozen BK265.out 2
       have hfz13_3 := blk_frozen BK265.out 3
       have hfz13_4 := blk_frozen BK265.out 4
       go_wp2_with (first | (go_at_call 66; (with_reducible refine (rows_row.calls k1 ((rd_T35 l0 x8_1).f0) ((rd_T35 l0 x8_1).f1) ((rd_T35 l0 x8_1).f2) ((rd_T35 l0 x8_1).f3) _ _ ((rd_T35 l0 x8_1).f4) t266 _ ?side1 ?side2 A12.out).mono ?_); (case side1 => exact Kd.C_below HR264_4.out (y19_ GE265.out)); (case side2 => exact HC264_4.out); rintro e w14 ⟨rfl, hb⟩; have n0_ := Aside0.mk (blk_below (g := gb265) (o := .cells #[.int .i64 ((rd_T35 l0 x8_1).f0), .int .i64 ((rd_T35 l0 x8_1).f1), .string ((rd_T35 l0 x8_1).f2), .string ((rd_T35 l0 x8_1).f3), .slice A264_4 ((rd_T35 l0 x8_1).f4).length c264_4] 35 (0, 0)) (by (with_reducible repeat (first | refine blk_drewN ?_ _ | refine blk_drew ?_ | refine blk_alloc ?_ _)); refine blk_put (cs := #[.int .i64 ((rd_T35 l0 x8_1).f0), .int .i64 ((rd_T35 l0 x8_1).f1), .string ((rd_T35 l0 x8_1).f2), .string ((rd_T35 l0 x8_1).f3), .slice none 0 0]) ?_ 4 _ rfl; (with_reducible repeat (first | refine blk_drewN ?_ _ | refine blk_drew ?_ | refine blk_alloc ?_ _)); refine blk_put (cs := #[.int .i64 ((rd_T35 l0 x8_1).f0), .int .i64 ((rd_T35 l0 x8_1).f1), .string ((rd_T35 l0 x8_1).f2), .string (⟨#[]⟩ : ByteArray), .slice none 0 0]) ?_ 3 _ rfl; (with_reducible repeat (first | refine blk_drewN ?_ _ | refine blk_drew ?_ | refine blk_alloc ?_ _)); refine blk_put (cs := #[.int .i64 ((rd_T35 l0 x8_1).f0), .int .i64 ((rd_T35 l0 x8_1).f1), .string (⟨#[]⟩ : ByteArray), .string (⟨#[]⟩ : ByteArray), .slice none 0 0]) ?_ 2 _ rfl; (with_reducible repeat (first | refine blk_drewN ?_ _ | refine blk_drew ?_ | refine blk_alloc ?_ _)); refine blk_put (cs := #[.int .i64 ((rd_T35 l0 x8_1).f0), .int .i64 0, .string (⟨#[]⟩ : ByteArray), .string (⟨#[]⟩ : ByteArray), .slice none 0 0]) ?_ 1 _ rfl; (with_reducible repeat (first | refine blk_drewN ?_ _ | refine blk_drew ?_ | refine blk_alloc ?_ _)); refine blk_put (cs := #[.int .i64 0, .int .i64 0, .string (⟨#[]⟩ : ByteArray), .string (⟨#[]⟩ : ByteArray), .slice none 0 0]) ?_ 0 _ rfl; (with_reducible repeat (first | refine blk_drewN ?_ _ | refine blk_drew ?_ | refine blk_alloc ?_ _)); exact BK265.out) hb); have n1_ := Aside0.mk (below_step (y19_ GE265.out) hb); clear BK265; clear HB; have BK265 := n0_; have HB := n1_; clear n0_ n1_; (try clear hb); (try clear hb2); (try clear hk); (try clear hi)))
       go_meet
       case rel => exact ⟨_, (!t266), y5_, H', ⟨by have := HK1.out; first | omega | exact Nat.le_refl _⟩, ⟨by (with_reducible repeat (first | refine blk_drewN ?_ _ | refine blk_drew ?_ | refine blk_alloc ?_ _)); exact BK265.out⟩, ⟨(y19_ GE265.out)⟩⟩
    case rest =>
     clear HC5
     try clear c1
     try clear c2
     try clear c2b0
     try clear p2
     try clear q2
     try clear hx2
     try clear c3
     try clear c3b0
     try clear c4
     try clear c4b0
     try clear c8
     try clear c8b0
     try clear c10
     try clear c10b0
     try clear hcz11_0
     try clear hcz11_1
     try clear hcz11_2
     try clear hcz11_3
     try clear hcz11_4
     try clear hcz13_0
     try clear hcz13_1
     try clear hcz13_2
     try clear hcz13_3
     try clear hcz13_4
     try clear hcz7_0
     try clear hcz7_1
     try clear hcz7_2
     try clear hcz7_3
     try clear hcz7_4
     try clear hcz9_0
     try clear hcz9_1
     try clear hcz9_2
     try clear hcz9_3
     try clear hcz9_4
     try clear hfz11_0
     try clear hfz11_1
     try clear hfz11_2
     try clear hfz11_3
     try clear hfz11_4
     try clear hfz13_0
     try clear hfz13_1
     try clear hfz13_2
     try clear hfz13_3
     try clear hfz13_4
     try clear hfz7_0
     try clear hfz7_1
     try clear hfz7_2
     try clear hfz7_3
     try clear hfz7_4
     try clear hfz9_0
     try clear hfz9_1
     try clear hfz9_2
     try clear hfz9_3
     try clear hfz9_4
     try clear hx264_0
     try clear hx264_1
     try clear hx264_2
     try clear hx264_3
     try clear hx264_4
     try clear p264
     try clear q264
     obtain ⟨kq, x25_4, rfl, HA, HJ4, BK265, HB⟩ := hcut
     cases kq with
     | zero => exact absurd HA.out (by simp [rows_right.j1])
     | succ kj4 =>
      have H := HA.out
      clear HA
      simp only [rows_right.j1] at H
      by_cases c15 : x25_4 = true
      ·subst c15
       rw [if_pos rfl] at H
       obtain rfl := Option.some.inj H
       go_wp2
       go_ret
       exact ⟨y13_, (y19_ GE265.out)⟩
      ·replace c15 := Bool.eq_false_iff.mpr c15
       subst c15
       rw [if_neg (show ¬ (false = true) by decide)] at H
       by_cases c16 : ((rd_T35 l0 x8_1).f1) = 0
       ·rw [if_pos c16] at H
        have c16b0 : (((rd_T35 l0 x8_1).f1) == 0) = true := beq_iff_eq.mpr c16
        have c16b1 : (((rd_T35 l0 x8_1).f1) != 0) = false := bne_eq_false_iff_eq.mpr c16
        clear c16
        have H' := Aside0.mk H
        clear H
        have hcz17_0 : wc.cell? ⟨gb265, 0, none⟩ = some (.int .i64 ((rd_T35 l0 x8_1).f0)) := (blk_cell BK265.out 0).trans rfl
        have hcz17_1 : wc.cell? ⟨gb265, 1, none⟩ = some (.int .i64 ((rd_T35 l0 x8_1).f1)) := (blk_cell BK265.out 1).trans rfl
        have hcz17_2 : wc.cell? ⟨gb265, 2, none⟩ = some (.string ((rd_T35 l0 x8_1).f2)) := (blk_cell BK265.out 2).trans rfl
        have hcz17_3 : wc.cell? ⟨gb265, 3, none⟩ = some (.string ((rd_T35 l0 x8_1).f3)) := (blk_cell BK265.out 3).trans rfl
        have hcz17_4 : wc.cell? ⟨gb265, 4, none⟩ = some (.slice A264_4 ((rd_T35 l0 x8_1).f4).length c264_4) := (blk_cell BK265.out 4).trans rfl
        have hfz17_0 := blk_frozen BK265.out 0
        have hfz17_1 := blk_frozen BK265.out 1
        have hfz17_2 := blk_frozen BK265.out 2
        have hfz17_3 := blk_frozen BK265.out 3
        have hfz17_4 := blk_frozen BK265.out 4
        go_wp2
        go_roundg kj4
        case measure => have := HK1.out; have := HJ4.out; omega
        case rel => exact ⟨(wrap64 (((rd_T35 l0 x8_1).f0) + 1)), (wrap64 (x8_1 + 1)), y5_, y5_, H', ⟨by have := HK1.out; have := HJ4.out; omega⟩, ⟨(y19_ GE265.out)⟩⟩
       ·rw [if_neg c16] at H
        have c16b0 : (((rd_T35 l0 x8_1).f1) == 0) = false := beq_eq_false_iff_ne.mpr c16
        have c16b1 : (((rd_T35 l0 x8_1).f1) != 0) = true := bne_iff_ne.mpr c16
        have H' := Aside0.mk H
        clear H
        have hcz18_0 : wc.cell? ⟨gb265, 0, none⟩ = some (.int .i64 ((rd_T35 l0 x8_1).f0)) := (blk_cell BK265.out 0).trans rfl
        have hcz18_1 : wc.cell? ⟨gb265, 1, none⟩ = some (.int .i64 ((rd_T35 l0 x8_1).f1)) := (blk_cell BK265.out 1).trans rfl
        have hcz18_2 : wc.cell? ⟨gb265, 2, none⟩ = some (.string ((rd_T35 l0 x8_1).f2)) := (blk_cell BK265.out 2).trans rfl
        have hcz18_3 : wc.cell? ⟨gb265, 3, none⟩ = some (.string ((rd_T35 l0 x8_1).f3)) := (blk_cell BK265.out 3).trans rfl
        have hcz18_4 : wc.cell? ⟨gb265, 4, none⟩ = some (.slice A264_4 ((rd_T35 l0 x8_1).f4).length c264_4) := (blk_cell BK265.out 4).trans rfl
        have hfz18_0 := blk_frozen BK265.out 0
        have hfz18_1 := blk_frozen BK265.out 1
        have hfz18_2 := blk_frozen BK265.out 2
        have hfz18_3 := blk_frozen BK265.out 3
        have hfz18_4 := blk_frozen BK265.out 4
        go_wp2
        go_roundg kj4
        case measure => have := HK1.out; have := HJ4.out; omega
        case rel => exact ⟨(((rd_T35 l0 x8_1).f0)), (wrap64 (x8_1 + 1)), y5_, y5_, H', ⟨by have := HK1.out; have := HJ4.out; omega⟩, ⟨(y19_ GE265.out)⟩⟩
   ·rw [if_neg c2] at H
    have c2b0 : decide (x8_1 < (l0.length : Int)) = false := decide_eq_false c2
    clear c2
    obtain rfl := Option.some.inj H
    go_wp2
    go_ret
    exact ⟨y13_, y14_⟩
end Go.Proofs.YtpnhjipaeggcpaaDoor.X
end
section
namespace Go.Proofs.YtpnhjipaeggcpaaDoor.X
open Go.RowKit Go.Proofs.YtpnhjipaeggcpaaDoorW.PrintWords Go.Proofs.YtpnhjipaeggcpaaDoorW.PrintLast Go.Proofs.YtpnhjipaeggcpaaDoorW.PrintMore
def deep (x : S35) : Bool := decide (60 ≤ x.f0)
def rows_big.f (l0 : List S35) : Option Bool := some (decide (4096 < l0.length) || l0.any deep)
set_option maxHeartbeats 1000000 in
theorem rows_big1 (d k : Int) (n t : ByteArray) (A : Option Addr) (m c : Nat) (w : World) :
    Calls Tryd.prog 65 #[.agg #[.int .i64 d, .int .i64 k, .string n, .string t, .slice A m c]] w fun e w' => e = .returned (.bool (decide (60 ≤ d))) ∧ Below w.heap.size w w' := by
  have hu := Tryd.underlying35
  go_enter Tryd.func65, Tryd.ntmps65
  go_wp2
  go_ret
  exact ⟨rfl, (Below.refl _ _).alloc (Nat.le_refl _) _⟩
def atDeep (l : List S35) : Int := if l.any deep then (l.findIdx deep : Int) else -1
theorem take_any {l : List S35} {k : Nat} (h : ∀ j, j < k → ∀ x, l[j]? = some x → deep x = false) (hk : k < l.length) (hd : deep l[k] = true) : atDeep l = k := by
  have h1 : l.any deep = true := List.any_eq_true.2 ⟨l[k], List.getElem_mem hk, hd⟩
  have h2 : l.findIdx deep = k := (List.findIdx_eq hk).2 ⟨hd, fun j hj => h j hj _ (List.getElem?_eq_getElem (by omega))⟩
  simp [atDeep, h1, h2]
theorem none_any {l : List S35} (h : ∀ j, j < l.length → ∀ x, l[j]? = some x → deep x = false) : l.any deep = false := by
  rw [List.any_eq_false]
  intro x hx
  obtain ⟨j, hj, rfl⟩ := List.getElem_of_mem hx
  simp [h j hj _ (List.getElem?_eq_getElem hj)]
set_option maxHeartbeats 2000000 in
set_option maxRecDepth 100000 in
theorem rows_bigIdx (A : Option Addr) (c : Nat) (l : List S35) (w : World) (hr : Kd.C k35 w A l.length l) :
    Calls Tryd.prog 83 #[.slice A l.length c, .func (.func 65) #[] #[]] w fun e w' => e = .returned (.int .i64 (atDeep l)) ∧ Below w.heap.size w w' := by
  have hu := Tryd.underlying35
  have hmax : l.length ≤ 9223372036854775807 := hr.2.1
  have HR := Aside0.mk hr
  clear hr
  go_enter Tryd.func83, Tryd.ntmps83
  go_wp2
  go_loopw [5, 8] (fun _ i wr => ∃ k : Nat, k ≤ l.length ∧ i = .int .i64 k ∧ Aside0 (∀ j, j < k → ∀ x, l[j]? = some x → deep x = false) ∧ Aside0 (Below w.heap.size w wr)) (fun _ i _ => l.length - (intOf i).toNat)
  case atStart => exact ⟨0, Nat.zero_le _, rfl, ⟨fun j hj => absurd hj (Nat.not_lt_zero _)⟩, ⟨Below.refl _ _⟩⟩
  case round =>
    obtain ⟨k, hk, rfl, HN, HB⟩ := hrel
    by_cases hlt : k < l.length
    · obtain ⟨x, hx, hxe⟩ := getD_at hlt
      have HX := Aside0.mk hx
      have HE := Aside0.mk hxe
      obtain ⟨ad, A4, c4, e, h0, h1, h2, h3, h4, _, _⟩ := row_at (Kd.C_below HR.out HB.out) hx
      clear hx hxe
      cases e
      have hz : (k : Int) < (l.length : Int) := by omega
      have hc := rows_big1 x.f0 x.f1 x.f2 x.f3 A4 x.f4.length c4 wr
      cases hd : decide (60 ≤ x.f0) with
      | true =>
        rw [hd] at hc
        have HD := Aside0.mk hd
        clear hd
        go_wp2_with (go_at_call 65; refine hc.mono ?_; rintro e w1 ⟨rfl, hb⟩)
        go_ret
        refine ⟨?_, below_step HB.out hb⟩
        rw [take_any HN.out hlt (by rw [HE.out]; exact HD.out)]
        rfl
      | false =>
        rw [hd] at hc
        have HD := Aside0.mk hd
        clear hd
        go_wp2_with (go_at_call 65; refine hc.mono ?_; rintro e w1 ⟨rfl, hb⟩)
        go_roundw
        case rel =>
          refine ⟨k + 1, by omega, by go_num, ⟨fun j hj y hx => ?_⟩, ⟨below_step HB.out hb⟩⟩
          by_cases e : j = k
          · subst e
            rw [HX.out] at hx
            cases hx
            exact HD.out
          · exact HN.out j (by omega) y hx
        case measure => simp [intOf]; omega
    · have hz : ¬ (k : Int) < (l.length : Int) := by omega
      obtain rfl : k = l.length := by omega
      go_wp2
      go_ret
      refine ⟨?_, HB.out⟩
      simp [atDeep, none_any HN.out]
set_option maxHeartbeats 1000000 in
theorem rows_bigHas (A : Option Addr) (c : Nat) (l : List S35) (w : World) (hr : Kd.C k35 w A l.length l) :
    Calls Tryd.prog 64 #[.slice A l.length c, .func (.func 65) #[] #[]] w fun e w' => e = .returned (.bool (l.any deep)) ∧ Below w.heap.size w w' := by
  have e1 : l.any deep = decide (atDeep l ≥ 0) := by
    unfold atDeep
    cases l.any deep <;> simp
  rw [e1]
  have hc := rows_bigIdx A c l w hr
  generalize atDeep l = n at hc
  go_enter Tryd.func64, Tryd.ntmps64
  go_wp2_with (go_at_call 83; refine hc.mono ?_; rintro e w1 ⟨rfl, hb⟩)
  go_ret
  exact ⟨rfl, hb⟩
set_option maxHeartbeats 1000000 in
theorem rows_big.calls (A0 : Option Addr) (c0 : Nat) (l0 : List S35) (r : Bool) (w : World) (hr0 : Kd.C k35 w A0 l0.length l0) (hc0 : l0.length ≤ c0) (h : rows_big.f l0 = some r) :
    Calls Tryd.prog 43 #[.slice A0 l0.length c0] w fun e w' => e = .returned (.bool r) ∧ Below w.heap.size w w' := by
  cases h
  have hc := rows_bigHas A0 c0 l0 w hr0
  clear hr0
  by_cases h4 : (4096 : Int) < (l0.length : Int)
  · have e1 : decide (4096 < l0.length) = true := decide_eq_true (by omega)
    have e2 : decide ((4096 : Int) < (l0.length : Int)) = true := decide_eq_true h4
    rw [e1, Bool.true_or]
    clear e1
    go_enter Tryd.func43, Tryd.ntmps43
    go_wp2
    go_ret
    exact ⟨rfl, Below.refl _ _⟩
  · have e1 : decide (4096 < l0.length) = false := decide_eq_false (by omega)
    have e2 : decide ((4096 : Int) < (l0.length : Int)) = false := decide_eq_false h4
    rw [e1, Bool.false_or]
    clear e1
    generalize l0.any deep = b at hc
    go_enter Tryd.func43, Tryd.ntmps43
    go_wp2_with (go_at_call 64; refine hc.mono ?_; rintro e w1 ⟨rfl, hb⟩)
    go_ret
    exact ⟨rfl, hb⟩
end Go.Proofs.YtpnhjipaeggcpaaDoor.X
end
section
namespace Go.Proofs.YtpnhjipaeggcpaaDoor.X
open Go.RowKit Go.Proofs.YtpnhjipaeggcpaaDoorW.PrintWords Go.Proofs.YtpnhjipaeggcpaaDoorW.PrintLast Go.Proofs.YtpnhjipaeggcpaaDoorW.PrintMore
attribute [local go_sem] max2_int min2_int max_two min_two max_three min_three max_four min_four
def rows_Check.f (k : Nat) (l0 : List (S35)) : Option (Int) := (rows_big.f l0).bind fun t267 => (if t267 = true then (some 2) else ((rows_right.f k l0).bind fun t268 => (if t268 = true then (some 0) else (some 40))))
set_option maxHeartbeats 8000000 in
set_option maxRecDepth 100000 in
theorem rows_Check.calls (k : Nat) (A0 : Option Addr) (c0 : Nat) (l0 : List (S35)) (r : Int) (w : World) (hr0 : Kd.C k35 w A0 l0.length l0) (hc0 : l0.length ≤ c0) (h : rows_Check.f k l0 = some r) :
  Calls Tryd.prog 27 #[.slice A0 l0.length c0] w fun e w' => e = .returned (.int .i64 r) ∧ Below w.heap.size w w' := by
 have HR0 := Aside0.mk hr0
 have HC0 := Aside0.mk hc0
 clear hr0 hc0
 have HB := Aside0.mk (Below.refl w.heap.size w)
 have H : ((rows_big.f l0).bind fun t267 => (if t267 = true then (some 2) else ((rows_right.f k l0).bind fun t268 => (if t268 = true then (some 0) else (some 40))))) = some r := h
 clear h
 replace H := Option.bind_eq_some_iff.mp H
 obtain ⟨t267, A20, H⟩ := H
 have A2 := Aside0.mk A20
 clear A20
 by_cases c3 : t267 = true
 ·subst c3
  rw [if_pos rfl] at H
  obtain rfl := Option.some.inj H
  go_enter Tryd.func27, Tryd.ntmps27
  go_wp2_with (first | ((with_reducible refine gate_callee (f := 43) rfl ?_); refine goesL_ (some 5) rfl rfl Tryd.func43 (by kernel_rfl) rfl #[.slice A0 l0.length c0] rfl y15_ ?_; (with_reducible refine (rows_big.calls _ _ l0 true _ ?side1 ?side2 A2.out).mono ?_); (case side1 => repeat (first | exact HR0.out | (with_reducible refine Kd.C_alloc ?_ _) | (with_reducible refine Kd.C_drewN ?_ _) | (with_reducible refine Kd.C_drew ?_))); (case side2 => exact HC0.out); rintro e w4 ⟨rfl, hb⟩; refine ⟨_, rfl, ?_⟩; have n0_ := Aside0.mk (below_step y14_ hb); clear HB; have HB := n0_; clear n0_; (try clear hb); (try clear hb2); (try clear hk); (try clear hi)))
  go_ret
  exact ⟨y13_, y14_⟩
 ·replace c3 := Bool.eq_false_iff.mpr c3
  subst c3
  rw [if_neg (show ¬ (false = true) by decide)] at H
  replace H := Option.bind_eq_some_iff.mp H
  obtain ⟨t268, A50, H⟩ := H
  have A5 := Aside0.mk A50
  clear A50
  by_cases c6 : t268 = true
  ·subst c6
   rw [if_pos rfl] at H
   obtain rfl := Option.some.inj H
   go_enter Tryd.func27, Tryd.ntmps27
   go_wp2_with (first | ((with_reducible refine gate_callee (f := 43) rfl ?_); refine goesL_ (some 5) rfl rfl Tryd.func43 (by kernel_rfl) rfl #[.slice A0 l0.length c0] rfl y15_ ?_; (with_reducible refine (rows_big.calls _ _ l0 false _ ?side1 ?side2 A2.out).mono ?_); (case side1 => repeat (first | exact HR0.out | (with_reducible refine Kd.C_alloc ?_ _) | (with_reducible refine Kd.C_drewN ?_ _) | (with_reducible refine Kd.C_drew ?_))); (case side2 => exact HC0.out); rintro e w7 ⟨rfl, hb⟩; refine ⟨_, rfl, ?_⟩; have n0_ := Aside0.mk (below_step y14_ hb); clear HB; have HB := n0_; clear n0_; (try clear hb); (try clear hb2); (try clear hk); (try clear hi)) | ((with_reducible refine gate_callee (f := 44) rfl ?_); refine goesL_ (some 8) rfl rfl Tryd.func44 (by kernel_rfl) rfl #[.slice A0 l0.length c0] rfl y15_ ?_; (with_reducible refine (rows_right.calls k _ _ l0 true _ ?side1 ?side2 A5.out).mono ?_); (case side1 => repeat (first | exact (Kd.C_below HR0.out HB.out) | (with_reducible refine Kd.C_alloc ?_ _) | (with_reducible refine Kd.C_drewN ?_ _) | (with_reducible refine Kd.C_drew ?_))); (case side2 => exact HC0.out); rintro e w8 ⟨rfl, hb⟩; refine ⟨_, rfl, ?_⟩; have n0_ := Aside0.mk (below_step y14_ hb); clear HB; have HB := n0_; clear n0_; (try clear hb); (try clear hb2); (try clear hk); (try clear hi)))
   go_ret
   exact ⟨y13_, y14_⟩
  ·replace c6 := Bool.eq_false_iff.mpr c6
   subst c6
   rw [if_neg (show ¬ (false = true) by decide)] at H
   obtain rfl := Option.some.inj H
   go_enter Tryd.func27, Tryd.ntmps27
   go_wp2_with (first | ((with_reducible refine gate_callee (f := 43) rfl ?_); refine goesL_ (some 5) rfl rfl Tryd.func43 (by kernel_rfl) rfl #[.slice A0 l0.length c0] rfl y15_ ?_; (with_reducible refine (rows_big.calls _ _ l0 false _ ?side1 ?side2 A2.out).mono ?_); (case side1 => repeat (first | exact HR0.out | (with_reducible refine Kd.C_alloc ?_ _) | (with_reducible refine Kd.C_drewN ?_ _) | (with_reducible refine Kd.C_drew ?_))); (case side2 => exact HC0.out); rintro e w9 ⟨rfl, hb⟩; refine ⟨_, rfl, ?_⟩; have n0_ := Aside0.mk (below_step y14_ hb); clear HB; have HB := n0_; clear n0_; (try clear hb); (try clear hb2); (try clear hk); (try clear hi)) | ((with_reducible refine gate_callee (f := 44) rfl ?_); refine goesL_ (some 8) rfl rfl Tryd.func44 (by kernel_rfl) rfl #[.slice A0 l0.length c0] rfl y15_ ?_; (with_reducible refine (rows_right.calls k _ _ l0 false _ ?side1 ?side2 A5.out).mono ?_); (case side1 => repeat (first | exact (Kd.C_below HR0.out HB.out) | (with_reducible refine Kd.C_alloc ?_ _) | (with_reducible refine Kd.C_drewN ?_ _) | (with_reducible refine Kd.C_drew ?_))); (case side2 => exact HC0.out); rintro e w10 ⟨rfl, hb⟩; refine ⟨_, rfl, ?_⟩; have n0_ := Aside0.mk (below_step y14_ hb); clear HB; have HB := n0_; clear n0_; (try clear hb); (try clear hb2); (try clear hk); (try clear hi)))
   go_ret
   exact ⟨y13_, y14_⟩
end Go.Proofs.YtpnhjipaeggcpaaDoor.X
end
section
namespace Go.Proofs.YtpnhjipaeggcpaaDoor.X
open Go.RowKit Go.Proofs.YtpnhjipaeggcpaaDoorW.PrintWords Go.Proofs.YtpnhjipaeggcpaaDoorW.PrintLast Go.Proofs.YtpnhjipaeggcpaaDoorW.PrintMore
attribute [local go_sem] max2_int min2_int max_two min_two max_three min_three max_four min_four
def names_Soft.f (k : Nat) (a0 : ByteArray) : Option (Bool) := (names_among.f k a0 (([(⟨#[116, 101, 120, 116, 97, 114, 101, 97]⟩ : ByteArray), (⟨#[116, 105, 116, 108, 101]⟩ : ByteArray)] : List ByteArray))).bind fun t386 => (some t386)
set_option maxHeartbeats 8000000 in
set_option maxRecDepth 100000 in
theorem names_Soft.calls (k : Nat) (a0 : ByteArray) (r : Bool) (w : World) (h : names_Soft.f k a0 = some r) :
  Calls Tryd.prog 57 #[.string a0] w fun e w' => e = .returned (.bool r) ∧ Below w.heap.size w w' := by
 have HB := Aside0.mk (Below.refl w.heap.size w)
 have H : ((names_among.f k a0 (([(⟨#[116, 101, 120, 116, 97, 114, 101, 97]⟩ : ByteArray), (⟨#[116, 105, 116, 108, 101]⟩ : ByteArray)] : List ByteArray))).bind fun t386 => (some t386)) = some r := h
 clear h
 obtain ⟨y383, hy383⟩ : ∃ y_ : List ByteArray, y_ = (([(⟨#[116, 101, 120, 116, 97, 114, 101, 97]⟩ : ByteArray), (⟨#[116, 105, 116, 108, 101]⟩ : ByteArray)] : List ByteArray)) := ⟨_, rfl⟩
 replace H : ((names_among.f k a0 y383).bind fun t386 => (some t386)) = some r := by first | (rw [hy383]; with_reducible exact H) | (have H2_ := (Option.bind_some _ _).symm.trans H; rw [hy383]; with_reducible exact H2_) | (have H2_ := (Option.bind_some _ _).symm.trans H; with_reducible exact H2_) | with_reducible exact H | (rw [hy383]; exact H) | exact H
 have Ny383 := Aside0.mk hy383
 clear hy383
 replace H := Option.bind_eq_some_iff.mp H
 obtain ⟨t386, A20, H⟩ := H
 have A2 := Aside0.mk A20
 clear A20
 obtain rfl := Option.some.inj H
 go_enter Tryd.func57, Tryd.ntmps57
 go_wp2_with (first | ((with_reducible refine gate_dst (N := 4) rfl ?_); refine Kd.R_lit Kd.string _ 9 ?hg (N := 4) ?hd (xs := ([(⟨#[116, 101, 120, 116, 97, 114, 101, 97]⟩ : ByteArray), (⟨#[116, 105, 116, 108, 101]⟩ : ByteArray)] : List ByteArray)) (inner := [.string (⟨#[116, 101, 120, 116, 97, 114, 101, 97]⟩ : ByteArray), .string (⟨#[116, 105, 116, 108, 101]⟩ : ByteArray)]) (ok := fun _ => True) (okp := fun _ => True) ?hr ?hp (fun _ hk => hk) trivial (Below.refl _ _) (Nat.le_refl _) (by simp) ?_; (case hd => rfl); (case hg => rfl); (case hr => first | (go_simp; done) | (go_simp; rfl)); (case hp => exact (Reps.one (show Kd.M Kd.string _ _ _ (⟨#[116, 101, 120, 116, 97, 114, 101, 97]⟩ : ByteArray) [.string (⟨#[116, 101, 120, 116, 97, 114, 101, 97]⟩ : ByteArray)] from rfl) (Reps.one (show Kd.M Kd.string _ _ _ (⟨#[116, 105, 116, 108, 101]⟩ : ByteArray) [.string (⟨#[116, 105, 116, 108, 101]⟩ : ByteArray)] from rfl) (Reps.none _ _)))); intro v384 w3 ho4 hb hg_ hnew_; clear hg_ hnew_; (first | rw [← Ny383.out] at ho4 | (simp only [Int.reduceToNat] at ho4; rw [← Ny383.out] at ho4)); have n0_ := Aside0.mk (Kd.R_lower ho4 (below_size y14_)); have n1_ := Aside0.mk (below_step y14_ hb); clear HB; have HO385 := n0_; have HB := n1_; clear n0_ n1_; clear hb ho4; obtain ⟨Ao5, co5, eo5⟩ := Kd.R_slice HO385.out; subst eo5) | ((with_reducible refine gate_callee (f := 42) rfl ?_); refine goesL_ (some 5) rfl rfl Tryd.func42 (by kernel_rfl) rfl #[.string a0, .slice Ao5 y383.length co5] rfl y15_ ?_; (with_reducible refine (names_among.calls k a0 _ _ y383 t386 _ ?side1 ?side2 A2.out).mono ?_); (case side1 => repeat (first | exact (Kd.R_reads' HO385.out).2.2 | (with_reducible refine Kd.C_alloc ?_ _) | (with_reducible refine Kd.C_drewN ?_ _) | (with_reducible refine Kd.C_drew ?_))); (case side2 => exact (Kd.R_reads' HO385.out).2.1); rintro e w' ⟨rfl, ⟨nd, rfl⟩⟩; refine ⟨_, rfl, ?_⟩))
 go_ret
 exact ⟨y13_, y14_⟩
end Go.Proofs.YtpnhjipaeggcpaaDoor.X
end
section
namespace Go.Proofs.YtpnhjipaeggcpaaDoor.X
open Go.RowKit Go.Proofs.YtpnhjipaeggcpaaDoorW.PrintWords Go.Proofs.YtpnhjipaeggcpaaDoorW.PrintLast Go.Proofs.YtpnhjipaeggcpaaDoorW.PrintMore
attribute [local go_sem] max2_int min2_int max_two min_two max_three min_three max_four min_four
def stringslite_HasSuffix.f (a0 : ByteArray) (a1 : ByteArray) : Option (Bool) := if (a0.size : Int) ≥ (a1.size : Int) then (if 0 ≤ (wrap64 ((a0.size : Int) - (a1.size : Int))) then (if (wrap64 ((a0.size : Int) - (a1.size : Int))) ≤ (a0.size : Int) then (some ((a0.extract ((wrap64 ((a0.size : Int) - (a1.size : Int))) : Int).toNat a0.size).toList == a1.toList)) else (none)) else (none)) else (some false)
set_option maxHeartbeats 8000000 in
set_option maxRecDepth 100000 in
theorem stringslite_HasSuffix.calls (a0 : ByteArray) (a1 : ByteArray) (r : Bool) (w : World) (h : stringslite_HasSuffix.f a0 a1 = some r) :
  Calls Tryd.prog 78 #[.string a0, .string a1] w fun e w' => e = .returned (.bool r) ∧ Drawn0 w w' := by
 have H : (if (a0.size : Int) ≥ (a1.size : Int) then (if 0 ≤ (wrap64 ((a0.size : Int) - (a1.size : Int))) then (if (wrap64 ((a0.size : Int) - (a1.size : Int))) ≤ (a0.size : Int) then (some ((a0.extract ((wrap64 ((a0.size : Int) - (a1.size : Int))) : Int).toNat a0.size).toList == a1.toList)) else (none)) else (none)) else (some false)) = some r := h
 clear h
 by_cases c3 : (a0.size : Int) ≥ (a1.size : Int)
 ·rw [if_pos c3] at H
  have c3b0 : decide ((a1.size : Int) ≤ (a0.size : Int)) = true := decide_eq_true c3
  have c3b1 : decide (a1.size ≤ a0.size) = true := decide_eq_true (Int.ofNat_le.mp c3)
  clear c3
  obtain ⟨ji4, hji4⟩ : ∃ j_ : Int, (wrap64 ((a0.size : Int) - (a1.size : Int))) = j_ := ⟨_, rfl⟩
  replace H : (if 0 ≤ (ji4) then (if (ji4) ≤ (a0.size : Int) then (some ((a0.extract ((ji4) : Int).toNat a0.size).toList == a1.toList)) else (none)) else (none)) = some r := by first | (rw [hji4] at H; exact H) | (simp only [hji4] at H ⊢; exact H)
  have hji4w : (IntKind.i64.wrap ((a0.size : Int) - (a1.size : Int))) = ji4 := (i64_w _).trans hji4
  by_cases c5 : 0 ≤ (ji4)
  rotate_left
  ·rw [if_neg c5] at H
   exact absurd H (by simp)
  rw [if_pos c5] at H
  have c5b0 := eq_true c5
  have c5b1 : decide (0 ≤ (ji4)) = true := decide_eq_true c5
  clear c5
  by_cases c6 : (ji4) ≤ (a0.size : Int)
  rotate_left
  ·rw [if_neg c6] at H
   exact absurd H (by simp)
  rw [if_pos c6] at H
  have c6b0 := eq_true c6
  have c6b1 : decide ((ji4) ≤ (a0.size : Int)) = true := decide_eq_true c6
  clear c6
  obtain rfl := Option.some.inj H
  go_enter Tryd.func78, Tryd.ntmps78
  go_wp2
  go_ret
  exact ⟨by first | rfl | (simp; done) | (simp only [← hji4] <;> (first | rfl | simp)) | (simp [*]; done) | (simp [bne_nil8]; done), y3_⟩
 ·rw [if_neg c3] at H
  have c3b0 : decide ((a1.size : Int) ≤ (a0.size : Int)) = false := decide_eq_false c3
  have c3b1 : decide (a1.size ≤ a0.size) = false := decide_eq_false (fun h => c3 (Int.ofNat_le.mpr h))
  clear c3
  obtain rfl := Option.some.inj H
  go_enter Tryd.func78, Tryd.ntmps78
  go_wp2
  go_ret
  exact ⟨y5_, y3_⟩
end Go.Proofs.YtpnhjipaeggcpaaDoor.X
end
section
namespace Go.Proofs.YtpnhjipaeggcpaaDoor.X
open Go.RowKit Go.Proofs.YtpnhjipaeggcpaaDoorW.PrintWords Go.Proofs.YtpnhjipaeggcpaaDoorW.PrintLast Go.Proofs.YtpnhjipaeggcpaaDoorW.PrintMore
attribute [local go_sem] max2_int min2_int max_two min_two max_three min_three max_four min_four
def strings_HasSuffix.f (a0 : ByteArray) (a1 : ByteArray) : Option (Bool) := (stringslite_HasSuffix.f a0 a1).bind fun t387 => (some t387)
set_option maxHeartbeats 8000000 in
set_option maxRecDepth 100000 in
theorem strings_HasSuffix.calls (a0 : ByteArray) (a1 : ByteArray) (r : Bool) (w : World) (h : strings_HasSuffix.f a0 a1 = some r) :
  Calls Tryd.prog 58 #[.string a0, .string a1] w fun e w' => e = .returned (.bool r) ∧ Drawn0 w w' := by
 have H : ((stringslite_HasSuffix.f a0 a1).bind fun t387 => (some t387)) = some r := h
 clear h
 replace H := Option.bind_eq_some_iff.mp H
 obtain ⟨t387, A30, H⟩ := H
 have A3 := Aside0.mk A30
 clear A30
 obtain rfl := Option.some.inj H
 go_enter Tryd.func58, Tryd.ntmps58
 go_wp2_with (first | ((with_reducible refine gate_callee (f := 78) rfl ?_); refine goesL_ (some 7) rfl rfl Tryd.func78 (by kernel_rfl) rfl #[.string a0, .string a1] rfl y15_ ?_; (with_reducible refine (stringslite_HasSuffix.calls a0 a1 t387 _ A3.out).mono ?_); rintro e w' ⟨rfl, ⟨nd, rfl⟩⟩; refine ⟨_, rfl, ?_⟩))
 go_ret
 exact ⟨y5_, y3_⟩
end Go.Proofs.YtpnhjipaeggcpaaDoor.X
end
section
namespace Go.Proofs.YtpnhjipaeggcpaaDoor.X
open Go.RowKit Go.Proofs.YtpnhjipaeggcpaaDoorW.PrintWords Go.Proofs.YtpnhjipaeggcpaaDoorW.PrintLast Go.Proofs.YtpnhjipaeggcpaaDoorW.PrintMore
def slices_Clone_Attr.f (l0 : List S41) : Option (List S41) := if l0.length < 4398046511104 then some l0 else none
theorem clone_none {w : World} {n : Nat} {l : List S41} (h : Kd.C k41 w none n l) : l = [] := by
  cases l with
  | nil => rfl
  | cons x t =>
    obtain ⟨ad, e, _⟩ := attr_at h (k := 0) (x := x) rfl
    cases e
set_option maxHeartbeats 4000000 in
set_option maxRecDepth 100000 in
theorem slices_Clone_Attr.calls (A0 : Option Addr) (c0 : Nat) (l0 : List S41) (r : List S41) (w : World) (hr0 : Kd.C k41 w A0 l0.length l0) (hc0 : l0.length ≤ c0) (h : slices_Clone_Attr.f l0 = some r) :
    Calls Tryd.prog 67 #[.slice A0 l0.length c0] w fun e w' => ∃ v0_ : Value, e = .returned v0_ ∧ Kd.R k41 41 w' w.heap.size (fun _ => True) v0_ r ∧ Below w.heap.size w w' := by
  unfold slices_Clone_Attr.f at h
  split at h
  case isFalse => cases h
  rename_i hlen
  cases h
  have hq : ∀ (w : World) (a : Option Addr) (n c n' c' : Nat), (binOp .eql 33 (.slice a n c) (.slice none n' c')).run Tryd.prog w = .ok (.bool a.isNone) w := fun w a n c n' c' => Lib.run_eql_slice_nil w _ _ a n c n' c' Tryd.underlying33
  cases A0 with
  | none =>
    have e0 := clone_none hr0
    subst e0
    go_enter Tryd.func67, Tryd.ntmps67
    go_wp2
    go_ret
    exact ⟨_, rfl, Kd.R_nil _ _ _ _ _, Below.refl _ _⟩
  | some ad =>
    have HR := Aside0.mk hr0
    have HB := Aside0.mk (Below.refl w.heap.size w)
    clear hr0
    go_enter Tryd.func67, Tryd.ntmps67
    go_wp2_with (first
      | ((with_reducible refine gate_dst (N := 5) rfl ?_); refine Kd.R_lit k41 _ 41 ?hg (N := 5) ?hd (xs := ([] : List (S41))) (inner := []) (ok := fun _ => True) (okp := fun _ => True) ?hr ?hp (fun _ hk => hk) trivial (Below.refl _ _) (Nat.le_refl _) (by simp) ?_; (case hd => rfl); (case hg => rfl); (case hr => first | (go_simp; done) | (go_simp; rfl)); (case hp => exact (Reps.none _ _)); intro v426 w11 ho12 hb hg_ hnew_; have n0_ := Aside0.mk (below_step HB.out hb); have HO := Aside0.mk (Kd.R_lower ho12 (below_size HB.out)); clear HB; have HB := n0_; clear n0_ ho12 hb hg_ hnew_)
      | ((with_reducible refine gate_builtin (b := .append) (xs := #[.tmp 5, .tmp 6]) rfl ?_); at_builtin; refine Kd.R_append_rows k41 (w0 := w) w.heap.size rfl (.tmp 5) (.tmp 6) 33 41 (.agg #[(.string ⟨#[]⟩), (.string ⟨#[]⟩)]) 32 rfl Tryd.underlying33 info41 rfl (by decide) (by omega) v426 [] l0 _ _ _ (fun _ => True) (fun _ => False) rfl rfl ?aO ?aR (fun _ _ h => h) (fun _ h => h.elim) ?aF ?aB ?aS ?aL ?_; (case aR => exact Kd.C_below HR.out HB.out); (case aB => exact HB.out); (case aF => exact (fun _ _ => trivial)); (case aO => exact HO.out); (case aS => exact below_size HB.out); (case aL => simp; omega); intro v429 w14 ho hb hg hat))
    go_ret
    exact ⟨_, rfl, ho, hb⟩
end Go.Proofs.YtpnhjipaeggcpaaDoor.X
end
section
namespace Go.Proofs.YtpnhjipaeggcpaaDoor.X
open Go.RowKit Go.Proofs.YtpnhjipaeggcpaaDoorW.PrintWords Go.Proofs.YtpnhjipaeggcpaaDoorW.PrintLast Go.Proofs.YtpnhjipaeggcpaaDoorW.PrintMore
attribute [local go_sem] max2_int min2_int max_two min_two max_three min_three max_four min_four
def rows_moved.l0 : Nat → Int → List (S35) → List (S35) → Int → Int → Option ((List (S35)))
 | 0, _, _, _, _, _ => none
 | k + 1, x1, x5, x8, x9, x10 => if x10 < x9 then (if 0 ≤ x10 then (if x10 < (x8.length : Int) then ((slices_Clone_Attr.f ((rd_T35 x8 x10).f4)).bind fun t454 => (if x5.length < 1954687338268 then (rows_moved.l0 k x1 (x5 ++ [(⟨wrap64 (((rd_T35 x8 x10).f0) + x1), (rd_T35 x8 x10).f1, (rd_T35 x8 x10).f2, (rd_T35 x8 x10).f3, t454⟩ : S35)]) x8 x9 (wrap64 (x10 + 1))) else (none))) else (none)) else (none)) else (some x5)
def rows_moved.f (k : Nat) (l0 : List (S35)) (a1 : Int) : Option ((List (S35))) := rows_moved.l0 k a1 ([] : List (S35)) l0 (l0.length : Int) 0
set_option maxHeartbeats 8000000 in
set_option maxRecDepth 100000 in
theorem rows_moved.calls (k : Nat) (A0 : Option Addr) (c0 : Nat) (l0 : List (S35)) (a1 : Int) (r : List (S35)) (w : World) (hr0 : Kd.C k35 w A0 l0.length l0) (hc0 : l0.length ≤ c0) (h : rows_moved.f k l0 a1 = some r) :
  Calls Tryd.prog 48 #[.slice A0 l0.length c0, .int .i64 a1] w fun e w' => ∃ v0_ : Value, e = .returned (v0_) ∧ Kd.S k35 35 w' w.heap.size (fun _ => True) v0_ r ∧ Below w.heap.size w w' := by
 have hu35 := Tryd.underlying35
 have HR0 := Aside0.mk hr0
 have HC0 := Aside0.mk hc0
 clear hr0 hc0
 have HB := Aside0.mk (Below.refl w.heap.size w)
 have H : (rows_moved.l0 k a1 ([] : List (S35)) l0 (l0.length : Int) 0) = some r := h
 clear h
 have H' := Aside0.mk H
 clear H
 go_enter Tryd.func48, Tryd.ntmps48
 go_wp2
 go_loopg [5, 10] k (fun kq v5 v10 w' => ∃ (x5_1 : List (S35)) (x10_1 : Int), v10 = .int .i64 x10_1 ∧ Aside0 (rows_moved.l0 kq a1 x5_1 l0 (l0.length : Int) x10_1 = some r) ∧ Aside0 (kq ≤ k) ∧ Aside0 (Kd.S k35 35 w' w.heap.size (fun _ => True) v5 x5_1) ∧ Aside0 (Below w.heap.size w w'))
 case atStart => exact ⟨(([] : List (S35))), (0), y5_, H', ⟨Nat.le_refl _⟩, ⟨by first | exact Kd.S_nil _ _ _ _ _ | exact Kd.N_nil _ _ _ _ _ | exact Kd.V_nil _ _ _ _ _ | exact Kd.Q_nil _ _ _ _ _ | exact Kd.R_nil _ _ _ _ _⟩, ⟨y14_⟩⟩
 case round =>
  clear H'
  try clear p2
  obtain ⟨x5_1, x10_1, rfl, HA, HK1, HO_5, HB⟩ := hrel
  cases gk with
  | zero => exact absurd HA.out (by simp [rows_moved.l0])
  | succ k1 =>
   have H := HA.out
   clear HA
   simp only [rows_moved.l0] at H
   by_cases c3 : x10_1 < (l0.length : Int)
   ·rw [if_pos c3] at H
    have c3b0 : decide (x10_1 < (l0.length : Int)) = true := decide_eq_true c3
    clear c3
    by_cases c4 : 0 ≤ x10_1
    rotate_left
    ·rw [if_neg c4] at H
     exact absurd H (by simp)
    rw [if_pos c4] at H
    have c4b0 : decide (0 ≤ x10_1) = true := decide_eq_true c4
    clear c4
    by_cases c5 : x10_1 < (l0.length : Int)
    rotate_left
    ·rw [if_neg c5] at H
     exact absurd H (by simp)
    rw [if_pos c5] at H
    have c5b0 : decide (x10_1 < (l0.length : Int)) = true := decide_eq_true c5
    clear c5
    replace H := Option.bind_eq_some_iff.mp H
    obtain ⟨t454, A60, H⟩ := H
    have A6 := Aside0.mk A60
    clear A60
    by_cases c7 : x5_1.length < 1954687338268
    rotate_left
    ·rw [if_neg c7] at H
     exact absurd H (by simp)
    rw [if_pos c7] at H
    have LMc7 := Aside0.mk c7
    clear c7
    obtain ⟨y457, hy457⟩ : ∃ y_ : List (S35), y_ = (x5_1 ++ [(⟨wrap64 (((rd_T35 l0 x10_1).f0) + a1), (rd_T35 l0 x10_1).f1, (rd_T35 l0 x10_1).f2, (rd_T35 l0 x10_1).f3, t454⟩ : S35)]) := ⟨_, rfl⟩
    replace H : (rows_moved.l0 k1 a1 y457 l0 (l0.length : Int) (wrap64 (x10_1 + 1))) = some r := by first | (rw [hy457]; with_reducible exact H) | (have H2_ := (Option.bind_some _ _).symm.trans H; rw [hy457]; with_reducible exact H2_) | (have H2_ := (Option.bind_some _ _).symm.trans H; with_reducible exact H2_) | with_reducible exact H | (rw [hy457]; exact H) | exact H
    have Ny457 := Aside0.mk hy457
    clear hy457
    have H' := Aside0.mk H
    clear H
    have p452 : 0 ≤ (x10_1 : Int) := of_decide_eq_true y2_
    have q452 : x10_1 < (l0.length : Int) := of_decide_eq_true y2_
    obtain ⟨ad452, A452_4, c452_4, e452, hx452_0, hx452_1, hx452_2, hx452_3, hx452_4, hl452_4, hi452_4⟩ := at_T35 HR0.out x10_1 p452 q452
    cases e452
    replace hx452_0 := (HB.out.cell (World.block_lt_of_cell? w _ hx452_0)).trans hx452_0
    replace hx452_1 := (HB.out.cell (World.block_lt_of_cell? w _ hx452_1)).trans hx452_1
    replace hx452_2 := (HB.out.cell (World.block_lt_of_cell? w _ hx452_2)).trans hx452_2
    replace hx452_3 := (HB.out.cell (World.block_lt_of_cell? w _ hx452_3)).trans hx452_3
    replace hx452_4 := (HB.out.cell (World.block_lt_of_cell? w _ hx452_4)).trans hx452_4
    have HR452_4 := Aside0.mk hi452_4
    have HC452_4 := Aside0.mk hl452_4
    clear hi452_4 hl452_4
    replace p452 := eq_true p452
    replace q452 := eq_true q452
    go_wp2_with (first | ((with_reducible refine gate_dst (N := 7) rfl ?_); refine box_event ?hg (N := 7) ?hd (cs := #[.int .i64 0, .int .i64 0, .string (⟨#[]⟩ : ByteArray), .string (⟨#[]⟩ : ByteArray), .slice none 0 0]) (t := 35) ?hr ?_; (case hd => rfl); (case hg => rfl); (case hr => first | (go_simp; done) | (go_simp; rfl)); intro gb453 hg w8 hbox hb; have n0_ := Aside0.mk (Kd.S_below (Kd.S_elderB (y9_ HO_5.out) gb453 (Nat.le_of_eq hg.symm)) hb); have n1_ := Aside0.mk (below_step y14_ hb); have n2_ := Aside0.mk (hbox); have n3_ := Aside0.mk ((by rw [hg]; exact (below_size y14_) : w.heap.size ≤ gb453)); have n4_ := Aside0.mk ((by rw [hg]; exact (below_size y14_) : w.heap.size ≤ gb453)); clear HO_5; clear HB; have HO_5 := n0_; have HB := n1_; have BK453 := n2_; have GW453 := n3_; have GE453 := n4_; clear n0_ n1_ n2_ n3_ n4_; clear hb hbox hg; have hcz9_0 : w8.cell? ⟨gb453, 0, none⟩ = some (.int .i64 0) := (blk_cell BK453.out 0).trans rfl; have hcz9_1 : w8.cell? ⟨gb453, 1, none⟩ = some (.int .i64 0) := (blk_cell BK453.out 1).trans rfl; have hcz9_2 : w8.cell? ⟨gb453, 2, none⟩ = some (.string (⟨#[]⟩ : ByteArray)) := (blk_cell BK453.out 2).trans rfl; have hcz9_3 : w8.cell? ⟨gb453, 3, none⟩ = some (.string (⟨#[]⟩ : ByteArray)) := (blk_cell BK453.out 3).trans rfl; have hcz9_4 : w8.cell? ⟨gb453, 4, none⟩ = some (.slice none 0 0) := (blk_cell BK453.out 4).trans rfl; have hfz9_0 := blk_frozen BK453.out 0; have hfz9_1 := blk_frozen BK453.out 1; have hfz9_2 := blk_frozen BK453.out 2; have hfz9_3 := blk_frozen BK453.out 3; have hfz9_4 := blk_frozen BK453.out 4) | ((with_reducible refine gate_callee (f := 67) rfl ?_); refine goesL_ (some 21) rfl rfl Tryd.func67 (by kernel_rfl) rfl #[.slice A452_4 ((rd_T35 l0 x10_1).f4).length c452_4] rfl y15_ ?_; (with_reducible refine (slices_Clone_Attr.calls _ _ ((rd_T35 l0 x10_1).f4) t454 _ ?side1 ?side2 A6.out).mono ?_); (case side1 => exact Kd.C_below HR452_4.out (y19_ GE453.out)); (case side2 => exact HC452_4.out); rintro e w10 ⟨v455, rfl, ho0, hb⟩; refine ⟨_, rfl, ?_⟩; have n0_ := Aside0.mk (Kd.S_elder' (by (with_reducible repeat (first | apply Kd.S_alloc | apply Kd.S_drewN | apply Kd.S_drew)); exact (Kd.S_mono (Kd.S_far (p := ⟨gb453, 0, none⟩) (Kd.S_far (p := ⟨gb453, 4, none⟩) (Kd.S_far (p := ⟨gb453, 3, none⟩) (Kd.S_far (p := ⟨gb453, 2, none⟩) (Kd.S_far (p := ⟨gb453, 1, none⟩) (Kd.S_far (p := ⟨gb453, 0, none⟩) (Kd.S_mono HO_5.out (fun k_ hk => (⟨hk, hk.2⟩ : _ ∧ k_ ≠ gb453))) (fun _ hk => hk.2) (.int .i64 ((rd_T35 l0 x10_1).f0))) (fun _ hk => hk.2) (.int .i64 ((rd_T35 l0 x10_1).f1))) (fun _ hk => hk.2) (.string ((rd_T35 l0 x10_1).f2))) (fun _ hk => hk.2) (.string ((rd_T35 l0 x10_1).f3))) (fun _ hk => hk.2) (.slice A452_4 ((rd_T35 l0 x10_1).f4).length c452_4)) (fun _ hk => hk.2) (.int .i64 (wrap64 (((rd_T35 l0 x10_1).f0) + a1)))) (fun _ h_ => h_.1))) (Kd.R_base ho0) hb); have n1_ := Aside0.mk (Kd.R_lower ho0 (below_size (y19_ GE453.out))); have n2_ := Aside0.mk (blk_below (g := gb453) (o := .cells #[.int .i64 (wrap64 (((rd_T35 l0 x10_1).f0) + a1)), .int .i64 ((rd_T35 l0 x10_1).f1), .string ((rd_T35 l0 x10_1).f2), .string ((rd_T35 l0 x10_1).f3), .slice A452_4 ((rd_T35 l0 x10_1).f4).length c452_4] 35 (0, 0)) (by (with_reducible repeat (first | refine blk_drewN ?_ _ | refine blk_drew ?_ | refine blk_alloc ?_ _)); refine blk_put (cs := #[.int .i64 ((rd_T35 l0 x10_1).f0), .int .i64 ((rd_T35 l0 x10_1).f1), .string ((rd_T35 l0 x10_1).f2), .string ((rd_T35 l0 x10_1).f3), .slice A452_4 ((rd_T35 l0 x10_1).f4).length c452_4]) ?_ 0 _ rfl; (with_reducible repeat (first | refine blk_drewN ?_ _ | refine blk_drew ?_ | refine blk_alloc ?_ _)); refine blk_put (cs := #[.int .i64 ((rd_T35 l0 x10_1).f0), .int .i64 ((rd_T35 l0 x10_1).f1), .string ((rd_T35 l0 x10_1).f2), .string ((rd_T35 l0 x10_1).f3), .slice none 0 0]) ?_ 4 _ rfl; (with_reducible repeat (first | refine blk_drewN ?_ _ | refine blk_drew ?_ | refine blk_alloc ?_ _)); refine blk_put (cs := #[.int .i64 ((rd_T35 l0 x10_1).f0), .int .i64 ((rd_T35 l0 x10_1).f1), .string ((rd_T35 l0 x10_1).f2), .string (⟨#[]⟩ : ByteArray), .slice none 0 0]) ?_ 3 _ rfl; (with_reducible repeat (first | refine blk_drewN ?_ _ | refine blk_drew ?_ | refine blk_alloc ?_ _)); refine blk_put (cs := #[.int .i64 ((rd_T35 l0 x10_1).f0), .int .i64 ((rd_T35 l0 x10_1).f1), .string (⟨#[]⟩ : ByteArray), .string (⟨#[]⟩ : ByteArray), .slice none 0 0]) ?_ 2 _ rfl; (with_reducible repeat (first | refine blk_drewN ?_ _ | refine blk_drew ?_ | refine blk_alloc ?_ _)); refine blk_put (cs := #[.int .i64 ((rd_T35 l0 x10_1).f0), .int .i64 0, .string (⟨#[]⟩ : ByteArray), .string (⟨#[]⟩ : ByteArray), .slice none 0 0]) ?_ 1 _ rfl; (with_reducible repeat (first | refine blk_drewN ?_ _ | refine blk_drew ?_ | refine blk_alloc ?_ _)); refine blk_put (cs := #[.int .i64 0, .int .i64 0, .string (⟨#[]⟩ : ByteArray), .string (⟨#[]⟩ : ByteArray), .slice none 0 0]) ?_ 0 _ rfl; (with_reducible repeat (first | refine blk_drewN ?_ _ | refine blk_drew ?_ | refine blk_alloc ?_ _)); exact BK453.out) hb); have n3_ := Aside0.mk (below_step (y19_ GE453.out) hb); clear HO_5; clear BK453; clear HB; have HO_5 := n0_; have HO456 := n1_; have BK453 := n2_; have HB := n3_; clear n0_ n1_ n2_ n3_; (try clear hb); (try clear hb2); (try clear hk); (try clear hi); (try clear ho0); obtain ⟨Ao11, co11, eo11⟩ := Kd.R_slice HO456.out; subst eo11; have hcz12_0 : w10.cell? ⟨gb453, 0, none⟩ = some (.int .i64 (wrap64 (((rd_T35 l0 x10_1).f0) + a1))) := (blk_cell BK453.out 0).trans rfl; have hcz12_1 : w10.cell? ⟨gb453, 1, none⟩ = some (.int .i64 ((rd_T35 l0 x10_1).f1)) := (blk_cell BK453.out 1).trans rfl; have hcz12_2 : w10.cell? ⟨gb453, 2, none⟩ = some (.string ((rd_T35 l0 x10_1).f2)) := (blk_cell BK453.out 2).trans rfl; have hcz12_3 : w10.cell? ⟨gb453, 3, none⟩ = some (.string ((rd_T35 l0 x10_1).f3)) := (blk_cell BK453.out 3).trans rfl; have hcz12_4 : w10.cell? ⟨gb453, 4, none⟩ = some (.slice A452_4 ((rd_T35 l0 x10_1).f4).length c452_4) := (blk_cell BK453.out 4).trans rfl; have hfz12_0 := blk_frozen BK453.out 0; have hfz12_1 := blk_frozen BK453.out 1; have hfz12_2 := blk_frozen BK453.out 2; have hfz12_3 := blk_frozen BK453.out 3; have hfz12_4 := blk_frozen BK453.out 4) | ((with_reducible refine gate_store (t := 33) (p := 22) rfl ?_); refine store_event (t := 33) (p := 22) (v := ?vo_w13) (w1 := (w10.setCell ⟨gb453, 4, none⟩ (.slice Ao11 t454.length co11))) ?hg ?ho ?hn ?hr ?_; (case ho => rfl); (case hg => rfl); (case hn => rfl); (case hr => first | (go_simp; done) | (go_simp; rfl)); intro w13 hw; have n0_ : Aside0 (Kd.S k35 35 w13 w.heap.size (fun k_ => some k_ ≠ (.slice Ao11 t454.length co11 : Value).ownBlock ∧ k_ ≠ gb453) u5 x5_1) := ⟨(by rw [hw]; exact (by (with_reducible repeat (first | apply Kd.S_alloc | apply Kd.S_drewN | apply Kd.S_drew)); exact Kd.S_mono (Kd.S_far (p := ⟨gb453, 4, none⟩) (Kd.S_mono HO_5.out (fun k_ hk => (⟨hk, hk.1.2⟩ : _ ∧ k_ ≠ gb453))) (fun _ hk => hk.2) (.slice Ao11 t454.length co11)) (fun _ hk => ⟨hk.1.2, hk.1.1.2⟩)))⟩; have n1_ : Aside0 (Kd.R k41 41 w13 w.heap.size (fun _ => True) (.slice Ao11 t454.length co11) t454) := ⟨(by rw [hw]; exact (by (with_reducible repeat (first | apply Kd.R_alloc | apply Kd.R_drewN | apply Kd.R_drew)); exact Kd.R_mono (Kd.R_far (p := ⟨gb453, 4, none⟩) (Kd.R_types HO456.out BK453.out (by decide)) (fun _ hk => hk.2) (.slice Ao11 t454.length co11)) (fun _ hk => trivial)))⟩; have n2_ : Aside0 (w13.heap[gb453]? = some (.cells #[.int .i64 (wrap64 (((rd_T35 l0 x10_1).f0) + a1)), .int .i64 ((rd_T35 l0 x10_1).f1), .string ((rd_T35 l0 x10_1).f2), .string ((rd_T35 l0 x10_1).f3), .slice Ao11 t454.length co11] 35 (0, 0))) := ⟨(by rw [hw]; exact (by (with_reducible repeat (first | refine blk_drewN ?_ _ | refine blk_drew ?_ | refine blk_alloc ?_ _)); refine blk_put (cs := #[.int .i64 (wrap64 (((rd_T35 l0 x10_1).f0) + a1)), .int .i64 ((rd_T35 l0 x10_1).f1), .string ((rd_T35 l0 x10_1).f2), .string ((rd_T35 l0 x10_1).f3), .slice A452_4 ((rd_T35 l0 x10_1).f4).length c452_4]) ?_ 4 _ rfl; (with_reducible repeat (first | refine blk_drewN ?_ _ | refine blk_drew ?_ | refine blk_alloc ?_ _)); exact BK453.out))⟩; have n3_ : Aside0 (Below w.heap.size w w13) := ⟨(by rw [hw]; exact (y19_ GE453.out))⟩; clear hw; clear HO_5; clear HO456; clear BK453; clear HB; have HO_5 := n0_; have HO456 := n1_; have BK453 := n2_; have HB := n3_; clear n0_ n1_ n2_ n3_; have hcz14_0 : w13.cell? ⟨gb453, 0, none⟩ = some (.int .i64 (wrap64 (((rd_T35 l0 x10_1).f0) + a1))) := (blk_cell BK453.out 0).trans rfl; have hcz14_1 : w13.cell? ⟨gb453, 1, none⟩ = some (.int .i64 ((rd_T35 l0 x10_1).f1)) := (blk_cell BK453.out 1).trans rfl; have hcz14_2 : w13.cell? ⟨gb453, 2, none⟩ = some (.string ((rd_T35 l0 x10_1).f2)) := (blk_cell BK453.out 2).trans rfl; have hcz14_3 : w13.cell? ⟨gb453, 3, none⟩ = some (.string ((rd_T35 l0 x10_1).f3)) := (blk_cell BK453.out 3).trans rfl; have hcz14_4 : w13.cell? ⟨gb453, 4, none⟩ = some (.slice Ao11 t454.length co11) := (blk_cell BK453.out 4).trans rfl; have hfz14_0 := blk_frozen BK453.out 0; have hfz14_1 := blk_frozen BK453.out 1; have hfz14_2 := blk_frozen BK453.out 2; have hfz14_3 := blk_frozen BK453.out 3; have hfz14_4 := blk_frozen BK453.out 4) | ((with_reducible refine gate_builtin (b := .append) (xs := #[.tmp 23, .tmp 25]) rfl ?_); at_builtin; refine Kd.S_append k35 (w0 := w) w.heap.size rfl (.tmp 23) (.tmp 25) 22 35 (.agg #[(.int .i64 0), (.int .i64 0), (.string ⟨#[]⟩), (.string ⟨#[]⟩), (.slice none 0 0)]) 72 rfl Tryd.underlying22 info35 rfl (by decide) (by omega) u5 x5_1 (⟨wrap64 (((rd_T35 l0 x10_1).f0) + a1), (rd_T35 l0 x10_1).f1, (rd_T35 l0 x10_1).f2, (rd_T35 l0 x10_1).f3, t454⟩ : S35) [.int .i64 (wrap64 (((rd_T35 l0 x10_1).f0) + a1)), .int .i64 ((rd_T35 l0 x10_1).f1), .string ((rd_T35 l0 x10_1).f2), .string ((rd_T35 l0 x10_1).f3), .slice Ao11 t454.length co11] (fun k_ => k_ ≠ gb453) (fun k_ => some k_ = (.slice Ao11 t454.length co11 : Value).ownBlock) rfl rfl ?aP (fun k_ hk_ => ((Kd.R_mono (ok' := fun k_ => ((fun k_ => k_ ≠ gb453)) k_ ∧ some k_ ≠ (u5 : Value).ownBlock) (Kd.R_types (Kd.R_apart' (HO456.out) (Kd.S_typed HO_5.out) (by decide)) BK453.out (by decide)) (fun k_ hk => ⟨hk.2, hk.1.2⟩))).1 k_ hk_.symm) ?aF ?aO ?aB ?aS ?aL ?_; (case aP => exact k35_mkM _ _ _ (⟨wrap64 (((rd_T35 l0 x10_1).f0) + a1), (rd_T35 l0 x10_1).f1, (rd_T35 l0 x10_1).f2, (rd_T35 l0 x10_1).f3, t454⟩ : S35) (Kd.R_mono (Kd.R_tight rfl (Kd.R_mono (ok' := fun k_ => ((fun k_ => k_ ≠ gb453)) k_ ∧ some k_ ≠ (u5 : Value).ownBlock) (Kd.R_types (Kd.R_apart' (HO456.out) (Kd.S_typed HO_5.out) (by decide)) BK453.out (by decide)) (fun k_ hk => ⟨hk.2, hk.1.2⟩))) (fun _ h_ => h_))); (case aB => exact (y19_ GE453.out)); (case aF => exact (fun k_ hk => Kd.freshB (g := gb453) (o := .cells #[.int .i64 (wrap64 (((rd_T35 l0 x10_1).f0) + a1)), .int .i64 ((rd_T35 l0 x10_1).f1), .string ((rd_T35 l0 x10_1).f2), .string ((rd_T35 l0 x10_1).f3), .slice Ao11 t454.length co11] 35 (0, 0)) (y12_ BK453.out) k_ hk)); (case aO => exact (y18_ HO_5.out)); (case aS => exact (below_size (y19_ GE453.out))); (case aL => have := LMc7.out; first | omega | exact Nat.le_of_lt this); intro v458 w15 ho hb hg hat; rw [← Ny457.out] at ho; have n0_ := Aside0.mk (blk_grown (g := gb453) (o := .cells #[.int .i64 (wrap64 (((rd_T35 l0 x10_1).f0) + a1)), .int .i64 ((rd_T35 l0 x10_1).f1), .string ((rd_T35 l0 x10_1).f2), .string ((rd_T35 l0 x10_1).f3), .slice Ao11 t454.length co11] 35 (0, 0)) (y12_ BK453.out) hg (Kd.S_away HO_5.out (fun _ hk => hk.2))); have n1_ := Aside0.mk (hb); have n2_ := Aside0.mk (ho); clear BK453; clear HB; clear HO_5; clear HO456; have BK453 := n0_; have HB := n1_; have HO459 := n2_; clear n0_ n1_ n2_; clear ho hb hg hat))
    go_roundg k1
    case measure => have := HK1.out; omega
    case rel => exact ⟨(y457), (wrap64 (x10_1 + 1)), y5_, H', ⟨by have := HK1.out; omega⟩, ⟨by (with_reducible repeat (first | apply Kd.S_alloc | apply Kd.S_drewN | apply Kd.S_drew)); exact Kd.S_mono HO459.out (fun _ hk => trivial)⟩, ⟨(y19_ GE453.out)⟩⟩
   ·rw [if_neg c3] at H
    have c3b0 : decide (x10_1 < (l0.length : Int)) = false := decide_eq_false c3
    clear c3
    obtain rfl := Option.some.inj H
    go_wp2
    go_ret
    exact ⟨_, y13_, by (with_reducible repeat (first | apply Kd.S_alloc | apply Kd.S_drewN | apply Kd.S_drew)); exact HO_5.out, y14_⟩
end Go.Proofs.YtpnhjipaeggcpaaDoor.X
end
section
namespace Go.Proofs.YtpnhjipaeggcpaaDoor.X
open Go.RowKit Go.Proofs.YtpnhjipaeggcpaaDoorW.PrintWords Go.Proofs.YtpnhjipaeggcpaaDoorW.PrintLast Go.Proofs.YtpnhjipaeggcpaaDoorW.PrintMore
def lastText (o : List S35) (d : Int) : Bool := match o.getLast? with
  | none => false
  | some y => y.f1 == 1 && (y.f0 == d)
def lastAdd (o : List S35) (s : ByteArray) : List S35 := match o.getLast? with
  | none => o
  | some y => o.set (o.length - 1) ⟨y.f0, y.f1, y.f2, y.f3 ++ s, y.f4⟩
def lastSize (o : List S35) : Nat := match o.getLast? with
  | none => 0
  | some y => y.f3.size
def normGo : List S35 → List S35 → Option (List S35)
  | o, [] => some o
  | o, x :: r => if x.f1 = 1 ∧ x.f3.toList.isEmpty = true then normGo o r
      else if x.f1 = 1 ∧ lastText o x.f0 = true then (if lastSize o + x.f3.size ≤ 9223372036854775807 then normGo (lastAdd o x.f3) r else none)
      else if o.length < 1954687338268 then normGo (o ++ [x]) r else none
def rows_Normal.f (l0 : List S35) : Option (List S35) := (rows_moved.f (l0.length + 1) l0 0).bind (normGo [])
def NormI (w Wm : World) (f : Nat → Nat) (j : Nat) (v : Value) (o : List S35) (W : World) : Prop :=
  Kd.S k35 35 W w.heap.size (fun k => k < Wm.heap.size → (∃ cells, Wm.heap[k]? = some (.cells cells 41 (0, 0))) ∧ f k < j) v o ∧
  (∀ k, v.ownBlock = some k → Wm.heap.size ≤ k) ∧ Below Wm.heap.size Wm W
theorem normI_next {w Wm W W' : World} {f : Nat → Nat} {j : Nat} {v : Value} {o : List S35} (h : NormI w Wm f j v o W) (hb : Below W.heap.size W W') : NormI w Wm f (j + 1) v o W' :=
  ⟨Kd.S_mono (Kd.S_below h.1 hb) (fun k hk hlt => ⟨(hk hlt).1, by have := (hk hlt).2; omega⟩), h.2.1, h.2.2.trans (hb.mono h.2.2.size)⟩
theorem norm_elem {Wm : World} {base : Nat} {f : Nat → Nat} {A : Option Addr} {n cap : Nat} {m : List S35} (hR : (Kd.tag f k35).R 35 Wm base (fun _ => True) (.slice A n cap) m.zipIdx) {j : Nat} {x : S35} (hx : m[j]? = some x) :
    ∃ ad A4 c4, A = some ad ∧ k35.M Wm base (fun k => k < Wm.heap.size ∧ (∃ cells, Wm.heap[k]? = some (.cells cells 41 (0, 0))) ∧ f k = j) x [.int .i64 x.f0, .int .i64 x.f1, .string x.f2, .string x.f3, .slice A4 x.f4.length c4] ∧
      Wm.cell? (ad.add (j * 5)) = some (.int .i64 x.f0) ∧ Wm.cell? ⟨(ad.add (j * 5)).block, (ad.add (j * 5)).off + 1, none⟩ = some (.int .i64 x.f1) ∧ Wm.cell? ⟨(ad.add (j * 5)).block, (ad.add (j * 5)).off + 2, none⟩ = some (.string x.f2) ∧
      Wm.cell? ⟨(ad.add (j * 5)).block, (ad.add (j * 5)).off + 3, none⟩ = some (.string x.f3) ∧ Wm.cell? ⟨(ad.add (j * 5)).block, (ad.add (j * 5)).off + 4, none⟩ = some (.slice A4 x.f4.length c4) := by
  have hj : j < m.length := (List.getElem?_eq_some_iff.1 hx).1
  obtain ⟨hn, hnc, hC⟩ := Kd.R_reads' hR
  rw [List.length_zipIdx] at hn
  subst hn
  obtain ⟨ad, _, _, rfl, _⟩ := row_at (Kd.S_reads' ⟨f, hR⟩).2.2 hx
  obtain ⟨c, hcl, hM, hcc⟩ := Kd.R_getA hR (x, 0) (j : Int) (by omega) (by omega)
  have hz : m.zipIdx.getD (j : Int).toNat (x, 0) = (x, j) := by
    rw [Int.toNat_natCast, List.getD_eq_getElem?_getD, Kd.zip_at hx]; rfl
  rw [hz] at hM
  have hM2 := k35.M_bound (show k35.M Wm base (fun k => (True ∧ some k ≠ (Value.slice (some ad) m.length cap).ownBlock) ∧ f k = j) x c from hM)
  obtain ⟨v4, rfl, h4⟩ := k35_openM hM2
  obtain ⟨A4, c4, rfl⟩ := Kd.R_slice h4
  rw [Int.toNat_natCast] at hcc
  have hadd : ∀ q, (⟨(ad.add (j * 5)).block, (ad.add (j * 5)).off + q, none⟩ : Addr) = ad.add (j * 5 + q) := fun q => by
    obtain ⟨g, rfl⟩ := Kd.R_head hR
    simp only [Addr.add]
    split <;> split <;> simp_all
  refine ⟨ad, A4, c4, rfl, k35.M_mono (fun k hk => ?_) hM2, hcc 0 _ rfl, ?_, ?_, ?_, ?_⟩
  · obtain ⟨hk1, _, hk3, q, hq, hcq⟩ := hk
    have : q = 41 := by
      have e : k35.E = [41] := rfl
      rw [e] at hq
      simpa using hq
    subst this
    exact ⟨hk3, hcq, hk1.2⟩
  · rw [hadd]; exact hcc 1 _ rfl
  · rw [hadd]; exact hcc 2 _ rfl
  · rw [hadd]; exact hcc 3 _ rfl
  · rw [hadd]; exact hcc 4 _ rfl
theorem norm_append {ops : Array Oper} {rest : List Oper} {o : Oper} {a : Act} {Q : Exit → Act → World → Prop} {w Wm W : World} {f : Nat → Nat} {j : Nat} {v : Value} {os : List S35} {x : S35} {A4 : Option Addr} {c4 : Nat} (s y : Operand) (hgd : o.guard = none)
    (ho : o.op = .call { callee := .builtin .append, args := #[s, y], argTypes := #[22, 22] }) (hs : a.eval s = v) (hy : a.eval y = .slice (some ⟨W.heap.size, 0, none⟩) 1 1) (HN : NormI w Wm f j v os W)
    (HM : k35.M W w.heap.size (fun k => k < Wm.heap.size ∧ (∃ cells, Wm.heap[k]? = some (.cells cells 41 (0, 0))) ∧ f k = j) x [.int .i64 x.f0, .int .i64 x.f1, .string x.f2, .string x.f3, .slice A4 x.f4.length c4])
    (hsz : w.heap.size ≤ Wm.heap.size) (hl : os.length < 1954687338268)
    (h : ∀ A1 c1 w1, NormI w Wm f (j + 1) (.slice A1 (os.length + 1) c1) (os ++ [x]) w1 → wpList Tryd.prog ops Q rest (a.put o.dst (.slice A1 (os.length + 1) c1)) w1) :
    wpList Tryd.prog ops Q (o :: rest) a (W.alloc (.cells #[.int .i64 x.f0, .int .i64 x.f1, .string x.f2, .string x.f3, .slice A4 x.f4.length c4] 35)) := by
  obtain ⟨hS, hO, hB⟩ := HN
  refine Kd.S_append k35 (w0 := Wm) w.heap.size hgd s y 22 35 (.agg #[(.int .i64 0), (.int .i64 0), (.string ⟨#[]⟩), (.string ⟨#[]⟩), (.slice none 0 0)]) 72 ho Tryd.underlying22 info35 rfl (by decide) (by omega) v os x
    [.int .i64 x.f0, .int .i64 x.f1, .string x.f2, .string x.f3, .slice A4 x.f4.length c4] (fun k => k < Wm.heap.size → (∃ cells, Wm.heap[k]? = some (.cells cells 41 (0, 0))) ∧ f k < j + 1) (fun k => k < Wm.heap.size ∧ (∃ cells, Wm.heap[k]? = some (.cells cells 41 (0, 0))) ∧ f k = j) hs hy HM
    (fun k hk => ⟨fun _ => ⟨hk.2.1, by have := hk.2.2; omega⟩, fun e => by have := hO k e.symm; omega⟩) (fun k hk hk2 => absurd hk2 (by have := hB.size; omega))
    (Kd.S_mono hS (fun k hk => ⟨fun h => ⟨(hk h).1, by have := (hk h).2; omega⟩, fun h => by have := (hk h.1).2; omega⟩)) (hB.mono hsz) (by have := hB.size; omega) (by omega) ?_
  intro v1 w1 hS1 hb1 hg1 hat1
  obtain ⟨A1, c1, rfl⟩ := Kd.S_slice hS1
  rw [show (os ++ [x]).length = os.length + 1 by simp] at *
  refine h A1 c1 w1 ⟨hS1, fun k hk => ?_, hB.grown hg1 hB.size (fun k hk => hO k hk)⟩
  rcases hat1 with e1 | ⟨b, e1, hb⟩
  · rw [e1] at hk; exact hO k hk
  · rw [e1] at hk; cases hk; exact Nat.le_trans hB.size hb
theorem last_set (o : List S35) (y y' : S35) : (o ++ [y]).set o.length y' = o ++ [y'] := by simp
theorem norm_store {ops : Array Oper} {rest : List Oper} {o : Oper} {a : Act} {Q : Exit → Act → World → Prop} {w Wm W : World} {f : Nat → Nat} {j co : Nat} {os : List S35} {y : S35} {u : ByteArray} {ad : Addr} (p s : Operand) (hN : o.dst = none) (hgd : o.guard = none)
    (ho : o.op = .store 9 p s) (hp : a.eval p = .pointer (some ⟨(ad.add (os.length * 5)).block, (ad.add (os.length * 5)).off + 3, none⟩)) (hs : a.eval s = .string u) (HN : NormI w Wm f j (.slice (some ad) (os.length + 1) co) (os ++ [y]) W) (hsz : w.heap.size ≤ Wm.heap.size)
    (h : ∀ w1, NormI w Wm f j (.slice (some ad) (os.length + 1) co) (os ++ [⟨y.f0, y.f1, y.f2, u, y.f4⟩]) w1 → wpList Tryd.prog ops Q rest a w1) : wpList Tryd.prog ops Q (o :: rest) a W := by
  obtain ⟨hS, hO, hB⟩ := HN
  obtain ⟨g, rfl⟩ := Kd.R_head (Kd.S_R hS)
  obtain ⟨oki, c, hcl, hM, hcc, hfr, hoki, hH⟩ := Kd.S_elem hS y (os.length : Int) (by omega) (by omega)
  have hz : (os ++ [y]).getD (os.length : Int).toNat y = y := by simp
  rw [hz] at hM
  obtain ⟨v4, rfl, h4⟩ := k35_openM hM
  have hadd : (⟨((⟨g, 0, none⟩ : Addr).add (os.length * 5)).block, ((⟨g, 0, none⟩ : Addr).add (os.length * 5)).off + 3, none⟩ : Addr) = ⟨g, os.length * 5 + 3, none⟩ := by
    simp only [Addr.add]
    split <;> simp_all
  rw [hadd] at hp
  refine Kd.H_store k35 (w0 := Wm) w.heap.size hN hgd 9 p s ho 35 (g := g) (n := os.length + 1) (cap := co) (o' := os.length * 5 + 3) (os.length : Int) 3 (os ++ [y]) ⟨y.f0, y.f1, y.f2, u, y.f4⟩ (.string u) [.string u] [.int .i64 y.f0, .int .i64 y.f1, .string y.f2, .string y.f3, v4] _ oki oki hp rfl hs rfl (by kernel_rfl) (by intro q hq; simp at hq; subst hq; rfl) hH (by omega) (by omega) (show 3 + 1 ≤ 5 by omega) (k35_mkM _ _ _ (⟨y.f0, y.f1, y.f2, u, y.f4⟩ : S35) h4) (fun _ hk => hk) (hB.mono hsz) ?_
  intro w1 hS1 hb1 hg1
  rw [Int.toNat_natCast, last_set] at hS1
  exact h w1 ⟨hS1, hO, hB.grown hg1 hB.size (fun k hk => hO k (by rw [← hk]; rfl))⟩
theorem normI_same {w Wm W W' : World} {f : Nat → Nat} {j : Nat} {v : Value} {o : List S35} (h : NormI w Wm f j v o W) (hb : Below W.heap.size W W') : NormI w Wm f j v o W' :=
  ⟨Kd.S_below h.1 hb, h.2.1, h.2.2.trans (hb.mono h.2.2.size)⟩
set_option maxHeartbeats 8000000 in
set_option maxRecDepth 100000 in
theorem rows_Normal.calls (A0 : Option Addr) (c0 : Nat) (l0 : List S35) (r : List S35) (w : World) (hr0 : Kd.C k35 w A0 l0.length l0) (hc0 : l0.length ≤ c0) (h : rows_Normal.f l0 = some r) :
    Calls Tryd.prog 29 #[.slice A0 l0.length c0] w fun e w' => ∃ v0_ : Value, e = .returned v0_ ∧ Kd.S k35 35 w' w.heap.size (fun _ => True) v0_ r ∧ Below w.heap.size w w' := by
  have hu := Tryd.underlying35
  obtain ⟨m, hm, hgo⟩ := Option.bind_eq_some_iff.1 h
  clear h
  have hc := rows_moved.calls (l0.length + 1) A0 c0 l0 0 m w hr0 hc0 hm
  clear hr0 hm
  go_enter Tryd.func29, Tryd.ntmps29
  go_wp2_with (go_at_call 48; refine hc.mono ?_; clear hc; rintro e Wm ⟨vm, rfl, ⟨f, hR⟩, hbm⟩; obtain ⟨Am, cm, rfl⟩ := Kd.S_slice ⟨f, hR⟩)
  have HR := Aside0.mk hR
  have HBM := Aside0.mk hbm
  have hmax : m.length ≤ 9223372036854775807 := (Kd.S_reads' ⟨f, hR⟩).2.2.2.1
  clear hR hbm
  go_loopw [3, 5, 6, 10] (fun v _ _ i wr => ∃ (j : Nat) (o : List S35), i = .int .i64 j ∧ j ≤ m.length ∧ Aside0 (NormI w Wm f j v o wr) ∧ Aside0 (normGo o (m.drop j) = some r)) (fun _ _ _ i _ => m.length - (intOf i).toNat)
  case atStart => exact ⟨0, [], rfl, Nat.zero_le _, ⟨Kd.S_nil _ _ _ _ _, (fun k hk => by cases hk), Below.refl _ _⟩, ⟨hgo⟩⟩
  case round =>
    obtain ⟨j, o, rfl, hj, HI, HG⟩ := hrel
    obtain ⟨hS, hown, hB⟩ := HI.out
    obtain ⟨Ao, co, rfl⟩ := Kd.S_slice hS
    have HS := Aside0.mk hS
    have HOW := Aside0.mk hown
    have HB := Aside0.mk hB
    clear hS hown hB HI
    by_cases hlt : j < m.length
    · have hlz : (j : Int) < (m.length : Int) := by omega
      obtain ⟨⟨xd, xk, xn, xt, xa⟩, hx, hxe⟩ := getD_at hlt
      have hg := HG.out
      rw [List.drop_eq_getElem_cons hlt, hxe, normGo] at hg
      obtain ⟨ad, A4, c4, e, hM, x0, x1, x2, x3, x4⟩ := norm_elem HR.out hx
      cases e
      have HM := Aside0.mk (Kd.M_below hM HB.out)
      replace x0 := (HB.out.cell (World.block_lt_of_cell? _ _ x0)).trans x0
      replace x1 := (HB.out.cell (World.block_lt_of_cell? _ _ x1)).trans x1
      replace x2 := (HB.out.cell (World.block_lt_of_cell? _ _ x2)).trans x2
      replace x3 := (HB.out.cell (World.block_lt_of_cell? _ _ x3)).trans x3
      replace x4 := (HB.out.cell (World.block_lt_of_cell? _ _ x4)).trans x4
      clear hM hx hxe HG
      dsimp only at *
      by_cases hk : xk = 1
      · subst hk
        cases he : xt.toList.isEmpty with
        | true =>
          rw [if_pos ⟨rfl, he⟩] at hg
          have HG2 := Aside0.mk hg
          clear hg
          go_wp2
          go_roundw
          case rel => exact ⟨j + 1, o, by go_num, by omega, ⟨normI_next ⟨HS.out, HOW.out, HB.out⟩ ((Below.refl _ _).alloc (Nat.le_refl _) _)⟩, HG2⟩
          case measure => simp [intOf]; omega
        | false =>
          rw [if_neg (by rw [he]; rintro ⟨_, h⟩; cases h)] at hg
          rcases List.eq_nil_or_concat o with rfl | ⟨o', ⟨yd, yk, yn, yt, ya⟩, rfl⟩
          · rw [if_neg (by rintro ⟨_, h⟩; cases h), if_pos (by decide)] at hg
            have HG2 := Aside0.mk hg
            have hol : ([] : List S35).length < 1954687338268 := by decide
            clear hg
            have hbx := fun nq => pw_below_drewN ((Below.refl wr.heap.size wr).alloc (Nat.le_refl _) (.cells #[.int .i64 xd, .int .i64 1, .string xn, .string xt, .slice A4 xa.length c4] 35)) nq
            have HNW := fun nq => normI_same ⟨HS.out, HOW.out, HB.out⟩ (hbx nq)
            have HMW := fun nq => Kd.M_below (d := k35) HM.out (hbx nq)
            have hszm := HBM.out.size
            have HNA := Aside0.mk HNW
            have HMA := Aside0.mk HMW
            clear hbx HNW HMW
            go_wp2_with fail
            go_quiet (fail)
            go_wp2_with ((with_reducible refine gate_builtin (b := .append) (xs := #[.tmp 16, .tmp 18]) rfl ?_); at_builtin; refine norm_append (x := ⟨xd, 1, xn, xt, xa⟩) (.tmp 16) (.tmp 18) rfl rfl rfl (congrArg (fun q => Value.slice (some ⟨q, 0, none⟩) 1 1) (World.size_alloc wr (.cells #[.int .i64 xd, .int .i64 1, .string xn, .string xt, .slice A4 xa.length c4] 35)).symm) (HNA.out nq) (HMA.out nq) hszm hol ?_; intro A1 c1 w1 hN1; have HN := Aside0.mk hN1; clear hN1)
            go_roundw
            case rel => exact ⟨j + 1, _, by go_num, by omega, HN, HG2⟩
            case measure => simp [intOf]; omega
          · rw [List.concat_eq_append] at *
            obtain ⟨ad2, A5, c5, e5, y0, y1, y2, y3, y4, _, _⟩ := row_at (Kd.S_reads' HS.out).2.2 (show (o' ++ [⟨yd, yk, yn, yt, ya⟩])[o'.length]? = some ⟨yd, yk, yn, yt, ya⟩ by simp)
            cases e5
            have y0_ := cell_alloc y0
            have y1_ := cell_alloc y1
            have y2_ := cell_alloc y2
            have y3_ := cell_alloc y3
            have y4_ := cell_alloc y4
            clear y0 y1 y2 y3 y4
            dsimp only at *
            have hlen : (o' ++ [(⟨yd, yk, yn, yt, ya⟩ : S35)]).length = o'.length + 1 := by simp
            rw [hlen] at HS HOW ⊢
            have hlt2 : lastText (o' ++ [⟨yd, yk, yn, yt, ya⟩]) xd = (yk == 1 && (yd == xd)) := by simp [lastText]
            rw [hlt2] at hg
            by_cases hyk : yk = 1
            · subst hyk
              by_cases hyd : yd = xd
              · subst hyd
                rw [if_pos ⟨rfl, by simp⟩, show lastSize (o' ++ [(⟨yd, 1, yn, yt, ya⟩ : S35)]) = yt.size by simp [lastSize], show lastAdd (o' ++ [(⟨yd, 1, yn, yt, ya⟩ : S35)]) xt = o' ++ [⟨yd, 1, yn, yt ++ xt, ya⟩] by simp [lastAdd]] at hg
                by_cases hcat : yt.size + xt.size ≤ 9223372036854775807
                · rw [if_pos hcat] at hg
                  have HG2 := Aside0.mk hg
                  have hdd : (yd == yd) = true := by simp
                  have hob : o'.length < 9223372036854775807 := by have := (Kd.S_reads' HS.out).2.2.2.1; simp at this; omega
                  have hcat2 : (9223372036854775807 < yt.size + xt.size) = False := eq_false (Nat.not_lt.2 hcat)
                  have HLEN := Aside0.mk hlen
                  have hbx := fun nq => pw_below_drewN ((Below.refl wr.heap.size wr).alloc (Nat.le_refl _) (.cells #[.int .i64 yd, .int .i64 1, .string xn, .string xt, .slice A4 xa.length c4] 35)) nq
                  have HNW := fun nq => normI_same (v := .slice (some ad2) (o'.length + 1) co) ⟨HS.out, HOW.out, HB.out⟩ (hbx nq)
                  have HNA := Aside0.mk HNW
                  have hszm := HBM.out.size
                  clear hg hlen hbx HNW
                  go_wp2_with fail
                  go_quiet (fail)
                  go_wp2_with fail
                  have hN2 := HNA.out nq
                  have hx3 : ((wr.alloc (.cells #[.int .i64 yd, .int .i64 1, .string xn, .string xt, .slice A4 xa.length c4] 35)).drewN nq).cell? ⟨wr.heap.size, 3, none⟩ = some (.string xt) := World.cell?_alloc_new _ _ _ _
                  have hy3 : ((wr.alloc (.cells #[.int .i64 yd, .int .i64 1, .string xn, .string xt, .slice A4 xa.length c4] 35)).drewN nq).cell? ⟨(ad2.add (o'.length * 5)).block, (ad2.add (o'.length * 5)).off + 3, none⟩ = some (.string yt) := y3_ _
                  generalize (wr.alloc (.cells #[.int .i64 yd, .int .i64 1, .string xn, .string xt, .slice A4 xa.length c4] 35)).drewN nq = W2 at *
                  have HN2 := Aside0.mk hN2
                  clear hN2 y0_ y1_ y2_ y3_ y4_ x0 x1 x2 x3 x4
                  have hwr : IntKind.i64.wrap (o'.length : Int) = o'.length := wrap_small _ (by omega) (by omega)
                  have hwr2 : IntKind.i64.wrap ((o'.length : Int) + 1 - 1) = o'.length := by rw [Int.add_sub_cancel]; exact hwr
                  have HN3 := Aside0.mk (normI_same HN2.out (show Below W2.heap.size W2 W2.drew from (Below.refl _ W2).drew))
                  have hbd : ((o'.length : Int) < (o'.length : Int) + 1) = True := eq_true (by omega)
                  go_still_tail 11, (by kernel_rfl)
                  change wpList _ _ _ _ _ W2.drew
                  clear hx3 hy3
                  generalize W2.drew = W3 at *
                  go_wp2_with (refine norm_store (w := w) (Wm := Wm) (f := f) (j := j) (os := o') (y := ⟨yd, 1, yn, yt, ya⟩) (ad := ad2) (co := co) (.tmp 67) (.tmp 65) rfl rfl rfl rfl rfl HN3.out hszm ?_; intro w1 hN4; have HN4 := Aside0.mk (normI_next hN4 (Below.refl _ w1)); clear hN4)
                  go_roundw
                  case rel => exact ⟨j + 1, _, by go_num, by omega, HN4, HG2⟩
                  case measure => simp [intOf]; omega
                · rw [if_neg hcat] at hg; cases hg
              · have hyd1 : (yd == xd) = false := beq_eq_false_iff_ne.mpr hyd
                rw [hyd1, if_neg (by simp)] at hg
                by_cases hol : (o' ++ [(⟨yd, 1, yn, yt, ya⟩ : S35)]).length < 1954687338268
                · rw [if_pos hol] at hg
                  rw [hlen] at hol
                  have HG2 := Aside0.mk hg
                  have HLEN := Aside0.mk hlen
                  clear hg hlen
                  have hbx := fun nq => pw_below_drewN ((Below.refl wr.heap.size wr).alloc (Nat.le_refl _) (.cells #[.int .i64 xd, .int .i64 1, .string xn, .string xt, .slice A4 xa.length c4] 35)) nq
                  have HNW := fun nq => normI_same ⟨HS.out, HOW.out, HB.out⟩ (hbx nq)
                  have HMW := fun nq => Kd.M_below (d := k35) HM.out (hbx nq)
                  have hszm := HBM.out.size
                  have HNA := Aside0.mk HNW
                  have HMA := Aside0.mk HMW
                  clear hbx HNW HMW
                  go_wp2_with fail
                  go_quiet (fail)
                  go_wp2_with ((with_reducible refine gate_builtin (b := .append) (xs := #[.tmp 16, .tmp 18]) rfl ?_); at_builtin; refine norm_append (x := ⟨xd, 1, xn, xt, xa⟩) (.tmp 16) (.tmp 18) rfl rfl rfl (congrArg (fun q => Value.slice (some ⟨q, 0, none⟩) 1 1) (World.size_alloc wr (.cells #[.int .i64 xd, .int .i64 1, .string xn, .string xt, .slice A4 xa.length c4] 35)).symm) (HNA.out nq) (HMA.out nq) hszm (by simpa using hol) ?_; intro A1 c1 w1 hN1; have HN := Aside0.mk hN1; clear hN1)
                  go_roundw
                  case rel => exact ⟨j + 1, _, by go_num, by omega, ⟨by have h_ := HN.out; rw [HLEN.out] at h_; exact h_⟩, HG2⟩
                  case measure => simp [intOf]; omega
                · rw [if_neg hol] at hg; cases hg
            · have hyk1 : (yk == 1) = false := beq_eq_false_iff_ne.mpr hyk
              rw [hyk1, if_neg (by simp)] at hg
              by_cases hol : (o' ++ [(⟨yd, yk, yn, yt, ya⟩ : S35)]).length < 1954687338268
              · rw [if_pos hol] at hg
                rw [hlen] at hol
                have HG2 := Aside0.mk hg
                have HLEN := Aside0.mk hlen
                clear hg hlen
                have hbx := fun nq => pw_below_drewN ((Below.refl wr.heap.size wr).alloc (Nat.le_refl _) (.cells #[.int .i64 xd, .int .i64 1, .string xn, .string xt, .slice A4 xa.length c4] 35)) nq
                have HNW := fun nq => normI_same ⟨HS.out, HOW.out, HB.out⟩ (hbx nq)
                have HMW := fun nq => Kd.M_below (d := k35) HM.out (hbx nq)
                have hszm := HBM.out.size
                have HNA := Aside0.mk HNW
                have HMA := Aside0.mk HMW
                clear hbx HNW HMW
                go_wp2_with fail
                go_quiet (fail)
                go_wp2_with ((with_reducible refine gate_builtin (b := .append) (xs := #[.tmp 16, .tmp 18]) rfl ?_); at_builtin; refine norm_append (x := ⟨xd, 1, xn, xt, xa⟩) (.tmp 16) (.tmp 18) rfl rfl rfl (congrArg (fun q => Value.slice (some ⟨q, 0, none⟩) 1 1) (World.size_alloc wr (.cells #[.int .i64 xd, .int .i64 1, .string xn, .string xt, .slice A4 xa.length c4] 35)).symm) (HNA.out nq) (HMA.out nq) hszm (by simpa using hol) ?_; intro A1 c1 w1 hN1; have HN := Aside0.mk hN1; clear hN1)
                go_roundw
                case rel => exact ⟨j + 1, _, by go_num, by omega, ⟨by have h_ := HN.out; rw [HLEN.out] at h_; exact h_⟩, HG2⟩
                case measure => simp [intOf]; omega
              · rw [if_neg hol] at hg; cases hg
      · rw [if_neg (fun h => hk h.1), if_neg (fun h => hk h.1)] at hg
        have hk1 : (xk == 1) = false := beq_eq_false_iff_ne.mpr hk
        by_cases hol : o.length < 1954687338268
        · rw [if_pos hol] at hg
          have HG2 := Aside0.mk hg
          clear hg
          have hbx := fun nq => pw_below_drewN ((Below.refl wr.heap.size wr).alloc (Nat.le_refl _) (.cells #[.int .i64 xd, .int .i64 xk, .string xn, .string xt, .slice A4 xa.length c4] 35)) nq
          have HNW := fun nq => normI_same ⟨HS.out, HOW.out, HB.out⟩ (hbx nq)
          have HMW := fun nq => Kd.M_below (d := k35) HM.out (hbx nq)
          have hszm := HBM.out.size
          have HNA := Aside0.mk HNW
          have HMA := Aside0.mk HMW
          clear hbx HNW HMW
          go_wp2_with fail
          go_quiet (fail)
          go_wp2_with ((with_reducible refine gate_builtin (b := .append) (xs := #[.tmp 16, .tmp 18]) rfl ?_); at_builtin; refine norm_append (x := ⟨xd, xk, xn, xt, xa⟩) (.tmp 16) (.tmp 18) rfl rfl rfl (congrArg (fun q => Value.slice (some ⟨q, 0, none⟩) 1 1) (World.size_alloc wr (.cells #[.int .i64 xd, .int .i64 xk, .string xn, .string xt, .slice A4 xa.length c4] 35)).symm) (HNA.out nq) (HMA.out nq) hszm hol ?_; intro A1 c1 w1 hN1; have HN := Aside0.mk hN1; clear hN1)
          go_roundw
          case rel => exact ⟨j + 1, _, by go_num, by omega, HN, HG2⟩
          case measure => simp [intOf]; omega
        · rw [if_neg hol] at hg; cases hg
    · obtain rfl : j = m.length := by omega
      have hlz : ¬ (m.length : Int) < (m.length : Int) := by omega
      have hg := HG.out
      rw [List.drop_eq_nil_of_le (Nat.le_refl _), normGo] at hg
      cases hg
      go_wp2
      go_ret
      exact ⟨_, rfl, Kd.S_mono HS.out (fun _ _ => trivial), HBM.out.trans (HB.out.mono HBM.out.size)⟩
end Go.Proofs.YtpnhjipaeggcpaaDoor.X
end
section
namespace Go.Proofs.YtpnhjipaeggcpaaDoor.X
open Go.RowKit Go.Proofs.YtpnhjipaeggcpaaDoorW.PrintWords Go.Proofs.YtpnhjipaeggcpaaDoorW.PrintLast Go.Proofs.YtpnhjipaeggcpaaDoorW.PrintMore
attribute [local go_sem] max2_int min2_int max_two min_two max_three min_three max_four min_four
theorem eqA41 (d : Nat) (w : World) (x0 y0 : ByteArray) (x1 y1 : ByteArray) :
  (Op.equalIn (d + 2) 41 (.agg #[.string x0, .string x1]) (.agg #[.string y0, .string y1])).run Tryd.prog w = .ok (x0.toList == y0.toList && (x1.toList == y1.toList)) w := by
 refine eqA_of Tryd.underlying41 (by kernel_rfl) ?_
 refine eqf_cons (by rfl) (by go_simp; rfl) (by go_simp; rfl) (by go_simp) ?_
 exact eqf_last (by rfl) (by go_simp; rfl) (by go_simp; rfl) (by go_simp)
end Go.Proofs.YtpnhjipaeggcpaaDoor.X
end
section
namespace Go.Proofs.YtpnhjipaeggcpaaDoor.X
open Go.RowKit Go.Proofs.YtpnhjipaeggcpaaDoorW.PrintWords Go.Proofs.YtpnhjipaeggcpaaDoorW.PrintLast Go.Proofs.YtpnhjipaeggcpaaDoorW.PrintMore
def attrEq (a b : S41) : Bool := a.f0.toList == b.f0.toList && (a.f1.toList == b.f1.toList)
def attrsEq : List S41 → List S41 → Bool
  | [], [] => true
  | a :: l, b :: m => attrEq a b && attrsEq l m
  | _, _ => false
def rowEq (x y : S35) : Bool := x.f0 == y.f0 && (x.f1 == y.f1 && (x.f2.toList == y.f2.toList && (x.f3.toList == y.f3.toList && attrsEq x.f4 y.f4)))
def rowsEq : List S35 → List S35 → Bool
  | [], [] => true
  | a :: l, b :: m => rowEq a b && rowsEq l m
  | _, _ => false
def rows_Same.f (l0 l1 : List S35) : Option Bool := some (rowsEq l0 l1)
theorem pre_succ {α : Type} {f : α → α → Bool} {l m : List α} {k : Nat} {x y : α} (h : ∀ j, j < k → ∀ a b, l[j]? = some a → m[j]? = some b → f a b = true) (hx : l[k]? = some x) (hy : m[k]? = some y) (hq : f x y = true) :
    ∀ j, j < k + 1 → ∀ a b, l[j]? = some a → m[j]? = some b → f a b = true := fun j hj a b ha hb => by
  by_cases e : j = k
  · subst e; rw [hx] at ha; rw [hy] at hb; cases ha; cases hb; exact hq
  · exact h j (by omega) a b ha hb
def mnN (a b : Nat) : Nat := min a b
theorem min2_nat (k k' : IntKind) (x y : Nat) : Builtin.min2 (.int k (x : Int)) (.int k' (y : Int)) = pure (.int k ((mnN y x : Nat) : Int)) := by
  simp only [Builtin.min2, mnN]
  congr 1
  split <;> (congr 1; omega)
theorem attrsEq_at : ∀ {l m : List S41} {k : Nat}, (∀ j, j < k → ∀ a b, l[j]? = some a → m[j]? = some b → attrEq a b = true) → ∀ {a b : S41}, l[k]? = some a → m[k]? = some b → attrEq a b = false → attrsEq l m = false
  | [], _, k, _, a, b, ha, _, _ => by simp at ha
  | _ :: _, [], k, _, a, b, _, hb, _ => by simp at hb
  | x :: l, y :: m, 0, _, a, b, ha, hb, h => by
    simp at ha hb
    subst ha hb
    simp [attrsEq, h]
  | x :: l, y :: m, k + 1, hp, a, b, ha, hb, h => by
    rw [attrsEq, attrsEq_at (l := l) (m := m) (k := k) (fun j hj a b h1 h2 => hp (j + 1) (by omega) a b (by simpa using h1) (by simpa using h2)) (by simpa using ha) (by simpa using hb) h, Bool.and_false]
theorem attrsEq_end : ∀ {l m : List S41}, (∀ (j : Nat) (a b : S41), l[j]? = some a → m[j]? = some b → attrEq a b = true) → attrsEq l m = decide (l.length = m.length)
  | [], [], _ => rfl
  | [], _ :: _, _ => rfl
  | _ :: _, [], _ => rfl
  | x :: l, y :: m, hp => by
    rw [attrsEq, attrsEq_end (l := l) (m := m) (fun j a b h1 h2 => hp (j + 1) a b (by simpa using h1) (by simpa using h2)), hp 0 x y rfl rfl, Bool.true_and]
    simp
section
attribute [local go_sem] min2_nat min_two
attribute [local go_sem high] eqA41
set_option maxHeartbeats 4000000 in
set_option maxRecDepth 100000 in
theorem rows_attrs (A B : Option Addr) (c d : Nat) (l m : List S41) (w : World) (hl : Kd.C k41 w A l.length l) (hm : Kd.C k41 w B m.length m) :
    Calls Tryd.prog 47 #[.slice A l.length c, .slice B m.length d] w fun e w' => e = .returned (.bool (attrsEq l m)) ∧ Below w.heap.size w w' := by
  have hu := Tryd.underlying41
  have hmax : l.length ≤ 9223372036854775807 := hl.2.1
  have HL := Aside0.mk hl
  have HM := Aside0.mk hm
  clear hl hm
  go_enter Tryd.func47, Tryd.ntmps47
  go_wp2
  go_loopw [5, 11] (fun _ i wr => ∃ k : Nat, i = .int .i64 k ∧ k ≤ mnN m.length l.length ∧ Aside0 (∀ j, j < k → ∀ a b, l[j]? = some a → m[j]? = some b → attrEq a b = true) ∧ Aside0 (Below w.heap.size w wr)) (fun _ i _ => mnN m.length l.length - (intOf i).toNat)
  case atStart => exact ⟨0, rfl, Nat.zero_le _, ⟨fun j hj => absurd hj (Nat.not_lt_zero _)⟩, ⟨Below.refl _ _⟩⟩
  case round =>
    obtain ⟨k, rfl, hk, HN, HB⟩ := hrel
    by_cases hlt : k < mnN m.length l.length
    · have hlz : (k : Int) < ((mnN m.length l.length : Nat) : Int) := by omega
      have h1 : k < l.length := by unfold mnN at hlt; omega
      have h2 : k < m.length := by unfold mnN at hlt; omega
      obtain ⟨x, hx, hxe⟩ := getD_at h1
      obtain ⟨y, hy, hye⟩ := getD_at h2
      obtain ⟨ad, e, cx0, cx1⟩ := attr_at (Kd.C_below HL.out HB.out) hx
      obtain ⟨bd, e', cy0, cy1⟩ := attr_at (Kd.C_below HM.out HB.out) hy
      cases e; cases e'
      have HX := Aside0.mk hx
      have HY := Aside0.mk hy
      clear hx hxe hy hye
      have hz1 : (k : Int) < (l.length : Int) := by omega
      have hz2 : (k : Int) < (m.length : Int) := by omega
      cases hq : attrEq x y with
      | true =>
        have hq' : (x.f0.toList == y.f0.toList && (x.f1.toList == y.f1.toList)) = true := hq
        go_wp2_with fail
        go_quiet (fail)
        go_wp2
        go_roundw
        case rel => exact ⟨k + 1, by go_num, by omega, ⟨pre_succ HN.out HX.out HY.out hq⟩, ⟨pw_below_drewN HB.out _⟩⟩
        case measure => simp [intOf]; omega
      | false =>
        have hq' : (x.f0.toList == y.f0.toList && (x.f1.toList == y.f1.toList)) = false := hq
        go_wp2_with fail
        go_quiet (fail)
        go_wp2
        go_ret
        exact ⟨by rw [attrsEq_at HN.out HX.out HY.out hq]; rfl, pw_below_drewN HB.out _⟩
    · obtain rfl : k = mnN m.length l.length := by omega
      have hlz : ¬ ((mnN m.length l.length : Nat) : Int) < ((mnN m.length l.length : Nat) : Int) := by omega
      have hans := attrsEq_end (l := l) (m := m) (fun j a b h1 h2 => HN.out j (by
        have e1 := (List.getElem?_eq_some_iff.1 h1).1
        have e2 := (List.getElem?_eq_some_iff.1 h2).1
        unfold mnN; omega) a b h1 h2)
      go_wp2
      go_ret
      refine ⟨?_, HB.out⟩
      show Ending.returned (.bool ((l.length : Int) == (m.length : Int))) = _
      rw [show decide (l.length = m.length) = ((l.length : Int) == (m.length : Int)) by by_cases e : l.length = m.length <;> simp [e]; omega]
end
set_option maxHeartbeats 4000000 in
set_option maxRecDepth 100000 in
theorem rows_Same1 (x y : S35) (A B : Option Addr) (c d : Nat) (w : World) (hl : Kd.C k41 w A x.f4.length x.f4) (hm : Kd.C k41 w B y.f4.length y.f4) :
    Calls Tryd.prog 46 #[.agg #[.int .i64 x.f0, .int .i64 x.f1, .string x.f2, .string x.f3, .slice A x.f4.length c], .agg #[.int .i64 y.f0, .int .i64 y.f1, .string y.f2, .string y.f3, .slice B y.f4.length d]] w fun e w' => e = .returned (.bool (rowEq x y)) ∧ Below w.heap.size w w' := by
  have hu := Tryd.underlying35
  obtain ⟨x0, x1, x2, x3, x4⟩ := x
  obtain ⟨y0, y1, y2, y3, y4⟩ := y
  simp only at hl hm ⊢
  have hc := fun W (h : Below w.heap.size w W) => rows_attrs A B c d x4 y4 W (Kd.C_below hl h) (Kd.C_below hm h)
  clear hl hm
  unfold rowEq
  simp only
  generalize attrsEq x4 y4 = b4 at hc
  by_cases h0 : x0 = y0
  · subst h0
    by_cases h1 : x1 = y1
    · subst h1
      cases h2 : (x2.toList == y2.toList) with
      | true =>
        cases h3 : (x3.toList == y3.toList) with
        | true =>
          go_enter Tryd.func46, Tryd.ntmps46
          go_wp2_with (go_at_call 47; refine (hc _ (((Below.refl _ w).alloc (Nat.le_refl _) _).alloc (by simp) _)).mono ?_; rintro e w1 ⟨rfl, hb⟩)
          go_ret
          exact ⟨by simp, (((Below.refl _ w).alloc (Nat.le_refl _) _).alloc (by simp) _).trans (hb.mono (by simp; omega))⟩
        | false =>
          go_enter Tryd.func46, Tryd.ntmps46
          go_wp2
          go_ret
          exact ⟨by simp, ((Below.refl _ w).alloc (Nat.le_refl _) _).alloc (by simp) _⟩
      | false =>
        go_enter Tryd.func46, Tryd.ntmps46
        go_wp2
        go_ret
        exact ⟨by simp, ((Below.refl _ w).alloc (Nat.le_refl _) _).alloc (by simp) _⟩
    · have e1 : (x1 == y1) = false := beq_eq_false_iff_ne.mpr h1
      go_enter Tryd.func46, Tryd.ntmps46
      go_wp2
      go_ret
      exact ⟨by simp [e1], ((Below.refl _ w).alloc (Nat.le_refl _) _).alloc (by simp) _⟩
  · have e0 : (x0 == y0) = false := beq_eq_false_iff_ne.mpr h0
    go_enter Tryd.func46, Tryd.ntmps46
    go_wp2
    go_ret
    exact ⟨by simp [e0], ((Below.refl _ w).alloc (Nat.le_refl _) _).alloc (by simp) _⟩
theorem rowsEq_at : ∀ {l m : List S35} {k : Nat}, l.length = m.length → (∀ j, j < k → ∀ a b, l[j]? = some a → m[j]? = some b → rowEq a b = true) → ∀ {a b : S35}, l[k]? = some a → m[k]? = some b → rowEq a b = false → rowsEq l m = false
  | [], _, k, _, _, a, b, ha, _, _ => by simp at ha
  | _ :: _, [], k, _, _, a, b, _, hb, _ => by simp at hb
  | x :: l, y :: m, 0, _, _, a, b, ha, hb, h => by
    simp at ha hb
    subst ha hb
    simp [rowsEq, h]
  | x :: l, y :: m, k + 1, hl, hp, a, b, ha, hb, h => by
    rw [rowsEq, rowsEq_at (l := l) (m := m) (k := k) (by simpa using hl) (fun j hj a b h1 h2 => hp (j + 1) (by omega) a b (by simpa using h1) (by simpa using h2)) (by simpa using ha) (by simpa using hb) h, Bool.and_false]
theorem rowsEq_end : ∀ {l m : List S35}, l.length = m.length → (∀ (j : Nat) (a b : S35), l[j]? = some a → m[j]? = some b → rowEq a b = true) → rowsEq l m = true
  | [], [], _, _ => rfl
  | x :: l, y :: m, hl, hp => by
    rw [rowsEq, rowsEq_end (l := l) (m := m) (by simpa using hl) (fun j a b h1 h2 => hp (j + 1) a b (by simpa using h1) (by simpa using h2)), hp 0 x y rfl rfl]
    rfl
theorem rowsEq_len : ∀ {l m : List S35}, l.length ≠ m.length → rowsEq l m = false
  | [], [], h => absurd rfl h
  | [], _ :: _, _ => rfl
  | _ :: _, [], _ => rfl
  | x :: l, y :: m, h => by
    rw [rowsEq, rowsEq_len (l := l) (m := m) (by simpa using h), Bool.and_false]
set_option maxHeartbeats 4000000 in
set_option maxRecDepth 100000 in
theorem rows_equal (A B : Option Addr) (c d : Nat) (l m : List S35) (w : World) (hl : Kd.C k35 w A l.length l) (hm : Kd.C k35 w B m.length m) :
    Calls Tryd.prog 45 #[.slice A l.length c, .slice B m.length d, .func (.func 46) #[] #[]] w fun e w' => e = .returned (.bool (rowsEq l m)) ∧ Below w.heap.size w w' := by
  have hu := Tryd.underlying35
  have hmax : l.length ≤ 9223372036854775807 := hl.2.1
  have HL := Aside0.mk hl
  have HM := Aside0.mk hm
  clear hl hm
  by_cases hlen : l.length = m.length
  · have hlz : ((l.length : Int) != (m.length : Int)) = false := by simp; omega
    have HE := Aside0.mk hlen
    clear hlen
    go_enter Tryd.func45, Tryd.ntmps45
    go_wp2
    go_loopw [7, 8, 9, 17] (fun _ _ _ i wr => ∃ k : Nat, i = .int .i64 k ∧ k ≤ l.length ∧ Aside0 (∀ j, j < k → ∀ a b, l[j]? = some a → m[j]? = some b → rowEq a b = true) ∧ Aside0 (Below w.heap.size w wr)) (fun _ _ _ i _ => l.length - (intOf i).toNat)
    case atStart => exact ⟨0, rfl, Nat.zero_le _, ⟨fun j hj => absurd hj (Nat.not_lt_zero _)⟩, ⟨Below.refl _ _⟩⟩
    case round =>
      obtain ⟨k, rfl, hk, HN, HB⟩ := hrel
      by_cases hlt : k < l.length
      · have hz1 : (k : Int) < (l.length : Int) := by omega
        have hz2 : (k : Int) < (m.length : Int) := by have := HE.out; omega
        obtain ⟨x, hx, hxe⟩ := getD_at hlt
        obtain ⟨y, hy, hye⟩ := getD_at (show k < m.length by have := HE.out; omega)
        obtain ⟨ad, A4, c4, e, x0, x1, x2, x3, x4, _, hC4⟩ := row_at (Kd.C_below HL.out HB.out) hx
        obtain ⟨bd, B4, d4, e', y0, y1, y2, y3, y4, _, hD4⟩ := row_at (Kd.C_below HM.out HB.out) hy
        cases e; cases e'
        have HX := Aside0.mk hx
        have HY := Aside0.mk hy
        clear hx hxe hy hye
        have hc := fun W (h : Below wr.heap.size wr W) => rows_Same1 x y A4 B4 c4 d4 W (Kd.C_below hC4 h) (Kd.C_below hD4 h)
        clear hC4 hD4
        have y0_ := cell_alloc y0
        have y1_ := cell_alloc y1
        have y2_ := cell_alloc y2
        have y3_ := cell_alloc y3
        have y4_ := cell_alloc y4
        clear y0 y1 y2 y3 y4
        cases hq : rowEq x y with
        | true =>
          rw [hq] at hc
          have HQ := Aside0.mk hq
          clear hq
          go_wp2_with (go_at_call 46; refine (hc _ (((Below.refl _ wr).alloc (Nat.le_refl _) _).alloc (by simp) _)).mono ?_; rintro e w1 ⟨rfl, hb⟩)
          go_roundw
          case rel => exact ⟨k + 1, by go_num, by omega, ⟨pre_succ HN.out HX.out HY.out HQ.out⟩, ⟨HB.out.trans ((((Below.refl _ wr).alloc (Nat.le_refl _) _).alloc (by simp) _ |>.mono (by have := HB.out.size; omega)).trans (hb.mono (by have := HB.out.size; simp; omega)))⟩⟩
          case measure => simp [intOf]; omega
        | false =>
          rw [hq] at hc
          have HQ := Aside0.mk hq
          clear hq
          go_wp2_with (go_at_call 46; refine (hc _ (((Below.refl _ wr).alloc (Nat.le_refl _) _).alloc (by simp) _)).mono ?_; rintro e w1 ⟨rfl, hb⟩)
          go_ret
          refine ⟨by rw [rowsEq_at HE.out HN.out HX.out HY.out HQ.out]; rfl, ?_⟩
          exact HB.out.trans ((((Below.refl _ wr).alloc (Nat.le_refl _) _).alloc (by simp) _ |>.mono (by have := HB.out.size; omega)).trans (hb.mono (by have := HB.out.size; simp; omega)))
      · obtain rfl : k = l.length := by omega
        have hz1 : ¬ (l.length : Int) < (l.length : Int) := by omega
        go_wp2
        go_ret
        refine ⟨?_, HB.out⟩
        rw [rowsEq_end HE.out (fun j a b h1 h2 => HN.out j (List.getElem?_eq_some_iff.1 h1).1 a b h1 h2)]
        rfl
  · have hlz : ((l.length : Int) == (m.length : Int)) = false := beq_eq_false_iff_ne.mpr (by omega)
    go_enter Tryd.func45, Tryd.ntmps45
    go_wp2
    go_ret
    exact ⟨by rw [rowsEq_len hlen]; rfl, Below.refl _ _⟩
set_option maxHeartbeats 1000000 in
theorem rows_Same.calls (A0 : Option Addr) (c0 : Nat) (l0 : List S35) (A1 : Option Addr) (c1 : Nat) (l1 : List S35) (r : Bool) (w : World) (hr0 : Kd.C k35 w A0 l0.length l0) (hc0 : l0.length ≤ c0) (hr1 : Kd.C k35 w A1 l1.length l1) (hc1 : l1.length ≤ c1) (h : rows_Same.f l0 l1 = some r) :
    Calls Tryd.prog 28 #[.slice A0 l0.length c0, .slice A1 l1.length c1] w fun e w' => e = .returned (.bool r) ∧ Below w.heap.size w w' := by
  cases h
  have hc := rows_equal A0 A1 c0 c1 l0 l1 w hr0 hr1
  clear hr0 hr1
  generalize rowsEq l0 l1 = b at hc
  go_enter Tryd.func28, Tryd.ntmps28
  go_wp2_with (go_at_call 45; refine hc.mono ?_; rintro e w1 ⟨rfl, hb⟩)
  go_ret
  exact ⟨rfl, hb⟩
end Go.Proofs.YtpnhjipaeggcpaaDoor.X
end
section
namespace Go.Proofs.YtpnhjipaeggcpaaDoor.X
open Go.RowKit Go.Proofs.YtpnhjipaeggcpaaDoorW.PrintWords Go.Proofs.YtpnhjipaeggcpaaDoorW.PrintLast Go.Proofs.YtpnhjipaeggcpaaDoorW.PrintMore
attribute [local go_sem] max2_int min2_int max_two min_two max_three min_three max_four min_four
def boltinglaw08_bound.l0 : Nat → List (S35) → List (S35) → Int → Option ((List (S35)))
 | 0, _, _, _ => none
 | k + 1, x0, x3, x4 => if x4 < (x0.length : Int) then (if x4 < 40 then (if 0 ≤ x4 then (if 0 ≤ (mn (((rd_T35 x0 x4).f4).length : Int) 6) then (if (mn (((rd_T35 x0 x4).f4).length : Int) 6) ≤ (((rd_T35 x0 x4).f4).length : Int) then (if x3.length < 1954687338268 then (boltinglaw08_bound.l0 k x0 (x3 ++ [(⟨(rd_T35 x0 x4).f0, (rd_T35 x0 x4).f1, (rd_T35 x0 x4).f2, (rd_T35 x0 x4).f3, (((rd_T35 x0 x4).f4).take ((mn (((rd_T35 x0 x4).f4).length : Int) 6) : Int).toNat)⟩ : S35)]) (wrap64 (x4 + 1))) else (none)) else (none)) else (none)) else (none)) else (some x3)) else (some x3)
def boltinglaw08_bound.f (k : Nat) (l0 : List (S35)) : Option ((List (S35))) := boltinglaw08_bound.l0 k l0 (([] : List (S35))) 0
set_option maxHeartbeats 8000000 in
set_option maxRecDepth 100000 in
theorem boltinglaw08_bound.calls (k : Nat) (P0_ : Nat → Prop) (A0 : Option Addr) (c0 : Nat) (l0 : List (S35)) (r : List (S35)) (w : World) (hs0 : Kd.V k35 35 w w.heap.size (fun k_ => P0_ k_) (.slice A0 l0.length c0) l0) (h : boltinglaw08_bound.f k l0 = some r) :
  Calls Tryd.prog 6 #[.slice A0 l0.length c0] w fun e w' => ∃ v0_ : Value, e = .returned (v0_) ∧ Kd.N k35 35 w' w.heap.size (fun k_ => (P0_ k_ ∨ w.heap.size ≤ k_)) v0_ r ∧ Below w.heap.size w w' := by
 have hu35 := Tryd.underlying35
 have HO0 := Aside0.mk (show Kd.V k35 35 w w.heap.size (fun k_ => (P0_ k_ ∨ w.heap.size ≤ k_)) (.slice A0 l0.length c0) l0 from Kd.V_mono hs0 (fun k_ hk => .inl hk))
 have HB := Aside0.mk (Below.refl w.heap.size w)
 have H : (boltinglaw08_bound.l0 k l0 (([] : List (S35))) 0) = some r := h
 clear h
 obtain ⟨y101, hy101⟩ : ∃ y_ : List (S35), y_ = (([] : List (S35))) := ⟨_, rfl⟩
 replace H : (boltinglaw08_bound.l0 k l0 y101 0) = some r := by first | (rw [hy101]; with_reducible exact H) | (have H2_ := (Option.bind_some _ _).symm.trans H; rw [hy101]; with_reducible exact H2_) | (have H2_ := (Option.bind_some _ _).symm.trans H; with_reducible exact H2_) | with_reducible exact H | (rw [hy101]; exact H) | exact H
 have Ny101 := Aside0.mk hy101
 clear hy101
 have H' := Aside0.mk H
 clear H
 go_enter Tryd.func6, Tryd.ntmps6
 go_wp2_with (first | ((with_reducible refine gate_dst (N := 6) rfl ?_); refine Kd.N_lit k35 _ 35 ?hg (N' := 6) ?hd (xs := ([] : List (S35))) (inner := []) (ok := (fun k_ => (P0_ k_ ∨ w.heap.size ≤ k_))) (okp := (fun k_ => (P0_ k_ ∨ w.heap.size ≤ k_))) ?hr ?hp (fun _ hk => hk) ((show ∀ k_, w.heap.size ≤ k_ → (fun k_ => (P0_ k_ ∨ w.heap.size ≤ k_)) k_ from fun k_ hk => (.inr (Nat.le_trans (below_size y14_) hk))) _ (Nat.le_refl _)) (Below.refl _ _) (Nat.le_refl _) (by simp) ?_; (case hd => rfl); (case hg => rfl); (case hr => first | (go_simp; done) | (go_simp; rfl)); (case hp => exact (Reps.none _ _)); intro v102 w2 ho3 hb hg_ hnew_; clear hg_ hnew_; (first | rw [← Ny101.out] at ho3 | (simp only [Int.reduceToNat] at ho3; rw [← Ny101.out] at ho3)); have n0_ := Aside0.mk (Kd.V_elder' (y10_ HO0.out) (Kd.N_base ho3) hb); have n1_ := Aside0.mk (Kd.N_lower ho3 (below_size y14_)); have n2_ := Aside0.mk (below_step y14_ hb); clear HO0; clear HB; have HO0 := n0_; have HO103 := n1_; have HB := n2_; clear n0_ n1_ n2_; clear hb ho3))
 go_loopg [3, 4] k (fun kq v3 v4 w' => ∃ (x3_1 : List (S35)) (x4_1 : Int), v4 = .int .i64 x4_1 ∧ Aside0 (boltinglaw08_bound.l0 kq l0 x3_1 x4_1 = some r) ∧ Aside0 (kq ≤ k) ∧ Aside0 (Kd.V k35 35 w' w.heap.size (fun k_ => (P0_ k_ ∨ w.heap.size ≤ k_) ∧ some k_ ≠ (v3 : Value).ownBlock) (.slice A0 l0.length c0) l0) ∧ Aside0 (Kd.N k35 35 w' w.heap.size (fun k_ => (P0_ k_ ∨ w.heap.size ≤ k_)) v3 x3_1) ∧ Aside0 (Below w.heap.size w w'))
 case atStart => exact ⟨(y101), (0), y5_, H', ⟨Nat.le_refl _⟩, ⟨by (with_reducible repeat (first | apply Kd.V_alloc | apply Kd.V_drewN | apply Kd.V_drew)); exact HO0.out⟩, ⟨by (with_reducible repeat (first | apply Kd.N_alloc | apply Kd.N_drewN | apply Kd.N_drew)); exact HO103.out⟩, ⟨y14_⟩⟩
 case round =>
  clear H'
  try clear p2
  obtain ⟨x3_1, x4_1, rfl, HA, HK1, HO_0, HO_3, HB⟩ := hrel
  cases gk with
  | zero => exact absurd HA.out (by simp [boltinglaw08_bound.l0])
  | succ k1 =>
   have H := HA.out
   clear HA
   simp only [boltinglaw08_bound.l0] at H
   by_cases c4 : x4_1 < (l0.length : Int)
   ·rw [if_pos c4] at H
    have c4b0 : decide (x4_1 < (l0.length : Int)) = true := decide_eq_true c4
    clear c4
    by_cases c5 : x4_1 < 40
    ·rw [if_pos c5] at H
     have c5b0 : decide (x4_1 < 40) = true := decide_eq_true c5
     clear c5
     by_cases c6 : 0 ≤ x4_1
     rotate_left
     ·rw [if_neg c6] at H
      exact absurd H (by simp)
     rw [if_pos c6] at H
     have c6b0 : decide (0 ≤ x4_1) = true := decide_eq_true c6
     clear c6
     obtain ⟨ji7, hji7⟩ : ∃ j_ : Int, (mn (((rd_T35 l0 x4_1).f4).length : Int) 6) = j_ := ⟨_, rfl⟩
     replace H : (if 0 ≤ (ji7) then (if (ji7) ≤ (((rd_T35 l0 x4_1).f4).length : Int) then (if x3_1.length < 1954687338268 then (boltinglaw08_bound.l0 k1 l0 (x3_1 ++ [(⟨(rd_T35 l0 x4_1).f0, (rd_T35 l0 x4_1).f1, (rd_T35 l0 x4_1).f2, (rd_T35 l0 x4_1).f3, (((rd_T35 l0 x4_1).f4).take ((ji7) : Int).toNat)⟩ : S35)]) (wrap64 (x4_1 + 1))) else (none)) else (none)) else (none)) = some r := by first | (rw [hji7] at H; exact H) | (simp only [hji7] at H ⊢; exact H)
     have hji7_ : (if 6 < (((rd_T35 l0 x4_1).f4).length : Int) then 6 else (((rd_T35 l0 x4_1).f4).length : Int)) = ji7 := hji7
     by_cases c8 : 0 ≤ (ji7)
     rotate_left
     ·rw [if_neg c8] at H
      exact absurd H (by simp)
     rw [if_pos c8] at H
     have c8b0 := eq_true c8
     have c8b1 : decide (0 ≤ (ji7)) = true := decide_eq_true c8
     clear c8
     by_cases c9 : (ji7) ≤ (((rd_T35 l0 x4_1).f4).length : Int)
     rotate_left
     ·rw [if_neg c9] at H
      exact absurd H (by simp)
     rw [if_pos c9] at H
     have c9b0 := eq_true c9
     have c9b1 : decide ((ji7) ≤ (((rd_T35 l0 x4_1).f4).length : Int)) = true := decide_eq_true c9
     clear c9
     obtain ⟨y106, hy106⟩ : ∃ y_ : List (S41), y_ = (((rd_T35 l0 x4_1).f4).take ((ji7) : Int).toNat) := ⟨_, rfl⟩
     replace H : (if x3_1.length < 1954687338268 then (boltinglaw08_bound.l0 k1 l0 (x3_1 ++ [(⟨(rd_T35 l0 x4_1).f0, (rd_T35 l0 x4_1).f1, (rd_T35 l0 x4_1).f2, (rd_T35 l0 x4_1).f3, y106⟩ : S35)]) (wrap64 (x4_1 + 1))) else (none)) = some r := by first | (rw [hy106]; with_reducible exact H) | (have H2_ := (Option.bind_some _ _).symm.trans H; rw [hy106]; with_reducible exact H2_) | (have H2_ := (Option.bind_some _ _).symm.trans H; with_reducible exact H2_) | with_reducible exact H | (rw [hy106]; exact H) | exact H
     have Ny106 := Aside0.mk hy106
     clear hy106
     by_cases c10 : x3_1.length < 1954687338268
     rotate_left
     ·rw [if_neg c10] at H
      exact absurd H (by simp)
     rw [if_pos c10] at H
     have LMc10 := Aside0.mk c10
     clear c10
     obtain ⟨y111, hy111⟩ : ∃ y_ : List (S35), y_ = (x3_1 ++ [(⟨(rd_T35 l0 x4_1).f0, (rd_T35 l0 x4_1).f1, (rd_T35 l0 x4_1).f2, (rd_T35 l0 x4_1).f3, y106⟩ : S35)]) := ⟨_, rfl⟩
     replace H : (boltinglaw08_bound.l0 k1 l0 y111 (wrap64 (x4_1 + 1))) = some r := by first | (rw [hy111]; with_reducible exact H) | (have H2_ := (Option.bind_some _ _).symm.trans H; rw [hy111]; with_reducible exact H2_) | (have H2_ := (Option.bind_some _ _).symm.trans H; with_reducible exact H2_) | with_reducible exact H | (rw [hy111]; exact H) | exact H
     have Ny111 := Aside0.mk hy111
     clear hy111
     have H' := Aside0.mk H
     clear H
     have p104 : 0 ≤ (x4_1 : Int) := of_decide_eq_true y2_
     have q104 : x4_1 < (l0.length : Int) := of_decide_eq_true y2_
     obtain ⟨ad104, A104_4, c104_4, e104, hx104_0, hx104_1, hx104_2, hx104_3, hx104_4, hl104_4, hi104_4⟩ := at_T35 (Kd.V_reads' HO_0.out).2.2 x4_1 p104 q104
     cases e104
     obtain ⟨ce104, hce104, hMe104, hcc104⟩ := Kd.V_get HO_0.out z35 x4_1 p104 (by first | exact q104 | exact of_decide_eq_true y2_ | (have e_ := (Kd.V_reads' HO_0.out).1; omega))
     obtain ⟨ua104_4, uc104_4, rfl, ul104_4, ge104_4⟩ := k35_openF hMe104
     have hv104_4 := hcc104 4 _ rfl
     rw [add_field _ _ 4 (by omega)] at hv104_4
     replace hv104_4 := Option.some.inj (hv104_4.symm.trans hx104_4)
     injection hv104_4 with hva_ hvn_ hvc_
     rw [hva_] at ge104_4
     rw [hvc_] at ul104_4
     have HL104_4 := Aside0.mk (show Kd.V k41 41 _ w.heap.size _ _ ((rd_T35 l0 x4_1).f4) from Kd.V_mk ul104_4 ge104_4)
     clear hva_ hvn_ hvc_ ge104_4 ul104_4
     clear hcc104 hce104
     have HR104_4 := Aside0.mk hi104_4
     have HC104_4 := Aside0.mk hl104_4
     clear hi104_4 hl104_4
     replace p104 := eq_true p104
     replace q104 := eq_true q104
     go_wp2_with (first | ((with_reducible refine gate_dst (N := 5) rfl ?_); refine box_event ?hg (N := 5) ?hd (cs := #[.int .i64 0, .int .i64 0, .string (⟨#[]⟩ : ByteArray), .string (⟨#[]⟩ : ByteArray), .slice none 0 0]) (t := 35) ?hr ?_; (case hd => rfl); (case hg => rfl); (case hr => first | (go_simp; done) | (go_simp; rfl)); intro gb105 hg w11 hbox hb; have n0_ := Aside0.mk (Kd.V_below (Kd.V_elderB (y10_ HO_0.out) gb105 (Nat.le_of_eq hg.symm)) hb); have n1_ := Aside0.mk (Kd.N_below (Kd.N_elderB (y11_ HO_3.out) gb105 (Nat.le_of_eq hg.symm)) hb); have n2_ := Aside0.mk (Kd.V_below (Kd.V_elderB (y10_ HL104_4.out) gb105 (Nat.le_of_eq hg.symm)) hb); have n3_ := Aside0.mk (Kd.C_below (by repeat (first | (with_reducible exact HR104_4.out) | (with_reducible refine Kd.C_alloc ?_ _) | (with_reducible refine Kd.C_drewN ?_ _) | (with_reducible refine Kd.C_drew ?_) | exact HR104_4.out)) hb); have n4_ := Aside0.mk (below_step y14_ hb); have n5_ := Aside0.mk (hbox); have n6_ := Aside0.mk ((by rw [hg]; exact (below_size y14_) : w.heap.size ≤ gb105)); have n7_ := Aside0.mk ((by rw [hg]; exact (below_size y14_) : w.heap.size ≤ gb105)); clear HO_0; clear HO_3; clear HL104_4; clear HR104_4; clear HB; have HO_0 := n0_; have HO_3 := n1_; have HL104_4 := n2_; have HR104_4 := n3_; have HB := n4_; have BK105 := n5_; have GW105 := n6_; have GE105 := n7_; clear n0_ n1_ n2_ n3_ n4_ n5_ n6_ n7_; clear hb hbox hg; have hcz12_0 : w11.cell? ⟨gb105, 0, none⟩ = some (.int .i64 0) := (blk_cell BK105.out 0).trans rfl; have hcz12_1 : w11.cell? ⟨gb105, 1, none⟩ = some (.int .i64 0) := (blk_cell BK105.out 1).trans rfl; have hcz12_2 : w11.cell? ⟨gb105, 2, none⟩ = some (.string (⟨#[]⟩ : ByteArray)) := (blk_cell BK105.out 2).trans rfl; have hcz12_3 : w11.cell? ⟨gb105, 3, none⟩ = some (.string (⟨#[]⟩ : ByteArray)) := (blk_cell BK105.out 3).trans rfl; have hcz12_4 : w11.cell? ⟨gb105, 4, none⟩ = some (.slice none 0 0) := (blk_cell BK105.out 4).trans rfl; have hfz12_0 := blk_frozen BK105.out 0; have hfz12_1 := blk_frozen BK105.out 1; have hfz12_2 := blk_frozen BK105.out 2; have hfz12_3 := blk_frozen BK105.out 3; have hfz12_4 := blk_frozen BK105.out 4) | ((with_reducible refine gate_store (t := 35) (p := 5) rfl ?_); refine store_event (t := 35) (p := 5) (v := ?vo_w13) (w1 := (((((w11.setCell ⟨gb105, 0, none⟩ (.int .i64 ((rd_T35 l0 x4_1).f0))).setCell ⟨gb105, 1, none⟩ (.int .i64 ((rd_T35 l0 x4_1).f1))).setCell ⟨gb105, 2, none⟩ (.string ((rd_T35 l0 x4_1).f2))).setCell ⟨gb105, 3, none⟩ (.string ((rd_T35 l0 x4_1).f3))).setCell ⟨gb105, 4, none⟩ (.slice A104_4 ((rd_T35 l0 x4_1).f4).length c104_4))) ?hg ?ho ?hn ?hr ?_; (case ho => rfl); (case hg => rfl); (case hn => rfl); (case hr => first | (go_simp; done) | (go_simp; rfl)); intro w13 hw; have n0_ : Aside0 (Kd.V k35 35 w13 w.heap.size (fun k_ => (P0_ k_ ∨ w.heap.size ≤ k_) ∧ some k_ ≠ (u3 : Value).ownBlock ∧ k_ ≠ gb105) (.slice (some ad104) l0.length c0) l0) := ⟨(by rw [hw]; exact (y30_ HO_0.out))⟩; have n1_ : Aside0 (Kd.N k35 35 w13 w.heap.size (fun k_ => (P0_ k_ ∨ w.heap.size ≤ k_) ∧ k_ ≠ gb105) u3 x3_1) := ⟨(by rw [hw]; exact (by (with_reducible repeat (first | apply Kd.N_alloc | apply Kd.N_drewN | apply Kd.N_drew)); exact Kd.N_mono (Kd.N_far (p := ⟨gb105, 4, none⟩) (Kd.N_far (p := ⟨gb105, 3, none⟩) (Kd.N_far (p := ⟨gb105, 2, none⟩) (Kd.N_far (p := ⟨gb105, 1, none⟩) (Kd.N_far (p := ⟨gb105, 0, none⟩) (Kd.N_mono HO_3.out (fun k_ hk => (⟨hk, hk.2⟩ : _ ∧ k_ ≠ gb105))) (fun _ hk => hk.2) (.int .i64 ((rd_T35 l0 x4_1).f0))) (fun _ hk => hk.2) (.int .i64 ((rd_T35 l0 x4_1).f1))) (fun _ hk => hk.2) (.string ((rd_T35 l0 x4_1).f2))) (fun _ hk => hk.2) (.string ((rd_T35 l0 x4_1).f3))) (fun _ hk => hk.2) (.slice A104_4 ((rd_T35 l0 x4_1).f4).length c104_4)) (fun _ hk => ⟨hk.1.1, hk.1.2⟩)))⟩; have n2_ : Aside0 (Kd.V k41 41 w13 w.heap.size (fun k_ => (P0_ k_ ∨ w.heap.size ≤ k_) ∧ some k_ ≠ (u3 : Value).ownBlock ∧ k_ ≠ gb105) (.slice A104_4 ((rd_T35 l0 x4_1).f4).length c104_4) ((rd_T35 l0 x4_1).f4)) := ⟨(by rw [hw]; exact (y30_ HL104_4.out))⟩; have n3_ : Aside0 (w13.heap[gb105]? = some (.cells #[.int .i64 ((rd_T35 l0 x4_1).f0), .int .i64 ((rd_T35 l0 x4_1).f1), .string ((rd_T35 l0 x4_1).f2), .string ((rd_T35 l0 x4_1).f3), .slice A104_4 ((rd_T35 l0 x4_1).f4).length c104_4] 35 (0, 0))) := ⟨(by rw [hw]; exact (by (with_reducible repeat (first | refine blk_drewN ?_ _ | refine blk_drew ?_ | refine blk_alloc ?_ _)); refine blk_put (cs := #[.int .i64 ((rd_T35 l0 x4_1).f0), .int .i64 ((rd_T35 l0 x4_1).f1), .string ((rd_T35 l0 x4_1).f2), .string ((rd_T35 l0 x4_1).f3), .slice none 0 0]) ?_ 4 _ rfl; (with_reducible repeat (first | refine blk_drewN ?_ _ | refine blk_drew ?_ | refine blk_alloc ?_ _)); refine blk_put (cs := #[.int .i64 ((rd_T35 l0 x4_1).f0), .int .i64 ((rd_T35 l0 x4_1).f1), .string ((rd_T35 l0 x4_1).f2), .string (⟨#[]⟩ : ByteArray), .slice none 0 0]) ?_ 3 _ rfl; (with_reducible repeat (first | refine blk_drewN ?_ _ | refine blk_drew ?_ | refine blk_alloc ?_ _)); refine blk_put (cs := #[.int .i64 ((rd_T35 l0 x4_1).f0), .int .i64 ((rd_T35 l0 x4_1).f1), .string (⟨#[]⟩ : ByteArray), .string (⟨#[]⟩ : ByteArray), .slice none 0 0]) ?_ 2 _ rfl; (with_reducible repeat (first | refine blk_drewN ?_ _ | refine blk_drew ?_ | refine blk_alloc ?_ _)); refine blk_put (cs := #[.int .i64 ((rd_T35 l0 x4_1).f0), .int .i64 0, .string (⟨#[]⟩ : ByteArray), .string (⟨#[]⟩ : ByteArray), .slice none 0 0]) ?_ 1 _ rfl; (with_reducible repeat (first | refine blk_drewN ?_ _ | refine blk_drew ?_ | refine blk_alloc ?_ _)); refine blk_put (cs := #[.int .i64 0, .int .i64 0, .string (⟨#[]⟩ : ByteArray), .string (⟨#[]⟩ : ByteArray), .slice none 0 0]) ?_ 0 _ rfl; (with_reducible repeat (first | refine blk_drewN ?_ _ | refine blk_drew ?_ | refine blk_alloc ?_ _)); exact BK105.out))⟩; have n4_ : Aside0 (Below w.heap.size w w13) := ⟨(by rw [hw]; exact (y19_ GE105.out))⟩; clear hw; clear HO_0; clear HO_3; clear HL104_4; clear BK105; clear HB; have HO_0 := n0_; have HO_3 := n1_; have HL104_4 := n2_; have BK105 := n3_; have HB := n4_; clear n0_ n1_ n2_ n3_ n4_; have hcz14_0 : w13.cell? ⟨gb105, 0, none⟩ = some (.int .i64 ((rd_T35 l0 x4_1).f0)) := (blk_cell BK105.out 0).trans rfl; have hcz14_1 : w13.cell? ⟨gb105, 1, none⟩ = some (.int .i64 ((rd_T35 l0 x4_1).f1)) := (blk_cell BK105.out 1).trans rfl; have hcz14_2 : w13.cell? ⟨gb105, 2, none⟩ = some (.string ((rd_T35 l0 x4_1).f2)) := (blk_cell BK105.out 2).trans rfl; have hcz14_3 : w13.cell? ⟨gb105, 3, none⟩ = some (.string ((rd_T35 l0 x4_1).f3)) := (blk_cell BK105.out 3).trans rfl; have hcz14_4 : w13.cell? ⟨gb105, 4, none⟩ = some (.slice A104_4 ((rd_T35 l0 x4_1).f4).length c104_4) := (blk_cell BK105.out 4).trans rfl; have hfz14_0 := blk_frozen BK105.out 0; have hfz14_1 := blk_frozen BK105.out 1; have hfz14_2 := blk_frozen BK105.out 2; have hfz14_3 := blk_frozen BK105.out 3; have hfz14_4 := blk_frozen BK105.out 4; have q15 : ((ji7) : Int) ≤ ((((rd_T35 l0 x4_1).f4).length : Int) : Int) := of_decide_eq_true y2_; obtain ⟨i015, hi015, _, hsz15, _⟩ := info_parts info41; have hroom15 : ((rd_T35 l0 x4_1).f4).length ≤ c104_4 := HC104_4.out; have hC15 : Kd.F k41 _ _ A104_4 ((rd_T35 l0 x4_1).f4).length ((rd_T35 l0 x4_1).f4) := (Kd.V_at (base := w.heap.size) HL104_4.out).2.2; have hcut15 := cut_to (P := Tryd.prog) 33 41 .i64 Tryd.underlying33 hi015 A104_4 ((rd_T35 l0 x4_1).f4).length c104_4 (ji7) (of_decide_eq_true y2_) q15 hroom15; have hr15 := Kd.F_take (m := ((ji7) : Int).toNat) hC15 (by omega); have hy15 : y106.length = ((ji7) : Int).toNat := (y0_ Ny106.out); rw [← Ny106.out] at hr15; rw [← hy15] at hcut15; have HO110 := Aside0.mk (show Kd.V k41 41 _ w.heap.size _ (.slice A104_4 y106.length c104_4) y106 from Kd.V_mk (by omega) hr15); have HC110 := Aside0.mk (show y106.length ≤ c104_4 from by omega); clear hr15 hC15 hroom15 hi015 hsz15; have KY15 := Aside0.mk hy15; clear hy15; replace q15 := eq_true q15) | ((with_reducible refine gate_store (t := 33) (p := 28) rfl ?_); refine store_event (t := 33) (p := 28) (v := ?vo_w16) (w1 := (w13.setCell ⟨gb105, 4, none⟩ (.slice A104_4 y106.length c104_4))) ?hg ?ho ?hn ?hr ?_; (case ho => rfl); (case hg => rfl); (case hn => rfl); (case hr => first | (go_simp; done) | (go_simp; rfl)); intro w16 hw; have n0_ : Aside0 (Kd.V k35 35 w16 w.heap.size (fun k_ => (P0_ k_ ∨ w.heap.size ≤ k_) ∧ some k_ ≠ (u3 : Value).ownBlock ∧ k_ ≠ gb105) (.slice (some ad104) l0.length c0) l0) := ⟨(by rw [hw]; exact (y25_ HO_0.out))⟩; have n1_ : Aside0 (Kd.N k35 35 w16 w.heap.size (fun k_ => (P0_ k_ ∨ w.heap.size ≤ k_) ∧ k_ ≠ gb105) u3 x3_1) := ⟨(by rw [hw]; exact (by (with_reducible repeat (first | apply Kd.N_alloc | apply Kd.N_drewN | apply Kd.N_drew)); exact Kd.N_mono (Kd.N_far (p := ⟨gb105, 4, none⟩) (Kd.N_mono HO_3.out (fun k_ hk => (⟨hk, hk.2⟩ : _ ∧ k_ ≠ gb105))) (fun _ hk => hk.2) (.slice A104_4 y106.length c104_4)) (fun _ hk => ⟨hk.1.1, hk.1.2⟩)))⟩; have n2_ : Aside0 (Kd.V k41 41 w16 w.heap.size (fun k_ => (P0_ k_ ∨ w.heap.size ≤ k_) ∧ some k_ ≠ (u3 : Value).ownBlock ∧ k_ ≠ gb105) (.slice A104_4 ((rd_T35 l0 x4_1).f4).length c104_4) ((rd_T35 l0 x4_1).f4)) := ⟨(by rw [hw]; exact (y25_ HL104_4.out))⟩; have n3_ : Aside0 (Kd.V k41 41 w16 w.heap.size (fun k_ => (P0_ k_ ∨ w.heap.size ≤ k_) ∧ some k_ ≠ (u3 : Value).ownBlock ∧ k_ ≠ gb105) (.slice A104_4 y106.length c104_4) y106) := ⟨(by rw [hw]; exact (y25_ HO110.out))⟩; have n4_ : Aside0 (w16.heap[gb105]? = some (.cells #[.int .i64 ((rd_T35 l0 x4_1).f0), .int .i64 ((rd_T35 l0 x4_1).f1), .string ((rd_T35 l0 x4_1).f2), .string ((rd_T35 l0 x4_1).f3), .slice A104_4 y106.length c104_4] 35 (0, 0))) := ⟨(by rw [hw]; exact (by (with_reducible repeat (first | refine blk_drewN ?_ _ | refine blk_drew ?_ | refine blk_alloc ?_ _)); refine blk_put (cs := #[.int .i64 ((rd_T35 l0 x4_1).f0), .int .i64 ((rd_T35 l0 x4_1).f1), .string ((rd_T35 l0 x4_1).f2), .string ((rd_T35 l0 x4_1).f3), .slice A104_4 ((rd_T35 l0 x4_1).f4).length c104_4]) ?_ 4 _ rfl; (with_reducible repeat (first | refine blk_drewN ?_ _ | refine blk_drew ?_ | refine blk_alloc ?_ _)); exact BK105.out))⟩; have n5_ : Aside0 (Below w.heap.size w w16) := ⟨(by rw [hw]; exact (y19_ GE105.out))⟩; clear hw; clear HO_0; clear HO_3; clear HL104_4; clear HO110; clear BK105; clear HB; have HO_0 := n0_; have HO_3 := n1_; have HL104_4 := n2_; have HO110 := n3_; have BK105 := n4_; have HB := n5_; clear n0_ n1_ n2_ n3_ n4_ n5_; have hcz17_0 : w16.cell? ⟨gb105, 0, none⟩ = some (.int .i64 ((rd_T35 l0 x4_1).f0)) := (blk_cell BK105.out 0).trans rfl; have hcz17_1 : w16.cell? ⟨gb105, 1, none⟩ = some (.int .i64 ((rd_T35 l0 x4_1).f1)) := (blk_cell BK105.out 1).trans rfl; have hcz17_2 : w16.cell? ⟨gb105, 2, none⟩ = some (.string ((rd_T35 l0 x4_1).f2)) := (blk_cell BK105.out 2).trans rfl; have hcz17_3 : w16.cell? ⟨gb105, 3, none⟩ = some (.string ((rd_T35 l0 x4_1).f3)) := (blk_cell BK105.out 3).trans rfl; have hcz17_4 : w16.cell? ⟨gb105, 4, none⟩ = some (.slice A104_4 y106.length c104_4) := (blk_cell BK105.out 4).trans rfl; have hfz17_0 := blk_frozen BK105.out 0; have hfz17_1 := blk_frozen BK105.out 1; have hfz17_2 := blk_frozen BK105.out 2; have hfz17_3 := blk_frozen BK105.out 3; have hfz17_4 := blk_frozen BK105.out 4) | ((with_reducible refine gate_builtin (b := .append) (xs := #[.tmp 29, .tmp 31]) rfl ?_); at_builtin; refine Kd.N_append k35 (w0 := w) w.heap.size rfl (.tmp 29) (.tmp 31) 22 35 (.agg #[(.int .i64 0), (.int .i64 0), (.string ⟨#[]⟩), (.string ⟨#[]⟩), (.slice none 0 0)]) 72 rfl Tryd.underlying22 info35 rfl (by decide) (by omega) u3 x3_1 (⟨(rd_T35 l0 x4_1).f0, (rd_T35 l0 x4_1).f1, (rd_T35 l0 x4_1).f2, (rd_T35 l0 x4_1).f3, y106⟩ : S35) [.int .i64 ((rd_T35 l0 x4_1).f0), .int .i64 ((rd_T35 l0 x4_1).f1), .string ((rd_T35 l0 x4_1).f2), .string ((rd_T35 l0 x4_1).f3), .slice A104_4 y106.length c104_4] (fun k_ => (P0_ k_ ∨ w.heap.size ≤ k_) ∧ k_ ≠ gb105) (fun k_ => ((fun k_ => (P0_ k_ ∨ w.heap.size ≤ k_) ∧ k_ ≠ gb105)) k_ ∧ some k_ ≠ (u3 : Value).ownBlock) rfl rfl ?aP (fun _ hk => hk) ?aF ?aO ?aB ?aS ?aL ?_; (case aP => exact (k35_mkF _ _ (⟨(rd_T35 l0 x4_1).f0, (rd_T35 l0 x4_1).f1, (rd_T35 l0 x4_1).f2, (rd_T35 l0 x4_1).f3, y106⟩ : S35) (Kd.V_reads' (Kd.V_mono (ok' := (fun k_ => ((fun k_ => (P0_ k_ ∨ w.heap.size ≤ k_) ∧ k_ ≠ gb105)) k_ ∧ some k_ ≠ (u3 : Value).ownBlock)) (HO110.out) (fun k_ hk => ⟨⟨hk.1, hk.2.2⟩, hk.2.1⟩))).2.1 (Kd.V_F (Kd.V_mono (ok' := (fun k_ => ((fun k_ => (P0_ k_ ∨ w.heap.size ≤ k_) ∧ k_ ≠ gb105)) k_ ∧ some k_ ≠ (u3 : Value).ownBlock)) (HO110.out) (fun k_ hk => ⟨⟨hk.1, hk.2.2⟩, hk.2.1⟩))))); (case aB => exact (y19_ GE105.out)); (case aF => exact (fun k_ hk => ⟨(.inr (Nat.le_trans (below_size (y19_ GE105.out)) hk)), Kd.freshB (g := gb105) (o := .cells #[.int .i64 ((rd_T35 l0 x4_1).f0), .int .i64 ((rd_T35 l0 x4_1).f1), .string ((rd_T35 l0 x4_1).f2), .string ((rd_T35 l0 x4_1).f3), .slice A104_4 y106.length c104_4] 35 (0, 0)) (y12_ BK105.out) k_ hk⟩)); (case aO => exact (y11_ HO_3.out)); (case aS => exact (below_size (y19_ GE105.out))); (case aL => have := LMc10.out; first | omega | exact Nat.le_of_lt this); intro v112 w18 ho hb hg hat; rw [← Ny111.out] at ho; have n0_ := Aside0.mk (Kd.V_afterv (ok := (fun k_ => (P0_ k_ ∨ w.heap.size ≤ k_) ∧ k_ ≠ gb105)) (y17_ HO_0.out) hg hat); have n1_ := Aside0.mk (Kd.V_afterv (ok := (fun k_ => (P0_ k_ ∨ w.heap.size ≤ k_) ∧ k_ ≠ gb105)) (y17_ HL104_4.out) hg hat); have n2_ := Aside0.mk (blk_grown (g := gb105) (o := .cells #[.int .i64 ((rd_T35 l0 x4_1).f0), .int .i64 ((rd_T35 l0 x4_1).f1), .string ((rd_T35 l0 x4_1).f2), .string ((rd_T35 l0 x4_1).f3), .slice A104_4 y106.length c104_4] 35 (0, 0)) (y12_ BK105.out) hg (Kd.N_away HO_3.out (fun _ hk => hk.2))); have n3_ := Aside0.mk (Kd.V_afterv (ok := (fun k_ => (P0_ k_ ∨ w.heap.size ≤ k_) ∧ k_ ≠ gb105)) (y17_ HO110.out) hg hat); have n4_ := Aside0.mk (hb); have n5_ := Aside0.mk (ho); clear HO_0; clear HL104_4; clear BK105; clear HO110; clear HB; clear HO_3; have HO_0 := n0_; have HL104_4 := n1_; have BK105 := n2_; have HO110 := n3_; have HB := n4_; have HO113 := n5_; clear n0_ n1_ n2_ n3_ n4_ n5_; clear ho hb hg hat))
     go_roundg k1
     case measure => have := HK1.out; omega
     case rel => exact ⟨(y111), (wrap64 (x4_1 + 1)), y5_, H', ⟨by have := HK1.out; omega⟩, ⟨by (with_reducible repeat (first | apply Kd.V_alloc | apply Kd.V_drewN | apply Kd.V_drew)); exact Kd.V_mono HO_0.out (fun _ hk => ⟨hk.1.1, hk.2⟩)⟩, ⟨by (with_reducible repeat (first | apply Kd.N_alloc | apply Kd.N_drewN | apply Kd.N_drew)); exact Kd.N_mono HO113.out (fun _ hk => hk.1)⟩, ⟨(y19_ GE105.out)⟩⟩
    ·rw [if_neg c5] at H
     have c5b0 : decide (x4_1 < 40) = false := decide_eq_false c5
     clear c5
     obtain rfl := Option.some.inj H
     go_wp2
     go_ret
     exact ⟨_, y13_, by (with_reducible repeat (first | apply Kd.N_alloc | apply Kd.N_drewN | apply Kd.N_drew)); exact HO_3.out, y14_⟩
   ·rw [if_neg c4] at H
    have c4b0 : decide (x4_1 < (l0.length : Int)) = false := decide_eq_false c4
    clear c4
    obtain rfl := Option.some.inj H
    go_wp2
    go_ret
    exact ⟨_, y13_, by (with_reducible repeat (first | apply Kd.N_alloc | apply Kd.N_drewN | apply Kd.N_drew)); exact HO_3.out, y14_⟩
end Go.Proofs.YtpnhjipaeggcpaaDoor.X
end
section
namespace Go.Proofs.YtpnhjipaeggcpaaDoor.X
open Go.RowKit Go.Proofs.YtpnhjipaeggcpaaDoorW.PrintWords Go.Proofs.YtpnhjipaeggcpaaDoorW.PrintLast Go.Proofs.YtpnhjipaeggcpaaDoorW.PrintMore
attribute [local go_sem] max2_int min2_int max_two min_two max_three min_three max_four min_four
def boltingref04_Moved.l0 : Nat → List (S35) → Int → List (S35) → Int → Option ((List (S35)))
 | 0, _, _, _, _ => none
 | k + 1, x0, x1, x5, x6 => if x6 < (x0.length : Int) then (if 0 ≤ x6 then ((some (([] : List (S41)) : List (S41))).bind fun y218 => (if y218.length + ((rd_T35 x0 x6).f4).length < 4398046511104 then (if x5.length < 1954687338268 then (boltingref04_Moved.l0 k x0 x1 (x5 ++ [(⟨wrap64 (((rd_T35 x0 x6).f0) + x1), (rd_T35 x0 x6).f1, (rd_T35 x0 x6).f2, (rd_T35 x0 x6).f3, (y218 ++ ((rd_T35 x0 x6).f4))⟩ : S35)]) (wrap64 (x6 + 1))) else (none)) else (none))) else (none)) else (some x5)
def boltingref04_Moved.f (k : Nat) (l0 : List (S35)) (a1 : Int) : Option ((List (S35))) := boltingref04_Moved.l0 k l0 a1 (([] : List (S35))) 0
set_option maxHeartbeats 8000000 in
set_option maxRecDepth 100000 in
theorem boltingref04_Moved.calls (k : Nat) (A0 : Option Addr) (c0 : Nat) (l0 : List (S35)) (a1 : Int) (r : List (S35)) (w : World) (hr0 : Kd.C k35 w A0 l0.length l0) (hc0 : l0.length ≤ c0) (h : boltingref04_Moved.f k l0 a1 = some r) :
  Calls Tryd.prog 14 #[.slice A0 l0.length c0, .int .i64 a1] w fun e w' => ∃ v0_ : Value, e = .returned (v0_) ∧ Kd.S k35 35 w' w.heap.size (fun _ => True) v0_ r ∧ Below w.heap.size w w' := by
 have hu35 := Tryd.underlying35
 have HR0 := Aside0.mk hr0
 have HC0 := Aside0.mk hc0
 clear hr0 hc0
 have HB := Aside0.mk (Below.refl w.heap.size w)
 have H : (boltingref04_Moved.l0 k l0 a1 (([] : List (S35))) 0) = some r := h
 clear h
 obtain ⟨y213, hy213⟩ : ∃ y_ : List (S35), y_ = (([] : List (S35))) := ⟨_, rfl⟩
 replace H : (boltingref04_Moved.l0 k l0 a1 y213 0) = some r := by first | (rw [hy213]; with_reducible exact H) | (have H2_ := (Option.bind_some _ _).symm.trans H; rw [hy213]; with_reducible exact H2_) | (have H2_ := (Option.bind_some _ _).symm.trans H; with_reducible exact H2_) | with_reducible exact H | (rw [hy213]; exact H) | exact H
 have Ny213 := Aside0.mk hy213
 clear hy213
 have H' := Aside0.mk H
 clear H
 go_enter Tryd.func14, Tryd.ntmps14
 go_wp2_with (first | ((with_reducible refine gate_dst (N := 8) rfl ?_); refine Kd.S_lit k35 _ 35 ?hg (N := 8) ?hd (xs := ([] : List (S35))) (inner := []) (ok := fun _ => True) (okp := fun _ => True) ?hr ?hp (fun _ hk => hk) trivial (Below.refl _ _) (Nat.le_refl _) (by simp) ?_; (case hd => rfl); (case hg => rfl); (case hr => first | (go_simp; done) | (go_simp; rfl)); (case hp => exact (Reps.none _ _)); intro v214 w3 ho4 hb hg_ hnew_; clear hg_ hnew_; (first | rw [← Ny213.out] at ho4 | (simp only [Int.reduceToNat] at ho4; rw [← Ny213.out] at ho4)); have n0_ := Aside0.mk (Kd.S_lower ho4 (below_size y14_)); have n1_ := Aside0.mk (below_step y14_ hb); clear HB; have HO215 := n0_; have HB := n1_; clear n0_ n1_; clear hb ho4))
 go_loopg [5, 6] k (fun kq v5 v6 w' => ∃ (x5_1 : List (S35)) (x6_1 : Int), v6 = .int .i64 x6_1 ∧ Aside0 (boltingref04_Moved.l0 kq l0 a1 x5_1 x6_1 = some r) ∧ Aside0 (kq ≤ k) ∧ Aside0 (Kd.S k35 35 w' w.heap.size (fun _ => True) v5 x5_1) ∧ Aside0 (Below w.heap.size w w'))
 case atStart => exact ⟨(y213), (0), y5_, H', ⟨Nat.le_refl _⟩, ⟨by (with_reducible repeat (first | apply Kd.S_alloc | apply Kd.S_drewN | apply Kd.S_drew)); exact HO215.out⟩, ⟨y14_⟩⟩
 case round =>
  clear H'
  try clear c1
  try clear p2
  obtain ⟨x5_1, x6_1, rfl, HA, HK1, HO_5, HB⟩ := hrel
  cases gk with
  | zero => exact absurd HA.out (by simp [boltingref04_Moved.l0])
  | succ k1 =>
   have H := HA.out
   clear HA
   simp only [boltingref04_Moved.l0] at H
   by_cases c5 : x6_1 < (l0.length : Int)
   ·rw [if_pos c5] at H
    have c5b0 : decide (x6_1 < (l0.length : Int)) = true := decide_eq_true c5
    clear c5
    by_cases c6 : 0 ≤ x6_1
    rotate_left
    ·rw [if_neg c6] at H
     exact absurd H (by simp)
    rw [if_pos c6] at H
    have c6b0 : decide (0 ≤ x6_1) = true := decide_eq_true c6
    clear c6
    obtain ⟨y218, hy218⟩ : ∃ y_ : List (S41), y_ = (([] : List (S41))) := ⟨_, rfl⟩
    replace H : (if y218.length + ((rd_T35 l0 x6_1).f4).length < 4398046511104 then (if x5_1.length < 1954687338268 then (boltingref04_Moved.l0 k1 l0 a1 (x5_1 ++ [(⟨wrap64 (((rd_T35 l0 x6_1).f0) + a1), (rd_T35 l0 x6_1).f1, (rd_T35 l0 x6_1).f2, (rd_T35 l0 x6_1).f3, (y218 ++ ((rd_T35 l0 x6_1).f4))⟩ : S35)]) (wrap64 (x6_1 + 1))) else (none)) else (none)) = some r := by first | (rw [hy218]; with_reducible exact H) | (have H2_ := (Option.bind_some _ _).symm.trans H; rw [hy218]; with_reducible exact H2_) | (have H2_ := (Option.bind_some _ _).symm.trans H; with_reducible exact H2_) | with_reducible exact H | (rw [hy218]; exact H) | exact H
    have Ny218 := Aside0.mk hy218
    clear hy218
    by_cases c7 : y218.length + ((rd_T35 l0 x6_1).f4).length < 4398046511104
    rotate_left
    ·rw [if_neg c7] at H
     exact absurd H (by simp)
    rw [if_pos c7] at H
    have LMc7 := Aside0.mk c7
    clear c7
    obtain ⟨y221, hy221⟩ : ∃ y_ : List (S41), y_ = (y218 ++ ((rd_T35 l0 x6_1).f4)) := ⟨_, rfl⟩
    replace H : (if x5_1.length < 1954687338268 then (boltingref04_Moved.l0 k1 l0 a1 (x5_1 ++ [(⟨wrap64 (((rd_T35 l0 x6_1).f0) + a1), (rd_T35 l0 x6_1).f1, (rd_T35 l0 x6_1).f2, (rd_T35 l0 x6_1).f3, y221⟩ : S35)]) (wrap64 (x6_1 + 1))) else (none)) = some r := by first | (rw [hy221]; with_reducible exact H) | (have H2_ := (Option.bind_some _ _).symm.trans H; rw [hy221]; with_reducible exact H2_) | (have H2_ := (Option.bind_some _ _).symm.trans H; with_reducible exact H2_) | with_reducible exact H | (rw [hy221]; exact H) | exact H
    have Ny221 := Aside0.mk hy221
    clear hy221
    by_cases c8 : x5_1.length < 1954687338268
    rotate_left
    ·rw [if_neg c8] at H
     exact absurd H (by simp)
    rw [if_pos c8] at H
    have LMc8 := Aside0.mk c8
    clear c8
    obtain ⟨y224, hy224⟩ : ∃ y_ : List (S35), y_ = (x5_1 ++ [(⟨wrap64 (((rd_T35 l0 x6_1).f0) + a1), (rd_T35 l0 x6_1).f1, (rd_T35 l0 x6_1).f2, (rd_T35 l0 x6_1).f3, y221⟩ : S35)]) := ⟨_, rfl⟩
    replace H : (boltingref04_Moved.l0 k1 l0 a1 y224 (wrap64 (x6_1 + 1))) = some r := by first | (rw [hy224]; with_reducible exact H) | (have H2_ := (Option.bind_some _ _).symm.trans H; rw [hy224]; with_reducible exact H2_) | (have H2_ := (Option.bind_some _ _).symm.trans H; with_reducible exact H2_) | with_reducible exact H | (rw [hy224]; exact H) | exact H
    have Ny224 := Aside0.mk hy224
    clear hy224
    have H' := Aside0.mk H
    clear H
    have p216 : 0 ≤ (x6_1 : Int) := of_decide_eq_true y2_
    have q216 : x6_1 < (l0.length : Int) := of_decide_eq_true y2_
    obtain ⟨ad216, A216_4, c216_4, e216, hx216_0, hx216_1, hx216_2, hx216_3, hx216_4, hl216_4, hi216_4⟩ := at_T35 HR0.out x6_1 p216 q216
    cases e216
    replace hx216_0 := (HB.out.cell (World.block_lt_of_cell? w _ hx216_0)).trans hx216_0
    replace hx216_1 := (HB.out.cell (World.block_lt_of_cell? w _ hx216_1)).trans hx216_1
    replace hx216_2 := (HB.out.cell (World.block_lt_of_cell? w _ hx216_2)).trans hx216_2
    replace hx216_3 := (HB.out.cell (World.block_lt_of_cell? w _ hx216_3)).trans hx216_3
    replace hx216_4 := (HB.out.cell (World.block_lt_of_cell? w _ hx216_4)).trans hx216_4
    have HR216_4 := Aside0.mk hi216_4
    have HC216_4 := Aside0.mk hl216_4
    clear hi216_4 hl216_4
    replace p216 := eq_true p216
    replace q216 := eq_true q216
    go_wp2_with (first | ((with_reducible refine gate_dst (N := 7) rfl ?_); refine box_event ?hg (N := 7) ?hd (cs := #[.int .i64 0, .int .i64 0, .string (⟨#[]⟩ : ByteArray), .string (⟨#[]⟩ : ByteArray), .slice none 0 0]) (t := 35) ?hr ?_; (case hd => rfl); (case hg => rfl); (case hr => first | (go_simp; done) | (go_simp; rfl)); intro gb217 hg w9 hbox hb; have n0_ := Aside0.mk (Kd.S_below (Kd.S_elderB (y9_ HO_5.out) gb217 (Nat.le_of_eq hg.symm)) hb); have n1_ := Aside0.mk (below_step y14_ hb); have n2_ := Aside0.mk (hbox); have n3_ := Aside0.mk ((by rw [hg]; exact (below_size y14_) : w.heap.size ≤ gb217)); have n4_ := Aside0.mk ((by rw [hg]; exact (below_size y14_) : w.heap.size ≤ gb217)); clear HO_5; clear HB; have HO_5 := n0_; have HB := n1_; have BK217 := n2_; have GW217 := n3_; have GE217 := n4_; clear n0_ n1_ n2_ n3_ n4_; clear hb hbox hg; have hcz10_0 : w9.cell? ⟨gb217, 0, none⟩ = some (.int .i64 0) := (blk_cell BK217.out 0).trans rfl; have hcz10_1 : w9.cell? ⟨gb217, 1, none⟩ = some (.int .i64 0) := (blk_cell BK217.out 1).trans rfl; have hcz10_2 : w9.cell? ⟨gb217, 2, none⟩ = some (.string (⟨#[]⟩ : ByteArray)) := (blk_cell BK217.out 2).trans rfl; have hcz10_3 : w9.cell? ⟨gb217, 3, none⟩ = some (.string (⟨#[]⟩ : ByteArray)) := (blk_cell BK217.out 3).trans rfl; have hcz10_4 : w9.cell? ⟨gb217, 4, none⟩ = some (.slice none 0 0) := (blk_cell BK217.out 4).trans rfl; have hfz10_0 := blk_frozen BK217.out 0; have hfz10_1 := blk_frozen BK217.out 1; have hfz10_2 := blk_frozen BK217.out 2; have hfz10_3 := blk_frozen BK217.out 3; have hfz10_4 := blk_frozen BK217.out 4) | ((with_reducible refine gate_dst (N := 24) rfl ?_); refine Kd.R_lit k41 _ 41 ?hg (N := 24) ?hd (xs := ([] : List (S41))) (inner := []) (ok := fun _ => True) (okp := fun _ => True) ?hr ?hp (fun _ hk => hk) trivial (Below.refl _ _) (Nat.le_refl _) (by simp) ?_; (case hd => rfl); (case hg => rfl); (case hr => first | (go_simp; done) | (go_simp; rfl)); (case hp => exact (Reps.none _ _)); intro v219 w11 ho12 hb hg_ hnew_; clear hg_ hnew_; (first | rw [← Ny218.out] at ho12 | (simp only [Int.reduceToNat] at ho12; rw [← Ny218.out] at ho12)); have n0_ := Aside0.mk (Kd.S_elder' (by (with_reducible repeat (first | apply Kd.S_alloc | apply Kd.S_drewN | apply Kd.S_drew)); exact (Kd.S_mono (Kd.S_far (p := ⟨gb217, 0, none⟩) (Kd.S_far (p := ⟨gb217, 4, none⟩) (Kd.S_far (p := ⟨gb217, 3, none⟩) (Kd.S_far (p := ⟨gb217, 2, none⟩) (Kd.S_far (p := ⟨gb217, 1, none⟩) (Kd.S_far (p := ⟨gb217, 0, none⟩) (Kd.S_mono HO_5.out (fun k_ hk => (⟨hk, hk.2⟩ : _ ∧ k_ ≠ gb217))) (fun _ hk => hk.2) (.int .i64 ((rd_T35 l0 x6_1).f0))) (fun _ hk => hk.2) (.int .i64 ((rd_T35 l0 x6_1).f1))) (fun _ hk => hk.2) (.string ((rd_T35 l0 x6_1).f2))) (fun _ hk => hk.2) (.string ((rd_T35 l0 x6_1).f3))) (fun _ hk => hk.2) (.slice A216_4 ((rd_T35 l0 x6_1).f4).length c216_4)) (fun _ hk => hk.2) (.int .i64 (wrap64 (((rd_T35 l0 x6_1).f0) + a1)))) (fun _ h_ => h_.1))) (Kd.R_base ho12) hb); have n1_ := Aside0.mk (Kd.R_lower ho12 (below_size (y19_ GE217.out))); have n2_ := Aside0.mk (blk_below (g := gb217) (o := .cells #[.int .i64 (wrap64 (((rd_T35 l0 x6_1).f0) + a1)), .int .i64 ((rd_T35 l0 x6_1).f1), .string ((rd_T35 l0 x6_1).f2), .string ((rd_T35 l0 x6_1).f3), .slice A216_4 ((rd_T35 l0 x6_1).f4).length c216_4] 35 (0, 0)) (by (with_reducible repeat (first | refine blk_drewN ?_ _ | refine blk_drew ?_ | refine blk_alloc ?_ _)); refine blk_put (cs := #[.int .i64 ((rd_T35 l0 x6_1).f0), .int .i64 ((rd_T35 l0 x6_1).f1), .string ((rd_T35 l0 x6_1).f2), .string ((rd_T35 l0 x6_1).f3), .slice A216_4 ((rd_T35 l0 x6_1).f4).length c216_4]) ?_ 0 _ rfl; (with_reducible repeat (first | refine blk_drewN ?_ _ | refine blk_drew ?_ | refine blk_alloc ?_ _)); refine blk_put (cs := #[.int .i64 ((rd_T35 l0 x6_1).f0), .int .i64 ((rd_T35 l0 x6_1).f1), .string ((rd_T35 l0 x6_1).f2), .string ((rd_T35 l0 x6_1).f3), .slice none 0 0]) ?_ 4 _ rfl; (with_reducible repeat (first | refine blk_drewN ?_ _ | refine blk_drew ?_ | refine blk_alloc ?_ _)); refine blk_put (cs := #[.int .i64 ((rd_T35 l0 x6_1).f0), .int .i64 ((rd_T35 l0 x6_1).f1), .string ((rd_T35 l0 x6_1).f2), .string (⟨#[]⟩ : ByteArray), .slice none 0 0]) ?_ 3 _ rfl; (with_reducible repeat (first | refine blk_drewN ?_ _ | refine blk_drew ?_ | refine blk_alloc ?_ _)); refine blk_put (cs := #[.int .i64 ((rd_T35 l0 x6_1).f0), .int .i64 ((rd_T35 l0 x6_1).f1), .string (⟨#[]⟩ : ByteArray), .string (⟨#[]⟩ : ByteArray), .slice none 0 0]) ?_ 2 _ rfl; (with_reducible repeat (first | refine blk_drewN ?_ _ | refine blk_drew ?_ | refine blk_alloc ?_ _)); refine blk_put (cs := #[.int .i64 ((rd_T35 l0 x6_1).f0), .int .i64 0, .string (⟨#[]⟩ : ByteArray), .string (⟨#[]⟩ : ByteArray), .slice none 0 0]) ?_ 1 _ rfl; (with_reducible repeat (first | refine blk_drewN ?_ _ | refine blk_drew ?_ | refine blk_alloc ?_ _)); refine blk_put (cs := #[.int .i64 0, .int .i64 0, .string (⟨#[]⟩ : ByteArray), .string (⟨#[]⟩ : ByteArray), .slice none 0 0]) ?_ 0 _ rfl; (with_reducible repeat (first | refine blk_drewN ?_ _ | refine blk_drew ?_ | refine blk_alloc ?_ _)); exact BK217.out) hb); have n3_ := Aside0.mk (below_step (y19_ GE217.out) hb); clear HO_5; clear BK217; clear HB; have HO_5 := n0_; have HO220 := n1_; have BK217 := n2_; have HB := n3_; clear n0_ n1_ n2_ n3_; clear hb ho12; have hcz13_0 : w11.cell? ⟨gb217, 0, none⟩ = some (.int .i64 (wrap64 (((rd_T35 l0 x6_1).f0) + a1))) := (blk_cell BK217.out 0).trans rfl; have hcz13_1 : w11.cell? ⟨gb217, 1, none⟩ = some (.int .i64 ((rd_T35 l0 x6_1).f1)) := (blk_cell BK217.out 1).trans rfl; have hcz13_2 : w11.cell? ⟨gb217, 2, none⟩ = some (.string ((rd_T35 l0 x6_1).f2)) := (blk_cell BK217.out 2).trans rfl; have hcz13_3 : w11.cell? ⟨gb217, 3, none⟩ = some (.string ((rd_T35 l0 x6_1).f3)) := (blk_cell BK217.out 3).trans rfl; have hcz13_4 : w11.cell? ⟨gb217, 4, none⟩ = some (.slice A216_4 ((rd_T35 l0 x6_1).f4).length c216_4) := (blk_cell BK217.out 4).trans rfl; have hfz13_0 := blk_frozen BK217.out 0; have hfz13_1 := blk_frozen BK217.out 1; have hfz13_2 := blk_frozen BK217.out 2; have hfz13_3 := blk_frozen BK217.out 3; have hfz13_4 := blk_frozen BK217.out 4) | ((with_reducible refine gate_builtin (b := .append) (xs := #[.tmp 24, .tmp 26]) rfl ?_); at_builtin; refine Kd.R_append_rows k41 (w0 := w) w.heap.size rfl (.tmp 24) (.tmp 26) 33 41 (.agg #[(.string ⟨#[]⟩), (.string ⟨#[]⟩)]) 32 rfl Tryd.underlying33 info41 rfl (by decide) (by omega) v219 y218 ((rd_T35 l0 x6_1).f4) _ _ _ (fun _ => True) (fun _ => False) rfl rfl ?aO ?aR (fun _ _ h => h) (fun _ h => h.elim) ?aF ?aB ?aS ?aL ?_; (case aR => repeat (first | exact (Kd.C_below HR216_4.out HB.out) | (with_reducible refine Kd.C_alloc ?_ _) | (with_reducible refine Kd.C_drewN ?_ _) | (with_reducible refine Kd.C_drew ?_))); (case aB => exact (y19_ GE217.out)); (case aF => exact (fun _ _ => trivial)); (case aO => exact (y8_ HO220.out)); (case aS => exact (below_size (y19_ GE217.out))); (case aL => have := LMc7.out; first | omega | exact Nat.le_of_lt this); intro v222 w14 ho hb hg hat; rw [← Ny221.out] at ho; have n0_ := Aside0.mk (Kd.S_after (ok := (fun k_ => k_ ≠ gb217)) (by (with_reducible repeat (first | apply Kd.S_alloc | apply Kd.S_drewN | apply Kd.S_drew)); exact Kd.S_mono HO_5.out (fun _ hk => ⟨hk.1.2, hk.2⟩)) hg hat); have n1_ := Aside0.mk (blk_grown (g := gb217) (o := .cells #[.int .i64 (wrap64 (((rd_T35 l0 x6_1).f0) + a1)), .int .i64 ((rd_T35 l0 x6_1).f1), .string ((rd_T35 l0 x6_1).f2), .string ((rd_T35 l0 x6_1).f3), .slice A216_4 ((rd_T35 l0 x6_1).f4).length c216_4] 35 (0, 0)) (y12_ BK217.out) hg (Kd.R_ne HO220.out BK217.out (by decide))); have n2_ := Aside0.mk (hb); have n3_ := Aside0.mk (ho); clear HO_5; clear BK217; clear HB; clear HO220; have HO_5 := n0_; have BK217 := n1_; have HB := n2_; have HO223 := n3_; clear n0_ n1_ n2_ n3_; clear ho hb hg hat; obtain ⟨Ao15, co15, eo15⟩ := Kd.R_slice HO223.out; subst eo15; have hcz16_0 : w14.cell? ⟨gb217, 0, none⟩ = some (.int .i64 (wrap64 (((rd_T35 l0 x6_1).f0) + a1))) := (blk_cell BK217.out 0).trans rfl; have hcz16_1 : w14.cell? ⟨gb217, 1, none⟩ = some (.int .i64 ((rd_T35 l0 x6_1).f1)) := (blk_cell BK217.out 1).trans rfl; have hcz16_2 : w14.cell? ⟨gb217, 2, none⟩ = some (.string ((rd_T35 l0 x6_1).f2)) := (blk_cell BK217.out 2).trans rfl; have hcz16_3 : w14.cell? ⟨gb217, 3, none⟩ = some (.string ((rd_T35 l0 x6_1).f3)) := (blk_cell BK217.out 3).trans rfl; have hcz16_4 : w14.cell? ⟨gb217, 4, none⟩ = some (.slice A216_4 ((rd_T35 l0 x6_1).f4).length c216_4) := (blk_cell BK217.out 4).trans rfl; have hfz16_0 := blk_frozen BK217.out 0; have hfz16_1 := blk_frozen BK217.out 1; have hfz16_2 := blk_frozen BK217.out 2; have hfz16_3 := blk_frozen BK217.out 3; have hfz16_4 := blk_frozen BK217.out 4) | ((with_reducible refine gate_store (t := 33) (p := 28) rfl ?_); refine store_event (t := 33) (p := 28) (v := ?vo_w17) (w1 := (w14.setCell ⟨gb217, 4, none⟩ (.slice Ao15 y221.length co15))) ?hg ?ho ?hn ?hr ?_; (case ho => rfl); (case hg => rfl); (case hn => rfl); (case hr => first | (go_simp; done) | (go_simp; rfl)); intro w17 hw; have n0_ : Aside0 (Kd.S k35 35 w17 w.heap.size (fun k_ => some k_ ≠ (.slice Ao15 y221.length co15 : Value).ownBlock ∧ k_ ≠ gb217) u5 x5_1) := ⟨(by rw [hw]; exact (by (with_reducible repeat (first | apply Kd.S_alloc | apply Kd.S_drewN | apply Kd.S_drew)); exact Kd.S_mono (Kd.S_far (p := ⟨gb217, 4, none⟩) (Kd.S_mono HO_5.out (fun k_ hk => (⟨hk, hk.1⟩ : _ ∧ k_ ≠ gb217))) (fun _ hk => hk.2) (.slice Ao15 y221.length co15)) (fun _ hk => ⟨hk.1.2, hk.1.1⟩)))⟩; have n1_ : Aside0 (Kd.R k41 41 w17 w.heap.size (fun _ => True) (.slice Ao15 y221.length co15) y221) := ⟨(by rw [hw]; exact (by (with_reducible repeat (first | apply Kd.R_alloc | apply Kd.R_drewN | apply Kd.R_drew)); exact Kd.R_mono (Kd.R_far (p := ⟨gb217, 4, none⟩) (Kd.R_types HO223.out BK217.out (by decide)) (fun _ hk => hk.2) (.slice Ao15 y221.length co15)) (fun _ hk => trivial)))⟩; have n2_ : Aside0 (w17.heap[gb217]? = some (.cells #[.int .i64 (wrap64 (((rd_T35 l0 x6_1).f0) + a1)), .int .i64 ((rd_T35 l0 x6_1).f1), .string ((rd_T35 l0 x6_1).f2), .string ((rd_T35 l0 x6_1).f3), .slice Ao15 y221.length co15] 35 (0, 0))) := ⟨(by rw [hw]; exact (by (with_reducible repeat (first | refine blk_drewN ?_ _ | refine blk_drew ?_ | refine blk_alloc ?_ _)); refine blk_put (cs := #[.int .i64 (wrap64 (((rd_T35 l0 x6_1).f0) + a1)), .int .i64 ((rd_T35 l0 x6_1).f1), .string ((rd_T35 l0 x6_1).f2), .string ((rd_T35 l0 x6_1).f3), .slice A216_4 ((rd_T35 l0 x6_1).f4).length c216_4]) ?_ 4 _ rfl; (with_reducible repeat (first | refine blk_drewN ?_ _ | refine blk_drew ?_ | refine blk_alloc ?_ _)); exact BK217.out))⟩; have n3_ : Aside0 (Below w.heap.size w w17) := ⟨(by rw [hw]; exact (y19_ GE217.out))⟩; clear hw; clear HO_5; clear HO223; clear BK217; clear HB; have HO_5 := n0_; have HO223 := n1_; have BK217 := n2_; have HB := n3_; clear n0_ n1_ n2_ n3_; have hcz18_0 : w17.cell? ⟨gb217, 0, none⟩ = some (.int .i64 (wrap64 (((rd_T35 l0 x6_1).f0) + a1))) := (blk_cell BK217.out 0).trans rfl; have hcz18_1 : w17.cell? ⟨gb217, 1, none⟩ = some (.int .i64 ((rd_T35 l0 x6_1).f1)) := (blk_cell BK217.out 1).trans rfl; have hcz18_2 : w17.cell? ⟨gb217, 2, none⟩ = some (.string ((rd_T35 l0 x6_1).f2)) := (blk_cell BK217.out 2).trans rfl; have hcz18_3 : w17.cell? ⟨gb217, 3, none⟩ = some (.string ((rd_T35 l0 x6_1).f3)) := (blk_cell BK217.out 3).trans rfl; have hcz18_4 : w17.cell? ⟨gb217, 4, none⟩ = some (.slice Ao15 y221.length co15) := (blk_cell BK217.out 4).trans rfl; have hfz18_0 := blk_frozen BK217.out 0; have hfz18_1 := blk_frozen BK217.out 1; have hfz18_2 := blk_frozen BK217.out 2; have hfz18_3 := blk_frozen BK217.out 3; have hfz18_4 := blk_frozen BK217.out 4) | ((with_reducible refine gate_builtin (b := .append) (xs := #[.tmp 29, .tmp 31]) rfl ?_); at_builtin; refine Kd.S_append k35 (w0 := w) w.heap.size rfl (.tmp 29) (.tmp 31) 22 35 (.agg #[(.int .i64 0), (.int .i64 0), (.string ⟨#[]⟩), (.string ⟨#[]⟩), (.slice none 0 0)]) 72 rfl Tryd.underlying22 info35 rfl (by decide) (by omega) u5 x5_1 (⟨wrap64 (((rd_T35 l0 x6_1).f0) + a1), (rd_T35 l0 x6_1).f1, (rd_T35 l0 x6_1).f2, (rd_T35 l0 x6_1).f3, y221⟩ : S35) [.int .i64 (wrap64 (((rd_T35 l0 x6_1).f0) + a1)), .int .i64 ((rd_T35 l0 x6_1).f1), .string ((rd_T35 l0 x6_1).f2), .string ((rd_T35 l0 x6_1).f3), .slice Ao15 y221.length co15] (fun k_ => k_ ≠ gb217) (fun k_ => some k_ = (.slice Ao15 y221.length co15 : Value).ownBlock) rfl rfl ?aP (fun k_ hk_ => ((Kd.R_mono (ok' := fun k_ => ((fun k_ => k_ ≠ gb217)) k_ ∧ some k_ ≠ (u5 : Value).ownBlock) (Kd.R_types (Kd.R_apart' (HO223.out) (Kd.S_typed HO_5.out) (by decide)) BK217.out (by decide)) (fun k_ hk => ⟨hk.2, hk.1.2⟩))).1 k_ hk_.symm) ?aF ?aO ?aB ?aS ?aL ?_; (case aP => exact k35_mkM _ _ _ (⟨wrap64 (((rd_T35 l0 x6_1).f0) + a1), (rd_T35 l0 x6_1).f1, (rd_T35 l0 x6_1).f2, (rd_T35 l0 x6_1).f3, y221⟩ : S35) (Kd.R_mono (Kd.R_tight rfl (Kd.R_mono (ok' := fun k_ => ((fun k_ => k_ ≠ gb217)) k_ ∧ some k_ ≠ (u5 : Value).ownBlock) (Kd.R_types (Kd.R_apart' (HO223.out) (Kd.S_typed HO_5.out) (by decide)) BK217.out (by decide)) (fun k_ hk => ⟨hk.2, hk.1.2⟩))) (fun _ h_ => h_))); (case aB => exact (y19_ GE217.out)); (case aF => exact (fun k_ hk => Kd.freshB (g := gb217) (o := .cells #[.int .i64 (wrap64 (((rd_T35 l0 x6_1).f0) + a1)), .int .i64 ((rd_T35 l0 x6_1).f1), .string ((rd_T35 l0 x6_1).f2), .string ((rd_T35 l0 x6_1).f3), .slice Ao15 y221.length co15] 35 (0, 0)) (y12_ BK217.out) k_ hk)); (case aO => exact (y18_ HO_5.out)); (case aS => exact (below_size (y19_ GE217.out))); (case aL => have := LMc8.out; first | omega | exact Nat.le_of_lt this); intro v225 w19 ho hb hg hat; rw [← Ny224.out] at ho; have n0_ := Aside0.mk (blk_grown (g := gb217) (o := .cells #[.int .i64 (wrap64 (((rd_T35 l0 x6_1).f0) + a1)), .int .i64 ((rd_T35 l0 x6_1).f1), .string ((rd_T35 l0 x6_1).f2), .string ((rd_T35 l0 x6_1).f3), .slice Ao15 y221.length co15] 35 (0, 0)) (y12_ BK217.out) hg (Kd.S_away HO_5.out (fun _ hk => hk.2))); have n1_ := Aside0.mk (hb); have n2_ := Aside0.mk (ho); clear BK217; clear HB; clear HO_5; clear HO223; have BK217 := n0_; have HB := n1_; have HO226 := n2_; clear n0_ n1_ n2_; clear ho hb hg hat))
    go_roundg k1
    case measure => have := HK1.out; omega
    case rel => exact ⟨(y224), (wrap64 (x6_1 + 1)), y5_, H', ⟨by have := HK1.out; omega⟩, ⟨by (with_reducible repeat (first | apply Kd.S_alloc | apply Kd.S_drewN | apply Kd.S_drew)); exact Kd.S_mono HO226.out (fun _ hk => trivial)⟩, ⟨(y19_ GE217.out)⟩⟩
   ·rw [if_neg c5] at H
    have c5b0 : decide (x6_1 < (l0.length : Int)) = false := decide_eq_false c5
    clear c5
    obtain rfl := Option.some.inj H
    go_wp2
    go_ret
    exact ⟨_, y13_, by (with_reducible repeat (first | apply Kd.S_alloc | apply Kd.S_drewN | apply Kd.S_drew)); exact HO_5.out, y14_⟩
end Go.Proofs.YtpnhjipaeggcpaaDoor.X
end
section
namespace Go.Proofs.YtpnhjipaeggcpaaDoor.X
open Go.RowKit Go.Proofs.YtpnhjipaeggcpaaDoorW.PrintWords Go.Proofs.YtpnhjipaeggcpaaDoorW.PrintLast Go.Proofs.YtpnhjipaeggcpaaDoorW.PrintMore
attribute [local go_sem] max2_int min2_int max_two min_two max_three min_three max_four min_four
def boltingref04_Join.f (k : Nat) (l0 : List (S35)) (l1 : List (S35)) : Option ((List (S35))) := (boltingref04_Moved.f k l0 0).bind fun t420 => ((boltingref04_Moved.f k l1 0).bind fun t423 => (if t420.length + t423.length < 1954687338268 then (some (t420 ++ t423)) else (none)))
set_option maxHeartbeats 8000000 in
set_option maxRecDepth 100000 in
theorem boltingref04_Join.calls (k : Nat) (A0 : Option Addr) (c0 : Nat) (l0 : List (S35)) (A1 : Option Addr) (c1 : Nat) (l1 : List (S35)) (r : List (S35)) (w : World) (hr0 : Kd.C k35 w A0 l0.length l0) (hc0 : l0.length ≤ c0) (hr1 : Kd.C k35 w A1 l1.length l1) (hc1 : l1.length ≤ c1) (h : boltingref04_Join.f k l0 l1 = some r) :
  Calls Tryd.prog 17 #[.slice A0 l0.length c0, .slice A1 l1.length c1] w fun e w' => ∃ v0_ : Value, e = .returned (v0_) ∧ Kd.N k35 35 w' w.heap.size (fun k_ => (w.heap.size ≤ k_)) v0_ r ∧ Below w.heap.size w w' := by
 have HR0 := Aside0.mk hr0
 have HC0 := Aside0.mk hc0
 clear hr0 hc0
 have HR1 := Aside0.mk hr1
 have HC1 := Aside0.mk hc1
 clear hr1 hc1
 have HB := Aside0.mk (Below.refl w.heap.size w)
 have H : ((boltingref04_Moved.f k l0 0).bind fun t420 => ((boltingref04_Moved.f k l1 0).bind fun t423 => (if t420.length + t423.length < 1954687338268 then (some (t420 ++ t423)) else (none)))) = some r := h
 clear h
 replace H := Option.bind_eq_some_iff.mp H
 obtain ⟨t420, A30, H⟩ := H
 have A3 := Aside0.mk A30
 clear A30
 replace H := Option.bind_eq_some_iff.mp H
 obtain ⟨t423, A40, H⟩ := H
 have A4 := Aside0.mk A40
 clear A40
 by_cases c5 : t420.length + t423.length < 1954687338268
 rotate_left
 ·rw [if_neg c5] at H
  exact absurd H (by simp)
 rw [if_pos c5] at H
 have LMc5 := Aside0.mk c5
 clear c5
 obtain ⟨y426, hy426⟩ : ∃ y_ : List (S35), y_ = (t420 ++ t423) := ⟨_, rfl⟩
 replace H : (some y426) = some r := by first | (rw [hy426]; with_reducible exact H) | (have H2_ := (Option.bind_some _ _).symm.trans H; rw [hy426]; with_reducible exact H2_) | (have H2_ := (Option.bind_some _ _).symm.trans H; with_reducible exact H2_) | with_reducible exact H | (rw [hy426]; exact H) | exact H
 have Ny426 := Aside0.mk hy426
 clear hy426
 obtain rfl := Option.some.inj H
 go_enter Tryd.func17, Tryd.ntmps17
 go_wp2_with (first | ((with_reducible refine gate_callee (f := 14) rfl ?_); refine goesL_ (some 7) rfl rfl Tryd.func14 (by kernel_rfl) rfl #[.slice A0 l0.length c0, .int .i64 0] rfl y15_ ?_; (with_reducible refine (boltingref04_Moved.calls k _ _ l0 0 t420 _ ?side1 ?side2 A3.out).mono ?_); (case side1 => repeat (first | exact HR0.out | (with_reducible refine Kd.C_alloc ?_ _) | (with_reducible refine Kd.C_drewN ?_ _) | (with_reducible refine Kd.C_drew ?_))); (case side2 => exact HC0.out); rintro e w6 ⟨v421, rfl, ho0, hb⟩; refine ⟨_, rfl, ?_⟩; have n0_ := Aside0.mk (Kd.N_lower (Kd.N_mono (ok' := fun k_ => (w.heap.size ≤ k_)) (Kd.S_N (Kd.S_bound ho0)) (fun k_ hk_ => (Nat.le_trans (below_size y14_) hk_.2.1))) (below_size y14_)); have n1_ := Aside0.mk (below_step y14_ hb); clear HB; have HO422 := n0_; have HB := n1_; clear n0_ n1_; (try clear hb); (try clear hb2); (try clear hk); (try clear hi); (try clear ho0)) | ((with_reducible refine gate_callee (f := 14) rfl ?_); refine goesL_ (some 10) rfl rfl Tryd.func14 (by kernel_rfl) rfl #[.slice A1 l1.length c1, .int .i64 0] rfl y15_ ?_; (with_reducible refine (boltingref04_Moved.calls k _ _ l1 0 t423 _ ?side1 ?side2 A4.out).mono ?_); (case side1 => repeat (first | exact (Kd.C_below HR1.out HB.out) | (with_reducible refine Kd.C_alloc ?_ _) | (with_reducible refine Kd.C_drewN ?_ _) | (with_reducible refine Kd.C_drew ?_))); (case side2 => exact HC1.out); rintro e w7 ⟨v424, rfl, ho0, hb⟩; refine ⟨_, rfl, ?_⟩; have n0_ := Aside0.mk (Kd.N_elder' (y11_ HO422.out) y4_ hb); have n1_ := Aside0.mk (Kd.N_lower (Kd.N_mono (ok' := fun k_ => (w.heap.size ≤ k_) ∧ some k_ ≠ (v421 : Value).ownBlock) (Kd.S_N (Kd.S_bound ho0)) (fun k_ hk_ => ⟨(Nat.le_trans (below_size y14_) hk_.2.1), (Kd.fresh' (Kd.N_lt (y11_ HO422.out)) k_ hk_.2.1)⟩)) (below_size y14_)); have n2_ := Aside0.mk (below_step y14_ hb); clear HO422; clear HB; have HO422 := n0_; have HO425 := n1_; have HB := n2_; clear n0_ n1_ n2_; (try clear hb); (try clear hb2); (try clear hk); (try clear hi); (try clear ho0); obtain ⟨Ao9, co9, eo9⟩ := Kd.N_slice HO425.out; subst eo9) | ((with_reducible refine gate_builtin (b := .append) (xs := #[.tmp 8, .tmp 10]) rfl ?_); at_builtin; refine Kd.N_append_rows k35 (w0 := w) w.heap.size rfl (.tmp 8) (.tmp 10) 22 35 (.agg #[(.int .i64 0), (.int .i64 0), (.string ⟨#[]⟩), (.string ⟨#[]⟩), (.slice none 0 0)]) 72 rfl Tryd.underlying22 info35 rfl (by decide) (by omega) v421 t420 t423 _ _ _ (fun k_ => (w.heap.size ≤ k_)) (fun k_ => ((fun k_ => (w.heap.size ≤ k_))) k_ ∧ some k_ ≠ (v421 : Value).ownBlock) rfl rfl ?aO ?aR (fun _ hk => hk) ?aF ?aB ?aS ?aL ?_; (case aR => exact (by skip; exact Kd.N_F (Kd.N_mono (ok' := (fun k_ => ((fun k_ => (w.heap.size ≤ k_))) k_ ∧ some k_ ≠ (v421 : Value).ownBlock)) (HO425.out) (fun k_ hk => ⟨hk.1, hk.2⟩)))); (case aB => exact y14_); (case aF => exact (fun k_ hk => (Nat.le_trans (below_size y14_) hk))); (case aO => exact (by (with_reducible repeat (first | apply Kd.N_alloc | apply Kd.N_drewN | apply Kd.N_drew)); exact Kd.N_mono HO422.out (fun _ hk => hk.1))); (case aS => exact (below_size y14_)); (case aL => have := LMc5.out; first | omega | exact Nat.le_of_lt this); intro v427 w8 ho hb hg hat; rw [← Ny426.out] at ho; have n0_ := Aside0.mk (Kd.N_afterv (ok := (fun k_ => (w.heap.size ≤ k_))) (y11_ HO425.out) hg hat); have n1_ := Aside0.mk (hb); have n2_ := Aside0.mk (ho); clear HO425; clear HB; clear HO422; have HO425 := n0_; have HB := n1_; have HO428 := n2_; clear n0_ n1_ n2_; clear ho hb hg hat))
 go_ret
 exact ⟨_, y13_, by (with_reducible repeat (first | apply Kd.N_alloc | apply Kd.N_drewN | apply Kd.N_drew)); exact HO428.out, y14_⟩
end Go.Proofs.YtpnhjipaeggcpaaDoor.X
end
section
namespace Go.Proofs.YtpnhjipaeggcpaaDoor.X
open Go.RowKit Go.Proofs.YtpnhjipaeggcpaaDoorW.PrintWords Go.Proofs.YtpnhjipaeggcpaaDoorW.PrintLast Go.Proofs.YtpnhjipaeggcpaaDoorW.PrintMore
attribute [local go_sem] max2_int min2_int max_two min_two max_three min_three max_four min_four
def boltinglaw08_one.f (a0 : ByteArray) (a1 : ByteArray) : Option ((List (S35))) := some (([(⟨0, 0, a0, (⟨#[]⟩ : ByteArray), ([] : List (S41))⟩ : S35), (⟨1, 1, (⟨#[]⟩ : ByteArray), a1, ([] : List (S41))⟩ : S35)] : List (S35)))
set_option maxHeartbeats 8000000 in
set_option maxRecDepth 100000 in
theorem boltinglaw08_one.calls (a0 : ByteArray) (a1 : ByteArray) (r : List (S35)) (w : World) (h : boltinglaw08_one.f a0 a1 = some r) :
  Calls Tryd.prog 19 #[.string a0, .string a1] w fun e w' => ∃ v0_ : Value, e = .returned (v0_) ∧ Kd.S k35 35 w' w.heap.size (fun _ => True) v0_ r ∧ Below w.heap.size w w' := by
 have hu35 := Tryd.underlying35
 have HB := Aside0.mk (Below.refl w.heap.size w)
 have H : (some (([(⟨0, 0, a0, (⟨#[]⟩ : ByteArray), ([] : List (S41))⟩ : S35), (⟨1, 1, (⟨#[]⟩ : ByteArray), a1, ([] : List (S41))⟩ : S35)] : List (S35)))) = some r := h
 clear h
 obtain ⟨y299, hy299⟩ : ∃ y_ : List (S35), y_ = (([(⟨0, 0, a0, (⟨#[]⟩ : ByteArray), ([] : List (S41))⟩ : S35), (⟨1, 1, (⟨#[]⟩ : ByteArray), a1, ([] : List (S41))⟩ : S35)] : List (S35))) := ⟨_, rfl⟩
 replace H : (some y299) = some r := by first | (rw [hy299]; with_reducible exact H) | (have H2_ := (Option.bind_some _ _).symm.trans H; rw [hy299]; with_reducible exact H2_) | (have H2_ := (Option.bind_some _ _).symm.trans H; with_reducible exact H2_) | with_reducible exact H | (rw [hy299]; exact H) | exact H
 have Ny299 := Aside0.mk hy299
 clear hy299
 obtain rfl := Option.some.inj H
 go_enter Tryd.func19, Tryd.ntmps19
 go_wp2_with (first | ((with_reducible refine gate_dst (N := 9) rfl ?_); refine Kd.S_lit k35 _ 35 ?hg (N := 9) ?hd (xs := ([(⟨0, 0, a0, (⟨#[]⟩ : ByteArray), ([] : List (S41))⟩ : S35), (⟨1, 1, (⟨#[]⟩ : ByteArray), a1, ([] : List (S41))⟩ : S35)] : List (S35))) (inner := [.int .i64 0, .int .i64 0, .string a0, .string (⟨#[]⟩ : ByteArray), .slice none 0 0, .int .i64 1, .int .i64 1, .string (⟨#[]⟩ : ByteArray), .string a1, .slice none 0 0]) (ok := fun _ => True) (okp := fun _ => True) ?hr ?hp (fun _ hk => hk) trivial (Below.refl _ _) (Nat.le_refl _) (by simp) ?_; (case hd => rfl); (case hg => rfl); (case hr => first | (go_simp; done) | (go_simp; rfl)); (case hp => exact (Reps.c5 (show Kd.M k35 _ _ _ (⟨0, 0, a0, (⟨#[]⟩ : ByteArray), ([] : List (S41))⟩ : S35) [.int .i64 0, .int .i64 0, .string a0, .string (⟨#[]⟩ : ByteArray), .slice none 0 0] from (k35_mkM _ _ _ (⟨0, 0, a0, (⟨#[]⟩ : ByteArray), ([] : List (S41))⟩ : S35) (Kd.R_nil _ _ _ _ _))) (Reps.c5 (show Kd.M k35 _ _ _ (⟨1, 1, (⟨#[]⟩ : ByteArray), a1, ([] : List (S41))⟩ : S35) [.int .i64 1, .int .i64 1, .string (⟨#[]⟩ : ByteArray), .string a1, .slice none 0 0] from (k35_mkM _ _ _ (⟨1, 1, (⟨#[]⟩ : ByteArray), a1, ([] : List (S41))⟩ : S35) (Kd.R_nil _ _ _ _ _))) (Reps.none _ _)))); intro v300 w3 ho4 hb hg_ hnew_; clear hg_ hnew_; (first | rw [← Ny299.out] at ho4 | (simp only [Int.reduceToNat] at ho4; rw [← Ny299.out] at ho4)); have n0_ := Aside0.mk (Kd.S_lower ho4 (below_size y14_)); have n1_ := Aside0.mk (below_step y14_ hb); clear HB; have HO301 := n0_; have HB := n1_; clear n0_ n1_; clear hb ho4))
 go_ret
 exact ⟨_, y13_, by (with_reducible repeat (first | apply Kd.S_alloc | apply Kd.S_drewN | apply Kd.S_drew)); exact HO301.out, y14_⟩
end Go.Proofs.YtpnhjipaeggcpaaDoor.X
end
section
namespace Go.Proofs
open Go.Shelf
def Tryd.lays169_ren : Go.Shelf.Ren := ⟨fun | 169 => 41 | n => n, fun | 70 => 51 | 9 => 9 | 0 => 0 | 72 => 54 | 37 => 52 | 127 => 71 | 3 => 3 | 5 => 5 | n => n, fun | n => n⟩
theorem Tryd.lays169 : Go.Proofs.Lays.n169 Tryd.prog Tryd.lays169_ren := {
  mixed := by kernel_rfl
  f169 := Tryd.func41.trans (congrArg some (by kernel_rfl))
  t0 := Tryd.underlying0
  a0 := Tryd.isAgg0
  z0 := Tryd.sizeOf0
  v0 := Tryd.zeroValue0
  t3 := Tryd.underlying3
  a3 := Tryd.isAgg3
  z3 := Tryd.sizeOf3
  v3 := Tryd.zeroValue3
  t9 := Tryd.underlying9
  a9 := Tryd.isAgg9
  z9 := Tryd.sizeOf9
  v9 := Tryd.zeroValue9
  t37 := Tryd.underlying52
  a37 := Tryd.isAgg52
  z37 := Tryd.sizeOf52
  v37 := Tryd.zeroValue52
  t70 := Tryd.underlying51
  a70 := Tryd.isAgg51
  z70 := Tryd.sizeOf51
  v70 := Tryd.zeroValue51
  t72 := Tryd.underlying54
  a72 := Tryd.isAgg54
  z72 := Tryd.sizeOf54
  v72 := Tryd.zeroValue54
  t127 := Tryd.underlying71
  a127 := Tryd.isAgg71
  z127 := Tryd.sizeOf71
  v127 := Tryd.zeroValue71 }
theorem Tryd.Builder_Extra_169 : Builder.Extra Tryd.prog Tryd.lays169_ren := {
  sizeBuilder := by kernel_rfl
  liesBuilder := by kernel_rfl
  t5 := Tryd.underlying5
  a5 := Tryd.isAgg5
  z5 := Tryd.sizeOf5
  v5 := Tryd.zeroValue5
  infoByte := by kernel_rfl
  cellsByte := by kernel_rfl
  sizeByte := by kernel_rfl
  neB5 := by decide }
open Go.RowKit in
theorem Tryd.Builder_String_any (B b : Nat) (l : List UInt8) (w : World) (h : Lib.IsBuilder 54 5 B b (Lib.byteCells l) w) (hBw : B ≤ w.heap.size) :
    Calls Tryd.prog 41 #[.pointer (some ⟨b, 0, none⟩)] w fun e w' => e = .returned (.string ⟨l.toArray⟩) ∧ Below B w w' := Any.Builder_String_any Tryd.lays169 Tryd.Builder_Extra_169 B b l w h hBw
def Tryd.lays119_ren : Go.Shelf.Ren := ⟨fun | 119 => 96 | n => n, fun | 21 => 21 | 4 => 4 | n => n, fun | n => n⟩
theorem Tryd.lays119 : Go.Proofs.Lays.n119 Tryd.prog Tryd.lays119_ren := {
  mixed := by kernel_rfl
  f119 := Tryd.func96.trans (congrArg some (by kernel_rfl))
  t4 := Tryd.underlying4
  a4 := Tryd.isAgg4
  z4 := Tryd.sizeOf4
  v4 := Tryd.zeroValue4
  t21 := Tryd.underlying21
  a21 := Tryd.isAgg21
  z21 := Tryd.sizeOf21
  v21 := Tryd.zeroValue21 }
theorem Tryd.utf8_ValidRune (r : Int) (w : World) :
    Calls Tryd.prog 96 #[.int .i32 r] w fun e w' => e = .returned (.bool (Lib.validRune r)) ∧ w' = w := Any.utf8_ValidRune Tryd.lays119 r w
def Tryd.lays137_ren : Go.Shelf.Ren := ⟨fun | 137 => 95 | 217 => 99 | 266 => 103 | n => n, fun | 9 => 9 | 5 => 5 | 3 => 3 | n => n, fun | n => n⟩
theorem Tryd.lays137 : Go.Proofs.Lays.n137 Tryd.prog Tryd.lays137_ren := {
  mixed := by kernel_rfl
  f137 := Tryd.func95.trans (congrArg some (by kernel_rfl))
  f217 := Tryd.func99.trans (congrArg some (by kernel_rfl))
  f266 := Tryd.func103.trans (congrArg some (by kernel_rfl))
  t3 := Tryd.underlying3
  a3 := Tryd.isAgg3
  z3 := Tryd.sizeOf3
  v3 := Tryd.zeroValue3
  t5 := Tryd.underlying5
  a5 := Tryd.isAgg5
  z5 := Tryd.sizeOf5
  v5 := Tryd.zeroValue5
  t9 := Tryd.underlying9
  a9 := Tryd.isAgg9
  z9 := Tryd.sizeOf9
  v9 := Tryd.zeroValue9 }
open Go.RowKit in
theorem Tryd.strings_IndexByte (s : ByteArray) (c : Int) (w : World) :
    Calls Tryd.prog 95 #[.string s, .int .u8 c] w fun e w' => e = .returned (.int .i64 (Lib.indexByte s.data.toList c.toNat.toUInt8)) ∧ w' = w := Any.strings_IndexByte Tryd.lays137 s c w
def Tryd.lays219_ren : Go.Shelf.Ren := ⟨fun | 219 => 89 | 217 => 99 | 225 => 98 | 224 => 97 | 267 => 100 | 266 => 103 | 314 => 104 | n => n, fun | 9 => 9 | 3 => 3 | 4 => 4 | 5 => 5 | 46 => 88 | 146 => 105 | 51 => 104 | n => n, fun | 1 => 2 | n => n⟩
def Tryd.lays144_ren : Go.Shelf.Ren := ⟨fun | 144 => 51 | 143 => 70 | 219 => 89 | 217 => 99 | 225 => 98 | 224 => 97 | 267 => 100 | 266 => 103 | 314 => 104 | n => n, fun | 9 => 9 | 4 => 4 | 3 => 3 | 5 => 5 | 46 => 88 | 146 => 105 | 51 => 104 | n => n, fun | 1 => 2 | n => n⟩
theorem Tryd.lays144 : Go.Proofs.Lays.n144 Tryd.prog Tryd.lays144_ren := {
  mixed := by kernel_rfl
  f143 := Tryd.func70.trans (congrArg some (by kernel_rfl))
  f144 := Tryd.func51.trans (congrArg some (by kernel_rfl))
  f217 := Tryd.func99.trans (congrArg some (by kernel_rfl))
  f219 := Tryd.func89.trans (congrArg some (by kernel_rfl))
  f224 := Tryd.func97.trans (congrArg some (by kernel_rfl))
  f225 := Tryd.func98.trans (congrArg some (by kernel_rfl))
  f266 := Tryd.func103.trans (congrArg some (by kernel_rfl))
  f267 := Tryd.func100.trans (congrArg some (by kernel_rfl))
  f314 := Tryd.func104.trans (congrArg some (by kernel_rfl))
  t3 := Tryd.underlying3
  a3 := Tryd.isAgg3
  z3 := Tryd.sizeOf3
  v3 := Tryd.zeroValue3
  t4 := Tryd.underlying4
  a4 := Tryd.isAgg4
  z4 := Tryd.sizeOf4
  v4 := Tryd.zeroValue4
  t5 := Tryd.underlying5
  a5 := Tryd.isAgg5
  z5 := Tryd.sizeOf5
  v5 := Tryd.zeroValue5
  t9 := Tryd.underlying9
  a9 := Tryd.isAgg9
  z9 := Tryd.sizeOf9
  v9 := Tryd.zeroValue9
  t46 := Tryd.underlying88
  a46 := Tryd.isAgg88
  z46 := Tryd.sizeOf88
  v46 := Tryd.zeroValue88
  t51 := Tryd.underlying104
  a51 := Tryd.isAgg104
  z51 := Tryd.sizeOf104
  v51 := Tryd.zeroValue104
  t146 := Tryd.underlying105
  a146 := Tryd.isAgg105
  z146 := Tryd.sizeOf105
  v146 := Tryd.zeroValue105
  g1 := by kernel_rfl }
open Go.RowKit Go.Lib in
theorem Tryd.strings_Contains (s sub : ByteArray) (m : Int) (w : World) (hs : s.size < 4294967281) (hm : w.cell? ⟨2, 0, none⟩ = some (.int .i64 m)) :
    Calls Tryd.prog 51 #[.string s, .string sub] w fun e w' => e = .returned (.bool (Lib.contains s.data.toList sub.data.toList)) ∧ w' = w := Any.strings_Contains Tryd.lays144 s sub m w hs hm
def Tryd.lays206_ren : Go.Shelf.Ren := ⟨fun | 206 => 71 | n => n, fun | 9 => 9 | 4 => 4 | 3 => 3 | n => n, fun | n => n⟩
def Tryd.lays99_ren : Go.Shelf.Ren := ⟨fun | 99 => 52 | 206 => 71 | n => n, fun | 9 => 9 | 4 => 4 | 3 => 3 | n => n, fun | n => n⟩
theorem Tryd.lays99 : Go.Proofs.Lays.n99 Tryd.prog Tryd.lays99_ren := {
  mixed := by kernel_rfl
  f99 := Tryd.func52.trans (congrArg some (by kernel_rfl))
  f206 := Tryd.func71.trans (congrArg some (by kernel_rfl))
  t3 := Tryd.underlying3
  a3 := Tryd.isAgg3
  z3 := Tryd.sizeOf3
  v3 := Tryd.zeroValue3
  t4 := Tryd.underlying4
  a4 := Tryd.isAgg4
  z4 := Tryd.sizeOf4
  v4 := Tryd.zeroValue4
  t9 := Tryd.underlying9
  a9 := Tryd.isAgg9
  z9 := Tryd.sizeOf9
  v9 := Tryd.zeroValue9 }
open Go.RowKit Go.Lib in
theorem Tryd.strings_HasPrefix (s p : ByteArray) (w : World) :
    Calls Tryd.prog 52 #[.string s, .string p] w fun e w' => e = .returned (.bool (Lib.hasPrefix s.data.toList p.data.toList)) ∧ w' = w := Any.strings_HasPrefix Tryd.lays99 s p w
def Tryd.lays152_ren : Go.Shelf.Ren := ⟨fun | 152 => 85 | 137 => 95 | 119 => 96 | 224 => 97 | 225 => 98 | 217 => 99 | 266 => 103 | n => n, fun | 9 => 9 | 21 => 21 | 3 => 3 | 4 => 4 | 5 => 5 | 0 => 0 | 46 => 88 | n => n, fun | n => n⟩
theorem Tryd.lays152 : Go.Proofs.Lays.n152 Tryd.prog Tryd.lays152_ren := {
  mixed := by kernel_rfl
  f119 := Tryd.func96.trans (congrArg some (by kernel_rfl))
  f137 := Tryd.func95.trans (congrArg some (by kernel_rfl))
  f152 := Tryd.func85.trans (congrArg some (by kernel_rfl))
  f217 := Tryd.func99.trans (congrArg some (by kernel_rfl))
  f224 := Tryd.func97.trans (congrArg some (by kernel_rfl))
  f225 := Tryd.func98.trans (congrArg some (by kernel_rfl))
  f266 := Tryd.func103.trans (congrArg some (by kernel_rfl))
  t0 := Tryd.underlying0
  a0 := Tryd.isAgg0
  z0 := Tryd.sizeOf0
  v0 := Tryd.zeroValue0
  t3 := Tryd.underlying3
  a3 := Tryd.isAgg3
  z3 := Tryd.sizeOf3
  v3 := Tryd.zeroValue3
  t4 := Tryd.underlying4
  a4 := Tryd.isAgg4
  z4 := Tryd.sizeOf4
  v4 := Tryd.zeroValue4
  t5 := Tryd.underlying5
  a5 := Tryd.isAgg5
  z5 := Tryd.sizeOf5
  v5 := Tryd.zeroValue5
  t9 := Tryd.underlying9
  a9 := Tryd.isAgg9
  z9 := Tryd.sizeOf9
  v9 := Tryd.zeroValue9
  t21 := Tryd.underlying21
  a21 := Tryd.isAgg21
  z21 := Tryd.sizeOf21
  v21 := Tryd.zeroValue21
  t46 := Tryd.underlying88
  a46 := Tryd.isAgg88
  z46 := Tryd.sizeOf88
  v46 := Tryd.zeroValue88 }
open Go.RowKit Go.Lib in
theorem Tryd.strings_IndexRune_ascii (s : ByteArray) (r : Int) (w : World) (h0 : 0 ≤ r) (h1 : r < 128) :
    Calls Tryd.prog 85 #[.string s, .int .i32 r] w fun e w' => e = .returned (.int .i64 (Lib.indexByte s.data.toList r.toNat.toUInt8)) ∧ w' = w := Any.strings_IndexRune_ascii Tryd.lays152 s r w h0 h1
def Tryd.lays226_ren : Go.Shelf.Ren := ⟨fun | 226 => 86 | n => n, fun | 3 => 3 | 4 => 4 | n => n, fun | n => n⟩
theorem Tryd.lays226 : Go.Proofs.Lays.n226 Tryd.prog Tryd.lays226_ren := {
  mixed := by kernel_rfl
  f226 := Tryd.func86.trans (congrArg some (by kernel_rfl))
  t3 := Tryd.underlying3
  a3 := Tryd.isAgg3
  z3 := Tryd.sizeOf3
  v3 := Tryd.zeroValue3
  t4 := Tryd.underlying4
  a4 := Tryd.isAgg4
  z4 := Tryd.sizeOf4
  v4 := Tryd.zeroValue4 }
open Go.RowKit Go.Lib in
theorem Tryd.strings_shouldUseASCIISet (n : Int) (w : World) :
    Calls Tryd.prog 86 #[.int .i64 n] w fun e w' => e = .returned (.bool (decide (8 < n))) ∧ w' = w := Any.strings_shouldUseASCIISet Tryd.lays226 n w
def Tryd.lays153_ren : Go.Shelf.Ren := ⟨fun | 153 => 69 | 152 => 85 | 226 => 86 | 227 => 87 | 228 => 88 | 137 => 95 | 119 => 96 | 224 => 97 | 225 => 98 | 217 => 99 | 266 => 103 | n => n, fun | 9 => 9 | 3 => 3 | 4 => 4 | 5 => 5 | 21 => 21 | 117 => 92 | 116 => 91 | 0 => 0 | 46 => 88 | 124 => 101 | n => n, fun | n => n⟩
theorem Tryd.lays153 : Go.Proofs.Lays.n153 Tryd.prog Tryd.lays153_ren := {
  mixed := by kernel_rfl
  f119 := Tryd.func96.trans (congrArg some (by kernel_rfl))
  f137 := Tryd.func95.trans (congrArg some (by kernel_rfl))
  f152 := Tryd.func85.trans (congrArg some (by kernel_rfl))
  f153 := Tryd.func69.trans (congrArg some (by kernel_rfl))
  f217 := Tryd.func99.trans (congrArg some (by kernel_rfl))
  f224 := Tryd.func97.trans (congrArg some (by kernel_rfl))
  f225 := Tryd.func98.trans (congrArg some (by kernel_rfl))
  f226 := Tryd.func86.trans (congrArg some (by kernel_rfl))
  f227 := Tryd.func87.trans (congrArg some (by kernel_rfl))
  f228 := Tryd.func88.trans (congrArg some (by kernel_rfl))
  f266 := Tryd.func103.trans (congrArg some (by kernel_rfl))
  t0 := Tryd.underlying0
  a0 := Tryd.isAgg0
  z0 := Tryd.sizeOf0
  v0 := Tryd.zeroValue0
  t3 := Tryd.underlying3
  a3 := Tryd.isAgg3
  z3 := Tryd.sizeOf3
  v3 := Tryd.zeroValue3
  t4 := Tryd.underlying4
  a4 := Tryd.isAgg4
  z4 := Tryd.sizeOf4
  v4 := Tryd.zeroValue4
  t5 := Tryd.underlying5
  a5 := Tryd.isAgg5
  z5 := Tryd.sizeOf5
  v5 := Tryd.zeroValue5
  t9 := Tryd.underlying9
  a9 := Tryd.isAgg9
  z9 := Tryd.sizeOf9
  v9 := Tryd.zeroValue9
  t21 := Tryd.underlying21
  a21 := Tryd.isAgg21
  z21 := Tryd.sizeOf21
  v21 := Tryd.zeroValue21
  t46 := Tryd.underlying88
  a46 := Tryd.isAgg88
  z46 := Tryd.sizeOf88
  v46 := Tryd.zeroValue88
  t116 := Tryd.underlying91
  a116 := Tryd.isAgg91
  z116 := Tryd.sizeOf91
  t117 := Tryd.underlying92
  a117 := Tryd.isAgg92
  z117 := Tryd.sizeOf92
  v117 := Tryd.zeroValue92
  t124 := Tryd.underlying101
  a124 := Tryd.isAgg101
  z124 := Tryd.sizeOf101
  v124 := Tryd.zeroValue101 }
open Go.RowKit Go.Lib in
theorem Tryd.strings_IndexAny_long (hv116 : ∀ w, (zeroValue 91).run Tryd.prog w = .ok (.agg (Array.replicate 256 (.bool false))) w) (s chars : ByteArray) (w : World) (h2 : 2 ≤ chars.size) (h8 : 8 < s.size) (hs : s.size < 4294967281) (hcs : chars.size < 4294967281) (hascii : ∀ (j : Nat) b, chars.data.toList[j]? = some b → b.toNat < 128) :
    Calls Tryd.prog 69 #[.string s, .string chars] w fun e w' => e = .returned (.int .i64 (Lib.indexAny s.data.toList chars.data.toList)) ∧ w' = ((w.alloc (.cells (Lib.setCells chars.data.toList) 91)).alloc (.cells (Lib.setCells chars.data.toList) 91)) := Any.strings_IndexAny_long Tryd.lays153 hv116 (by kernel_rfl) s chars w h2 h8 hs hcs hascii
def Tryd.lays196_ren : Go.Shelf.Ren := ⟨fun | 196 => 68 | 259 => 84 | n => n, fun | 9 => 9 | 4 => 4 | 3 => 3 | 5 => 5 | 12 => 12 | 119 => 84 | 0 => 0 | 46 => 88 | 139 => 87 | 138 => 86 | 53 => 97 | n => n, fun | 3 => 0 | 4 => 1 | n => n⟩
theorem Tryd.lays196 : Go.Proofs.Lays.n196 Tryd.prog Tryd.lays196_ren := {
  mixed := by kernel_rfl
  f196 := Tryd.func68.trans (congrArg some (by kernel_rfl))
  f259 := Tryd.func84.trans (congrArg some (by kernel_rfl))
  t0 := Tryd.underlying0
  a0 := Tryd.isAgg0
  z0 := Tryd.sizeOf0
  v0 := Tryd.zeroValue0
  t3 := Tryd.underlying3
  a3 := Tryd.isAgg3
  z3 := Tryd.sizeOf3
  v3 := Tryd.zeroValue3
  t4 := Tryd.underlying4
  a4 := Tryd.isAgg4
  z4 := Tryd.sizeOf4
  v4 := Tryd.zeroValue4
  t5 := Tryd.underlying5
  a5 := Tryd.isAgg5
  z5 := Tryd.sizeOf5
  v5 := Tryd.zeroValue5
  t9 := Tryd.underlying9
  a9 := Tryd.isAgg9
  z9 := Tryd.sizeOf9
  v9 := Tryd.zeroValue9
  t12 := Tryd.underlying12
  a12 := Tryd.isAgg12
  z12 := Tryd.sizeOf12
  v12 := Tryd.zeroValue12
  t46 := Tryd.underlying88
  a46 := Tryd.isAgg88
  z46 := Tryd.sizeOf88
  v46 := Tryd.zeroValue88
  t53 := Tryd.underlying97
  a53 := Tryd.isAgg97
  z53 := Tryd.sizeOf97
  v53 := Tryd.zeroValue97
  t119 := Tryd.underlying84
  a119 := Tryd.isAgg84
  z119 := Tryd.sizeOf84
  t138 := Tryd.underlying86
  a138 := Tryd.isAgg86
  z138 := Tryd.sizeOf86
  v138 := Tryd.zeroValue86
  t139 := Tryd.underlying87
  a139 := Tryd.isAgg87
  z139 := Tryd.sizeOf87
  v139 := Tryd.zeroValue87
  g3 := by kernel_rfl
  g4 := by kernel_rfl }
end Go.Proofs
end
section
namespace Go.Proofs.YtpnhjipaeggcpaaDoor.X
open Go.ChangeShapes Go.WideShapes Go.Deep Go.RowKit Go.Shelf
open Go.Proofs.YtpnhjipaeggcpaaDoorW.PrintWords Go.Proofs.YtpnhjipaeggcpaaDoorW.PrintLast Go.Proofs.YtpnhjipaeggcpaaDoorW.PrintMore
abbrev RowR := S35
abbrev AttR := S41
instance : Inhabited AttR := ⟨z41⟩
instance : Inhabited RowR := ⟨z35⟩
section
variable {H : Type} {enc : TypeId × Value → H} {P : Program} {w : World} {base : Nat} {spare : Nat → Bool} {held : Bool}
theorem bulk_one {l : List (DataW H)} {d : DataW H} (h : d ∈ l) : Rows.uptoBulk d ≤ Rows.uptoBulkAll l := by
  induction l with
  | nil => cases h
  | cons x r ih =>
    simp only [Rows.uptoBulkAll]
    rcases List.mem_cons.1 h with rfl | h
    · omega
    · have := ih h; omega
theorem open_slice_fields {t e : TypeId} {fs : Array Field} {fuel : Nat} {cs : List Value} {x : DataW H × List MemPlace} (ht : P.underlying t = some (.slice e)) (he : P.underlying e = some (.struct fs))
    (hone : oneCellFields P fs = true) (hC : P.cellsOf e = fs.size) (h : DataW.trod enc P w base spare held fuel t cs = some x) :
    (cs = [.slice none 0 0] ∧ x = (.nil, [])) ∨
    ∃ (a : Addr) (len cap : Nat) (D : Nat → DataW H), cs = [.slice (some a) len cap] ∧ len ≤ cap ∧ cap ≤ maxLen ∧ (∀ i, i < len → Rows.uptoBulk (D i) ≤ Rows.uptoBulk x.1) ∧
      ∀ i, i < len → ∃ (ys : List (DataW H × List MemPlace)) (n : Nat), D i = .agg (ys.map (·.1)) ∧ ys.length = fs.size ∧
        ∀ (j : Nat) (f : Field), fs[j]? = some f → ∃ (v : Value) (y : DataW H × List MemPlace), w.cell? (a.add (i * fs.size + j)) = some v ∧ ys[j]? = some y ∧ DataW.trod enc P w base spare held n f.type [v] = some y := by
  rcases open_slice ht h with h0 | ⟨a, len, cap, m, n, D, Pl, hcs, hb, hl, hm, hmm, hx, hi⟩
  · exact .inl h0
  · refine .inr ⟨a, len, cap, D, hcs, hl, hm, fun i hil => ?_, fun i hil => ?_⟩
    · rw [hx]
      show _ ≤ Rows.uptoBulk (.slice ((List.range len).map D) _)
      simp only [Rows.uptoBulk]
      have := bulk_one (H := H) (l := (List.range len).map D) (d := D i) (List.mem_map.2 ⟨i, List.mem_range.2 hil, rfl⟩)
      omega
    have him : i < m := by rw [hmm]; split <;> omega
    obtain ⟨cs', hc, ht'⟩ := hi i him
    rw [hC] at hc
    obtain ⟨ys, n', hn', hy, hlen, hyl, hf⟩ := DataW.trod_struct he ht'
    obtain ⟨_, hcl, hat⟩ := World.cells?_some hc
    simp only [Prod.mk.injEq] at hy
    refine ⟨ys, n', hy.1, hyl, fun j f hj => ?_⟩
    obtain ⟨ho, hk⟩ := hone_of hone j f hj
    have hjl : j < fs.size := (Array.getElem?_eq_some_iff.1 hj).1
    have hcell := hat j hjl
    have hv : cs'[j]? = some (cs'[j]'(by omega)) := List.getElem?_eq_getElem (by omega)
    have h1 := hf j f hj
    rw [ho, hk] at h1
    have hone' : (cs'.drop j).take 1 = [cs'[j]'(by omega)] := by
      rw [List.drop_eq_getElem_cons (by omega)]
      rfl
    rw [hone'] at h1
    have hys : ys[j]? = some (ys[j]'(by omega)) := List.getElem?_eq_getElem (by omega)
    refine ⟨_, _, ?_, hys, h1.trans hys⟩
    rw [← Go.Deep.add_add, hcell, hv]
end
section
variable {H : Type} {enc : TypeId × Value → H} {W : World} {base : Nat} {spare : Nat → Bool} {held : Bool}
theorem bulk_agg {ys : List (DataW H × List MemPlace)} {j : Nat} {y : DataW H × List MemPlace} (h : ys[j]? = some y) : Rows.uptoBulk y.1 ≤ Rows.uptoBulk (.agg (ys.map (·.1))) := by
  simp only [Rows.uptoBulk]
  have := bulk_one (H := H) (l := ys.map (·.1)) (d := y.1) (List.mem_map.2 ⟨y, List.mem_of_getElem? h, rfl⟩)
  omega
theorem open_str {fuel : Nat} {v : Value} {y : DataW H × List MemPlace} (h : DataW.trod enc Tryd.prog W base spare held fuel 9 [v] = some y) : ∃ s : ByteArray, v = .string s ∧ s.size ≤ Rows.uptoBulk y.1 := by
  obtain ⟨s, e, rfl, _⟩ := DataW.trod_string Tryd.underlying9 h
  refine ⟨s, by simpa using e, ?_⟩
  simp only [Rows.uptoBulk]
  have : s.data.toList.length = s.size := Array.length_toList
  omega
theorem at_range {α : Type} {f : Nat → α} {n j : Nat} {p : α} (h : ((List.range n).map f)[j]? = some p) : j < n ∧ p = f j := by
  rw [List.getElem?_map] at h
  obtain ⟨i, hi, rfl⟩ := Option.map_eq_some_iff.1 h
  obtain ⟨h1, h2⟩ := List.getElem?_eq_some_iff.1 hi
  rw [List.length_range] at h1
  rw [List.getElem_range] at h2
  exact ⟨h1, by rw [h2]⟩
theorem open_attrs {fuel : Nat} {v : Value} {y : DataW H × List MemPlace} (h : DataW.trod enc Tryd.prog W base spare held fuel 33 [v] = some y) :
    ∃ (A : Option Addr) (c : Nat) (l : List AttR), v = .slice A l.length c ∧ l.length ≤ c ∧ Kd.C k41 W A l.length l ∧ ∀ a ∈ l, a.f0.size ≤ Rows.uptoBulk y.1 ∧ a.f1.size ≤ Rows.uptoBulk y.1 := by
  rcases open_slice_fields Tryd.underlying33 Tryd.underlying41 (by kernel_rfl) (by kernel_rfl) h with ⟨e, _⟩ | ⟨a, len, cap, D, e, hl, hm, hb, hi⟩
  · obtain rfl : v = .slice none 0 0 := by simpa using e
    exact ⟨none, 0, [], rfl, Nat.le_refl _, ⟨rfl, by decide, fun h => absurd h (by simp)⟩, fun a ha => by cases ha⟩
  · obtain rfl : v = .slice (some a) len cap := by simpa using e
    have hx : ∀ i, i < len → ∃ x : AttR, W.cell? (a.add (i * 2 + 0)) = some (.string x.f0) ∧ W.cell? (a.add (i * 2 + 1)) = some (.string x.f1) ∧ x.f0.size ≤ Rows.uptoBulk y.1 ∧ x.f1.size ≤ Rows.uptoBulk y.1 := fun i hil => by
      obtain ⟨ys, n, hD, hyl, hf⟩ := hi i hil
      have hbi := hb i hil
      rw [hD] at hbi
      obtain ⟨v0, y0, c0, e0, t0⟩ := hf 0 _ rfl
      obtain ⟨v1, y1, c1, e1, t1⟩ := hf 1 _ rfl
      obtain ⟨s0, rfl, z0⟩ := open_str t0
      obtain ⟨s1, rfl, z1⟩ := open_str t1
      have b0 := bulk_agg e0
      have b1 := bulk_agg e1
      exact ⟨⟨s0, s1⟩, c0, c1, by show s0.size ≤ _; omega, by show s1.size ≤ _; omega⟩
    obtain ⟨f, hf⟩ := choose_lt hx
    have hlen : ((List.range len).map f).length = len := by simp
    refine ⟨some a, cap, (List.range len).map f, by rw [hlen], by rw [hlen]; exact hl, ⟨rfl, by rw [hlen]; unfold maxLen at hm; omega, fun _ => ⟨a, rfl, fun j p hj => ?_⟩⟩, fun x hx => ?_⟩
    · obtain ⟨h1, rfl⟩ := at_range hj
      obtain ⟨c0, c1, _, _⟩ := hf j h1
      refine ⟨[.string (f j).f0, .string (f j).f1], rfl, k41_mk _ _, fun i u hu => ?_⟩
      match i, hu with
      | 0, hu => cases hu; exact c0
      | 1, hu => cases hu; exact c1
    · obtain ⟨i, hi', rfl⟩ := List.mem_map.1 hx
      exact (hf i (List.mem_range.1 hi')).2.2
theorem open_rows {fuel : Nat} {v : Value} {y : DataW H × List MemPlace} (h : DataW.trod enc Tryd.prog W base spare held fuel 22 [v] = some y) :
    ∃ (A : Option Addr) (c : Nat) (l : List RowR), v = .slice A l.length c ∧ l.length ≤ c ∧ Kd.C k35 W A l.length l ∧
      ∀ x ∈ l, x.f2.size ≤ Rows.uptoBulk y.1 ∧ x.f3.size ≤ Rows.uptoBulk y.1 ∧ ∀ a ∈ x.f4, a.f0.size ≤ Rows.uptoBulk y.1 ∧ a.f1.size ≤ Rows.uptoBulk y.1 := by
  rcases open_slice_fields Tryd.underlying22 Tryd.underlying35 (by kernel_rfl) (by kernel_rfl) h with ⟨e, _⟩ | ⟨a, len, cap, D, e, hl, hm, hb, hi⟩
  · obtain rfl : v = .slice none 0 0 := by simpa using e
    exact ⟨none, 0, [], rfl, Nat.le_refl _, ⟨rfl, by decide, fun h => absurd h (by simp)⟩, fun a ha => by cases ha⟩
  · obtain rfl : v = .slice (some a) len cap := by simpa using e
    have hx : ∀ i, i < len → ∃ x : RowR, (∃ A4 c4, W.cell? (a.add (i * 5 + 0)) = some (.int .i64 x.f0) ∧ W.cell? (a.add (i * 5 + 1)) = some (.int .i64 x.f1) ∧ W.cell? (a.add (i * 5 + 2)) = some (.string x.f2) ∧ W.cell? (a.add (i * 5 + 3)) = some (.string x.f3) ∧ W.cell? (a.add (i * 5 + 4)) = some (.slice A4 x.f4.length c4) ∧ x.f4.length ≤ c4 ∧ Kd.C k41 W A4 x.f4.length x.f4) ∧
        x.f2.size ≤ Rows.uptoBulk y.1 ∧ x.f3.size ≤ Rows.uptoBulk y.1 ∧ ∀ a ∈ x.f4, a.f0.size ≤ Rows.uptoBulk y.1 ∧ a.f1.size ≤ Rows.uptoBulk y.1 := fun i hil => by
      obtain ⟨ys, n, hD, hyl, hf⟩ := hi i hil
      have hbi := hb i hil
      rw [hD] at hbi
      obtain ⟨v0, y0, c0, e0, t0⟩ := hf 0 _ rfl
      obtain ⟨v1, y1, c1, e1, t1⟩ := hf 1 _ rfl
      obtain ⟨v2, y2, c2, e2, t2⟩ := hf 2 _ rfl
      obtain ⟨v3, y3, c3, e3, t3⟩ := hf 3 _ rfl
      obtain ⟨v4, y4, c4, e4, t4⟩ := hf 4 _ rfl
      obtain ⟨n0, f0, _, _⟩ := DataW.trod_int Tryd.underlying3 t0
      obtain ⟨n1, f1, _, _⟩ := DataW.trod_int Tryd.underlying3 t1
      obtain rfl : v0 = .int .i64 n0 := by simpa using f0
      obtain rfl : v1 = .int .i64 n1 := by simpa using f1
      obtain ⟨s2, rfl, z2⟩ := open_str t2
      obtain ⟨s3, rfl, z3⟩ := open_str t3
      obtain ⟨A4, cc, l4, rfl, hl4, hC4, hs4⟩ := open_attrs t4
      have b2 := bulk_agg e2
      have b3 := bulk_agg e3
      have b4 := bulk_agg e4
      exact ⟨⟨n0, n1, s2, s3, l4⟩, ⟨A4, cc, c0, c1, c2, c3, c4, hl4, hC4⟩, by show s2.size ≤ _; omega, by show s3.size ≤ _; omega, fun a ha => by have := hs4 a ha; omega⟩
    obtain ⟨f, hf⟩ := choose_lt hx
    have hlen : ((List.range len).map f).length = len := by simp
    refine ⟨some a, cap, (List.range len).map f, by rw [hlen], by rw [hlen]; exact hl, ⟨rfl, by rw [hlen]; unfold maxLen at hm; omega, fun _ => ⟨a, rfl, fun j p hj => ?_⟩⟩, fun x hx => ?_⟩
    · obtain ⟨h1, rfl⟩ := at_range hj
      obtain ⟨⟨A4, cc, c0, c1, c2, c3, c4, hl4, hC4⟩, _⟩ := hf j h1
      refine ⟨[.int .i64 (f j).f0, .int .i64 (f j).f1, .string (f j).f2, .string (f j).f3, .slice A4 (f j).f4.length cc], rfl, k35_mk _ _ hl4 hC4, fun i u hu => ?_⟩
      match i, hu with
      | 0, hu => cases hu; exact c0
      | 1, hu => cases hu; exact c1
      | 2, hu => cases hu; exact c2
      | 3, hu => cases hu; exact c3
      | 4, hu => cases hu; exact c4
    · obtain ⟨i, hi', rfl⟩ := List.mem_map.1 hx
      exact (hf i (List.mem_range.1 hi')).2
end
theorem own : ownKnob Tryd.prog.godebug = none := by kernel_rfl
theorem laidOut : laidOutB Tryd.prog = true := by kernel_rfl
theorem first_is : Rows.laid_unicode_utf8_first = Lib.firstData := by kernel_rfl
theorem accept_is : Rows.laid_unicode_utf8_acceptRanges (H := Unit) = Lib.acceptData := by kernel_rfl
theorem wf_of {W : World} (h : laidMetH Tryd.prog [("unicode/utf8.acceptRanges", Rows.laid_unicode_utf8_acceptRanges), ("unicode/utf8.first", Rows.laid_unicode_utf8_first)] W) (hs : W.ShapedOpen Tryd.prog) : WF W := by
  have h1 := Lib.laidMet.reads h (.tail _ (.head _))
  have h2 := Lib.laidMet.reads h (.head _)
  rw [first_is] at h1
  rw [accept_is] at h2
  exact ⟨utf8Tabs_of_readsT (U8Types.of196 Tryd.lays196) ⟨by kernel_rfl, by kernel_rfl, by kernel_rfl, by kernel_rfl, by kernel_rfl, by kernel_rfl, by kernel_rfl⟩ h1 h2,
    Go.Proofs.cell_of_shapedOpen_int (zero := #[.int .i64 0]) (t := 3) hs (of_decide_eq_true (by kernel_rfl)) (by kernel_rfl) rfl (by kernel_rfl) (by kernel_rfl) Tryd.underlying3⟩
noncomputable def laidWorld (os : Os) : World :=
  let w0 := World.holding Tryd.prog os ⟨#[], #[], []⟩
  let put (h : Array Obj) (g : Nat) (cs : Array Value) : Array Obj := h.modify g fun
    | .cells _ t frozen => .cells cs t frozen
    | o => o
  let h1 := put w0.heap 0 (Lib.firstTab.map fun z => Value.int .u8 z).toArray
  let h2 := put h1 1 ((List.range 16).flatMap fun i => [Value.int .u8 (Lib.accLo i), Value.int .u8 (Lib.accHi i)]).toArray
  { w0 with heap := h2 }
theorem laid_met (os : Os) (args : Array Value) : laidMet Tryd.prog [("unicode/utf8.acceptRanges", Rows.laid_unicode_utf8_acceptRanges), ("unicode/utf8.first", Rows.laid_unicode_utf8_first)] ((laidWorld os).forCall (fun _ _ => 0) ⟨#[], args, []⟩).memory :=
  (LaidIn.of_run (l := [("unicode/utf8.acceptRanges", Rows.laid_unicode_utf8_acceptRanges), ("unicode/utf8.first", Rows.laid_unicode_utf8_first)]) [1, 0] 8 (by kernel_rfl) (by kernel_rfl) (by kernel_rfl) (by kernel_rfl)).met
end Go.Proofs.YtpnhjipaeggcpaaDoor.X
end
section
namespace Go.Proofs.YtpnhjipaeggcpaaDoor.X
open Go.RowKit
theorem bld_size : (Tryd.prog.info? 54).map (·.size) = some 2 := by kernel_rfl
theorem bld_lies : liesAt Tryd.prog Tryd.prog.depth 54 (2 / Tryd.prog.cellsOf 54) 0 54 1 = true := by kernel_rfl
theorem bld_byte : (Tryd.prog.info? 5).map (fun i => (i.zero, i.size, i.bytes)) = some (some (.int .u8 0), 1, 1) := by kernel_rfl
theorem bld_noescape : Tryd.prog.funcs[81]? = some Tryd.f81 := Tryd.func81
set_option maxHeartbeats 1000000 in
set_option maxRecDepth 100000 in
theorem copyCheck_used (b : Nat) (w : World) (h0 : w.cell? ⟨b, 0, none⟩ = some (.pointer (some ⟨b, 0, none⟩))) :
    Calls Tryd.prog 61 #[.pointer (some ⟨b, 0, none⟩)] w fun e w' => e = .returned (.tuple #[]) ∧ w' = w := by
  obtain ⟨j, hj, _⟩ := Option.map_eq_some_iff.1 bld_size
  go_enter Tryd.func61, Tryd.ntmps61
  go_wp2
  rw [Lib.run_neq_ptr_same w _ Tryd.underlying51 hj]
  go_wp2
  go_end0
  exact ⟨rfl, rfl⟩
set_option maxHeartbeats 1000000 in
set_option maxRecDepth 100000 in
theorem copyCheck_fresh (b : Nat) (w : World) (h0 : w.cell? ⟨b, 0, none⟩ = some (.pointer none)) (hsh : w.shape? b = some (54, 2)) (hfz : w.frozen? ⟨b, 0, none⟩ = false) :
    Calls Tryd.prog 61 #[.pointer (some ⟨b, 0, none⟩)] w fun e w' => e = .returned (.tuple #[]) ∧ w' = w.setCell ⟨b, 0, none⟩ (.pointer (some ⟨b, 0, none⟩)) := by
  obtain ⟨j, hj, hjs⟩ := Option.map_eq_some_iff.1 bld_size
  go_enter Tryd.func61, Tryd.ntmps61
  go_wp2
  rw [Lib.run_to_unsafe w ⟨b, 0, none⟩ Tryd.underlying51 Tryd.underlying79 hj (by rw [hjs]; decide) hsh (Nat.zero_lt_succ 1)]
  simp only [Result.andThen]
  rw [Oper.upon_value]
  go_wp2
  rw [run_callFunc_extern bld_noescape (by kernel_rfl) (by kernel_rfl) (by kernel_rfl) (e := Extern.AbiNoEscape.same) (by kernel_rfl)]
  rw [Lib.run_noEscape]
  simp only [Result.andThen]
  rw [Oper.upon_value]
  go_wp2
  rw [Lib.run_from_unsafe w ⟨b, 0, none⟩ Tryd.underlying79 Tryd.underlying51 hj hsh bld_lies]
  simp only [Result.andThen]
  rw [Oper.upon_value]
  go_wp2
  go_end0
  exact ⟨rfl, rfl⟩
def Bld (B b : Nat) (bs : List Value) (w : World) : Prop := Lib.IsBuilder 54 5 B b bs w
theorem Bld.used {B b : Nat} {bs : List Value} {w : World} (h : Lib.BuilderAt 54 5 B b (.pointer (some ⟨b, 0, none⟩)) bs w) : Bld B b bs w := .inr h
theorem copyCheck_any (B b : Nat) (bs : List Value) (w : World) (h : Bld B b bs w) :
    Calls Tryd.prog 61 #[.pointer (some ⟨b, 0, none⟩)] w fun e w' => e = .returned (.tuple #[]) ∧ (Lib.BuilderAt 54 5 B b (.pointer (some ⟨b, 0, none⟩)) bs w' ∧ Below B w w') := by
  rcases h with h | h
  · refine (copyCheck_fresh b w h.cell0 h.shape h.frozen0).mono ?_
    rintro e w' ⟨rfl, rfl⟩
    exact ⟨rfl, h.used _, (Below.refl B w).setCell (p := ⟨b, 0, none⟩) h.1 _⟩
  · refine (copyCheck_used b w h.cell0).mono ?_
    rintro e w' ⟨rfl, rfl⟩
    exact ⟨rfl, h, Below.refl B _⟩
set_option maxHeartbeats 2000000 in
set_option maxRecDepth 100000 in
theorem writeByte_any (B b : Nat) (bs : List Value) (c : Int) (w : World) (h : Bld B b bs w) (hlen : bs.length + 1 ≤ 140737488355328) (hBw : B ≤ w.heap.size) :
    Calls Tryd.prog 82 #[.pointer (some ⟨b, 0, none⟩), .int .u8 c] w fun e w' => e = .returned .nilIface ∧ (Bld B b (bs ++ [.int .u8 c]) w' ∧ Below B w w') := by
  obtain ⟨i0, hi, hz0, hz1, hz2⟩ := info_parts bld_byte
  have u72 := Tryd.underlying54
  go_enter Tryd.func82, Tryd.ntmps82
  go_wp2_with (go_at_call 61; refine (copyCheck_any B b bs _ h).mono ?_)
  rintro e w1 ⟨rfl, h1, hb1⟩
  obtain ⟨hB, v, hbk, hown, hne⟩ := h1
  have c0 : w1.cell? ⟨b, 0, none⟩ = some (.pointer (some ⟨b, 0, none⟩)) := by rw [Lib.cell_of_heap hbk]; rfl
  have c1 : w1.cell? ⟨b, 1, none⟩ = some v := by rw [Lib.cell_of_heap hbk]; rfl
  go_wp2_with (at_builtin; refine wpList_append_own _ rfl _ _ 52 rfl B 5 i0 (.int .u8 0) 1 1 Tryd.underlying52 hi hz0 hz1 hz2 rfl (by decide) _ _ _ rfl (hown.alloc _) ⟨w1.heap.size, 0, none⟩ 1 1 [.int .u8 c] rfl rfl ?c1 ?c2 ?c3 ?c4 ?c5 ?_)
  case c1 =>
    intro j u hj
    match j, hj with
    | 0, hj => simp at hj; subst hj; simp [Addr.add]
  case c2 => intro u hu; simp at hu; subst hu; rfl
  case c3 => unfold maxLen; omega
  case c4 => omega
  case c5 => have := hb1.size; simp; omega
  intro v' w2 hown' hgrow _
  have hlt : b < w1.heap.size := (Array.getElem?_eq_some_iff.1 hbk).1
  have hb2 : w2.heap[b]? = some (.cells #[.pointer (some ⟨b, 0, none⟩), v] 54 (0, 0)) := by
    rw [hgrow.block b (by simp; omega) (fun e => hne e.symm), Lib.alloc_old w1 _ b hlt]
    exact hbk
  have d0 : w2.cell? ⟨b, 0, none⟩ = some (.pointer (some ⟨b, 0, none⟩)) := by rw [Lib.cell_of_heap hb2]; rfl
  have d1 : w2.cell? ⟨b, 1, none⟩ = some v := by rw [Lib.cell_of_heap hb2]; rfl
  have f1 : w2.frozen? ⟨b, 1, none⟩ = false := Lib.frozen_of_heap hb2 1
  obtain ⟨g, cap, rfl⟩ : ∃ g cap, v' = .slice (some ⟨g, 0, none⟩) (bs.length + 1) cap := by
    rcases hown'.2 with ⟨_, h0⟩ | ⟨g, cap, cur, hv, _⟩
    · omega
    · exact ⟨g, cap, hv⟩
  go_wp2
  go_ret
  refine ⟨rfl, Bld.used ?_, ?_⟩
  · exact Lib.BuilderAt.put (T := 54) (e := 5) hB hb2 (bs' := bs ++ [.int .u8 c]) (by simpa using hown') (by decide)
  · exact ((hb1.alloc (by have := hb1.size; omega) _).grown hgrow (by have := hb1.size; simp; omega) (fun k hk => (hown.lt k hk).1)).setCell (p := ⟨b, 1, none⟩) hB _
set_option maxHeartbeats 2000000 in
set_option maxRecDepth 100000 in
theorem writeString_any (B b : Nat) (bs : List Value) (s : ByteArray) (w : World) (h : Bld B b bs w) (hlen : bs.length + s.size ≤ 140737488355328) (hBw : B ≤ w.heap.size) :
    Calls Tryd.prog 37 #[.pointer (some ⟨b, 0, none⟩), .string s] w fun e w' => e = .returned (.tuple #[.int .i64 s.size, .nilIface]) ∧ (Bld B b (bs ++ Lib.strCells s) w' ∧ Below B w w') := by
  obtain ⟨i0, hi, hz0, hz1, hz2⟩ := info_parts bld_byte
  have u72 := Tryd.underlying54
  go_enter Tryd.func37, Tryd.ntmps37
  go_wp2_with (go_at_call 61; refine (copyCheck_any B b bs _ h).mono ?_)
  rintro e w1 ⟨rfl, h1, hb1⟩
  obtain ⟨hB, v, hbk, hown, hne⟩ := h1
  have c0 : w1.cell? ⟨b, 0, none⟩ = some (.pointer (some ⟨b, 0, none⟩)) := by rw [Lib.cell_of_heap hbk]; rfl
  have c1 : w1.cell? ⟨b, 1, none⟩ = some v := by rw [Lib.cell_of_heap hbk]; rfl
  go_wp2_with (at_builtin; refine Lib.wpList_append_own_string _ rfl _ _ 52 9 rfl B 5 i0 Tryd.underlying52 Tryd.underlying9 hi hz0 hz1 hz2 _ _ _ rfl hown s rfl ?c3 ?c4 ?c5 ?_)
  case c3 => unfold maxLen; omega
  case c4 => omega
  case c5 => have := hb1.size; omega
  intro v' w2 hown' hgrow _
  have hlt : b < w1.heap.size := (Array.getElem?_eq_some_iff.1 hbk).1
  have hb2 : w2.heap[b]? = some (.cells #[.pointer (some ⟨b, 0, none⟩), v] 54 (0, 0)) := by
    rw [hgrow.block b hlt (fun e => hne e.symm)]
    exact hbk
  have d0 : w2.cell? ⟨b, 0, none⟩ = some (.pointer (some ⟨b, 0, none⟩)) := by rw [Lib.cell_of_heap hb2]; rfl
  have d1 : w2.cell? ⟨b, 1, none⟩ = some v := by rw [Lib.cell_of_heap hb2]; rfl
  have f1 : w2.frozen? ⟨b, 1, none⟩ = false := Lib.frozen_of_heap hb2 1
  obtain ⟨ao, n', cap, rfl⟩ : ∃ ao n' cap, v' = .slice ao n' cap := by
    rcases hown'.2 with ⟨hv, _⟩ | ⟨g, cap, cur, hv, _⟩
    · exact ⟨_, _, _, hv⟩
    · exact ⟨_, _, _, hv⟩
  go_wp2
  go_ret2
  refine ⟨rfl, Bld.used ?_, ?_⟩
  · exact Lib.BuilderAt.put (T := 54) (e := 5) hB hb2 (bs' := bs ++ Lib.strCells s) (by simpa [Lib.strCells_length] using hown') (by decide)
  · exact (hb1.grown hgrow (by have := hb1.size; omega) (fun k hk => (hown.lt k hk).1)).setCell (p := ⟨b, 1, none⟩) hB _
theorem string_any (B b : Nat) (l : List UInt8) (w : World) (h : Bld B b (Lib.byteCells l) w) (hBw : B ≤ w.heap.size) :
    Calls Tryd.prog 41 #[.pointer (some ⟨b, 0, none⟩)] w fun e w' => e = .returned (.string ⟨l.toArray⟩) ∧ Below B w w' := Tryd.Builder_String_any B b l w h hBw
theorem Bld.new (w : World) : Bld w.heap.size w.heap.size [] (w.alloc (.cells #[.pointer none, .slice none 0 0] 54)) :=
  .inl ⟨Nat.le_refl _, _, World.alloc_heap_new w _, ⟨rfl, .inl ⟨rfl, rfl⟩⟩, by simp [Value.ownBlock]⟩
end Go.Proofs.YtpnhjipaeggcpaaDoor.X
end
section
namespace Go.Proofs.YtpnhjipaeggcpaaDoor.X
open Go.RowKit Go.Proofs.YtpnhjipaeggcpaaDoorW.PrintWords Go.Proofs.YtpnhjipaeggcpaaDoorW.PrintLast Go.Proofs.YtpnhjipaeggcpaaDoorW.PrintMore
def esc (quote : Bool) (c : UInt8) : List UInt8 :=
  if c = 38 then [38, 97, 109, 112, 59] else if c = 60 then [38, 108, 116, 59] else if c = 62 then [38, 103, 116, 59] else if c = 34 ∧ quote = true then [38, 113, 117, 111, 116, 59] else [c]
def escAll (quote : Bool) : List UInt8 → List UInt8
  | [] => []
  | 194 :: 160 :: r => [38, 110, 98, 115, 112, 59] ++ escAll quote r
  | c :: r => esc quote c ++ escAll quote r
def refs_written.f (a0 : ByteArray) (a1 : Bool) : Option ByteArray := if 6 * a0.size ≤ 140737488355328 then some ⟨(escAll a1 a0.data.toList).toArray⟩ else none
theorem escAll_nbsp (q : Bool) (r : List UInt8) : escAll q (194 :: 160 :: r) = [38, 110, 98, 115, 112, 59] ++ escAll q r := by simp [escAll]
theorem escAll_cons (q : Bool) (c : UInt8) (r : List UInt8) (h : ¬ (c = 194 ∧ ∃ t, r = 160 :: t)) : escAll q (c :: r) = esc q c ++ escAll q r := by
  rw [escAll]
  rintro r' rfl rfl
  exact h ⟨rfl, r', rfl⟩
theorem esc_length (q : Bool) (c : UInt8) : (esc q c).length ≤ 6 := by unfold esc; (repeat' split) <;> simp
theorem byteCells_app (a b : List UInt8) : Lib.byteCells (a ++ b) = Lib.byteCells a ++ Lib.byteCells b := by simp [Lib.byteCells]
def RefsAt (a0 : ByteArray) (q : Bool) (B b : Nat) (w : World) (k : Nat) (wr : World) : Prop :=
  ∃ out : List UInt8, escAll q a0.data.toList = out ++ escAll q (a0.data.toList.drop k) ∧ out.length ≤ 6 * k ∧ Bld B b (Lib.byteCells out) wr ∧ Below B w wr
theorem RefsAt.step {a0 : ByteArray} {q : Bool} {B b : Nat} {w wr w1 : World} {k n : Nat} {out t : List UInt8} (h1 : escAll q a0.data.toList = out ++ escAll q (a0.data.toList.drop k)) (h2 : out.length ≤ 6 * k)
    (he : escAll q (a0.data.toList.drop k) = t ++ escAll q (a0.data.toList.drop (k + n))) (ht : t.length ≤ 6 * n) (hb : Bld B b (Lib.byteCells out ++ Lib.byteCells t) w1) (hB : Below B w wr) (h3 : Below B wr w1) : RefsAt a0 q B b w (k + n) w1 :=
  ⟨out ++ t, by rw [h1, he, List.append_assoc], by rw [List.length_append]; omega, by rw [byteCells_app]; exact hb, hB.trans h3⟩
theorem refs_round (a0 : ByteArray) (k : Nat) (hk : k < a0.size) : ∃ c : UInt8, a0.data.toList.drop k = c :: a0.data.toList.drop (k + 1) ∧ ∀ h : k < a0.size, ((a0[k]'h).toNat : Int) = (c.toNat : Int) :=
  ⟨a0[k], by rw [List.drop_eq_getElem_cons (show k < a0.data.toList.length from hk)]; rfl, fun _ => rfl⟩
theorem u8_of {c : UInt8} {n : Nat} (h : (c.toNat : Int) = n) (hn : n < 256) : c = UInt8.ofNat n := by
  apply UInt8.toNat_inj.1
  rw [UInt8.toNat_ofNat', Nat.mod_eq_of_lt hn]; omega
set_option maxHeartbeats 8000000 in
set_option maxRecDepth 100000 in
theorem refs_written.calls (a0 : ByteArray) (a1 : Bool) (r : ByteArray) (w : World) (h : refs_written.f a0 a1 = some r) :
    Calls Tryd.prog 62 #[.string a0, .bool a1] w fun e w' => e = .returned (.string r) ∧ Below w.heap.size w w' := by
  unfold refs_written.f at h
  split at h
  case isFalse => cases h
  rename_i hsz
  cases h
  have u54 := Tryd.underlying54
  go_enter Tryd.func62, Tryd.ntmps62
  go_wp2
  go_loopw [6] (fun i wr => ∃ k : Nat, i = .int .i64 k ∧ k ≤ a0.size ∧ Aside0 (RefsAt a0 a1 w.heap.size w.heap.size w k wr)) (fun i _ => a0.size - (intOf i).toNat)
  case atStart => exact ⟨0, rfl, Nat.zero_le _, ⟨[], by rw [List.nil_append, List.drop_zero], Nat.zero_le _, Bld.new w, (Below.refl _ w).alloc (Nat.le_refl _) _⟩⟩
  case round =>
    obtain ⟨k, rfl, hk, HR⟩ := hrel
    by_cases hlt : k < a0.size
    · obtain ⟨c, hdr, hx0⟩ := refs_round a0 k hlt
      obtain ⟨n, hn⟩ : ∃ n : Int, (c.toNat : Int) = n := ⟨_, rfl⟩
      have hx : ∀ h : k < a0.size, ((a0[k]'h).toNat : Int) = n := fun h => (hx0 h).trans hn
      have hn0 : 0 ≤ n := by omega
      have hn1 : n ≤ 255 := by have := c.toNat_lt; omega
      have HN := Aside0.mk hn
      have HD := Aside0.mk hdr
      clear hx0 hn hdr
      have hlz : (k : Int) < (a0.size : Int) := by omega
      obtain ⟨out, e1, e2, hb, hB⟩ := HR.out
      have E1 := Aside0.mk e1
      have HB := Aside0.mk hB
      clear e1 hB HR
      have hsz' : w.heap.size ≤ wr.heap.size := HB.out.size
      have hws := fun s hl => writeString_any w.heap.size w.heap.size (Lib.byteCells out) s wr hb hl hsz'
      by_cases h38 : n = 38
      · subst h38
        have hw := hws ⟨#[38, 97, 109, 112, 59]⟩ (by rw [Lib.byteCells_length]; simp [ByteArray.size]; omega)
        clear hws hb
        go_wp2_with (go_at_call 37; refine hw.mono ?_; rintro e w1 ⟨rfl, hb1, hb2⟩)
        go_roundw
        case rel => exact ⟨k + 1, by go_num, by omega, ⟨RefsAt.step E1.out e2 (t := [38, 97, 109, 112, 59]) (by
          obtain rfl := u8_of (n := 38) HN.out (by decide)
          rw [HD.out, escAll_cons _ _ _ (by simp)]; rfl) (by simp) hb1 HB.out hb2⟩⟩
        case measure => simp [intOf]; omega
      have b38 : (n == 38) = false := beq_eq_false_iff_ne.mpr h38
      by_cases h60 : n = 60
      · subst h60
        have hw := hws ⟨#[38, 108, 116, 59]⟩ (by rw [Lib.byteCells_length]; simp [ByteArray.size]; omega)
        clear hws hb
        go_wp2_with (go_at_call 37; refine hw.mono ?_; rintro e w1 ⟨rfl, hb1, hb2⟩)
        go_roundw
        case rel => exact ⟨k + 1, by go_num, by omega, ⟨RefsAt.step E1.out e2 (t := [38, 108, 116, 59]) (by
          obtain rfl := u8_of (n := 60) HN.out (by decide)
          rw [HD.out, escAll_cons _ _ _ (by simp)]; rfl) (by simp) hb1 HB.out hb2⟩⟩
        case measure => simp [intOf]; omega
      have b60 : (n == 60) = false := beq_eq_false_iff_ne.mpr h60
      by_cases h62 : n = 62
      · subst h62
        have hw := hws ⟨#[38, 103, 116, 59]⟩ (by rw [Lib.byteCells_length]; simp [ByteArray.size]; omega)
        clear hws hb
        go_wp2_with (go_at_call 37; refine hw.mono ?_; rintro e w1 ⟨rfl, hb1, hb2⟩)
        go_roundw
        case rel => exact ⟨k + 1, by go_num, by omega, ⟨RefsAt.step E1.out e2 (t := [38, 103, 116, 59]) (by
          obtain rfl := u8_of (n := 62) HN.out (by decide)
          rw [HD.out, escAll_cons _ _ _ (by simp)]; rfl) (by simp) hb1 HB.out hb2⟩⟩
        case measure => simp [intOf]; omega
      have b62 : (n == 62) = false := beq_eq_false_iff_ne.mpr h62
      by_cases h34 : n = 34 ∧ a1 = true
      · obtain ⟨h34, rfl⟩ := h34
        subst h34
        have hw := hws ⟨#[38, 113, 117, 111, 116, 59]⟩ (by rw [Lib.byteCells_length]; simp [ByteArray.size]; omega)
        clear hws hb
        go_wp2_with (go_at_call 37; refine hw.mono ?_; rintro e w1 ⟨rfl, hb1, hb2⟩)
        go_roundw
        case rel => exact ⟨k + 1, by go_num, by omega, ⟨RefsAt.step E1.out e2 (t := [38, 113, 117, 111, 116, 59]) (by
          obtain rfl := u8_of (n := 34) HN.out (by decide)
          rw [HD.out, escAll_cons _ _ _ (by simp)]; rfl) (by simp) hb1 HB.out hb2⟩⟩
        case measure => simp [intOf]; omega
      have hesc : esc a1 c = [c] := by
        have hn := HN.out
        unfold esc
        rw [if_neg, if_neg, if_neg, if_neg]
        · rintro ⟨rfl, hq⟩; exact h34 ⟨by rw [← hn]; rfl, hq⟩
        · rintro rfl; exact h62 (by rw [← hn]; rfl)
        · rintro rfl; exact h60 (by rw [← hn]; rfl)
        · rintro rfl; exact h38 (by rw [← hn]; rfl)
      have HE := Aside0.mk hesc
      have H34 := Aside0.mk h34
      clear hesc h34 h38 h60 h62
      have hpc := Tryd.strings_HasPrefix (a0.extract k a0.size) ⟨#[194, 160]⟩ wr
      rw [Lib.extract_to_end] at hpc
      have hcase : (n = 34 ∧ a1 = false) ∨ (n == 34) = false := by
        by_cases h : n = 34
        · left
          refine ⟨h, ?_⟩
          cases ha : a1 with
          | false => rfl
          | true => exact absurd ⟨h, ha⟩ H34.out
        · exact .inr (beq_eq_false_iff_ne.mpr h)
      cases hp : Lib.hasPrefix (a0.data.toList.drop k) (⟨#[194, 160]⟩ : ByteArray).data.toList with
      | true =>
        rw [hp] at hpc
        have HP := Aside0.mk hp
        clear hp
        have hw := hws ⟨#[38, 110, 98, 115, 112, 59]⟩ (by rw [Lib.byteCells_length]; simp [ByteArray.size]; omega)
        clear hws hb
        have hpf : ∃ r, a0.data.toList.drop k = 194 :: 160 :: r ∧ a0.data.toList.drop (k + 2) = r := by
          have h1 : (194 :: 160 :: []) <+: a0.data.toList.drop k := by simpa [Lib.hasPrefix] using HP.out
          obtain ⟨r, hr⟩ := h1
          refine ⟨r, hr.symm, ?_⟩
          rw [← List.drop_drop, ← hr]; rfl
        obtain ⟨r, hr1, hr2⟩ := hpf
        have hk2 : k + 2 ≤ a0.size := by
          have := congrArg List.length hr1
          have e3 : a0.data.toList.length = a0.size := rfl
          rw [List.length_drop, e3] at this
          simp only [List.length_cons] at this
          omega
        have HR1 := Aside0.mk hr1
        have HR2 := Aside0.mk hr2
        clear hr1 hr2
        rcases hcase with ⟨hn34, rfl⟩ | b34
        all_goals (try subst hn34)
        all_goals
          go_wp2_with (first | (go_at_call 52; refine hpc.mono ?_; rintro e w' ⟨rfl, rfl⟩) | (go_at_call 37; refine hw.mono ?_; rintro e w1 ⟨rfl, hb1, hb2⟩))
          go_roundw
          case rel => exact ⟨k + 2, by go_num, by omega, ⟨RefsAt.step E1.out e2 (n := 2) (t := [38, 110, 98, 115, 112, 59]) (by
            rw [HR1.out, HR2.out]; exact escAll_nbsp _ _) (by simp) hb1 HB.out hb2⟩⟩
          case measure => simp [intOf]; omega
      | false =>
        rw [hp] at hpc
        have HP := Aside0.mk hp
        clear hp hws
        have hw := writeByte_any w.heap.size w.heap.size (Lib.byteCells out) n wr hb (by rw [Lib.byteCells_length]; omega) hsz'
        clear hb
        rcases hcase with ⟨hn34, rfl⟩ | b34
        all_goals (try subst hn34)
        all_goals
          go_wp2_with (first | (go_at_call 52; refine hpc.mono ?_; rintro e w' ⟨rfl, rfl⟩) | (go_at_call 82; refine hw.mono ?_; rintro e w1 ⟨rfl, hb1, hb2⟩))
          go_roundw
          case rel => exact ⟨k + 1, by go_num, by omega, ⟨RefsAt.step E1.out e2 (t := [c]) (by
            rw [HD.out, escAll_cons _ _ _ (by
              rintro ⟨rfl, r, hr⟩
              have h1 := HP.out
              rw [HD.out, hr] at h1
              have h2 : Lib.hasPrefix (194 :: 160 :: r) (⟨#[194, 160]⟩ : ByteArray).data.toList = true := rfl
              rw [h2] at h1
              cases h1), HE.out]) (by simp) (by simpa [Lib.byteCells, HN.out] using hb1) HB.out hb2⟩⟩
          case measure => simp [intOf]; omega
    · obtain rfl : k = a0.size := by omega
      obtain ⟨out, e1, e2, hb, hB⟩ := HR.out
      rw [show a0.data.toList.drop a0.size = [] from List.drop_eq_nil_of_le (Nat.le_of_eq rfl)] at e1
      have E1 := Aside0.mk e1
      have HB := Aside0.mk hB
      clear e1 hB HR
      have hs := string_any w.heap.size w.heap.size out wr hb HB.out.size
      clear hb
      go_wp2_with (go_at_call 41; refine hs.mono ?_; rintro e w1 ⟨rfl, hb⟩)
      go_ret
      have e3 := E1.out
      rw [show escAll a1 [] = [] from rfl, List.append_nil] at e3
      exact ⟨by rw [e3]; rfl, HB.out.trans hb⟩
end Go.Proofs.YtpnhjipaeggcpaaDoor.X
end
section
namespace Go.Proofs.YtpnhjipaeggcpaaDoor.X
open Go.RowKit Go.Proofs.YtpnhjipaeggcpaaDoorW.PrintWords Go.Proofs.YtpnhjipaeggcpaaDoorW.PrintLast Go.Proofs.YtpnhjipaeggcpaaDoorW.PrintMore
attribute [local go_sem] max2_int min2_int max_two min_two max_three min_three max_four min_four
def refs_Value.f (a0 : ByteArray) : Option (ByteArray) := (refs_written.f a0 true).bind fun t465 => (some t465)
set_option maxHeartbeats 8000000 in
set_option maxRecDepth 100000 in
theorem refs_Value.calls (a0 : ByteArray) (r : ByteArray) (w : World) (h : refs_Value.f a0 = some r) :
  Calls Tryd.prog 63 #[.string a0] w fun e w' => e = .returned (.string r) ∧ Below w.heap.size w w' := by
 have HB := Aside0.mk (Below.refl w.heap.size w)
 have H : ((refs_written.f a0 true).bind fun t465 => (some t465)) = some r := h
 clear h
 replace H := Option.bind_eq_some_iff.mp H
 obtain ⟨t465, A20, H⟩ := H
 have A2 := Aside0.mk A20
 clear A20
 obtain rfl := Option.some.inj H
 go_enter Tryd.func63, Tryd.ntmps63
 go_wp2_with (first | ((with_reducible refine gate_callee (f := 62) rfl ?_); refine goesL_ (some 4) rfl rfl Tryd.func62 (by kernel_rfl) rfl #[.string a0, .bool true] rfl y15_ ?_; (with_reducible refine (refs_written.calls a0 true t465 _ A2.out).mono ?_); rintro e w3 ⟨rfl, hb⟩; refine ⟨_, rfl, ?_⟩; have n0_ := Aside0.mk (below_step y14_ hb); clear HB; have HB := n0_; clear n0_; (try clear hb); (try clear hb2); (try clear hk); (try clear hi)))
 go_ret
 exact ⟨y13_, y14_⟩
end Go.Proofs.YtpnhjipaeggcpaaDoor.X
end
section
namespace Go.Proofs.YtpnhjipaeggcpaaDoor.X
open Go.RowKit Go.Proofs.YtpnhjipaeggcpaaDoorW.PrintWords Go.Proofs.YtpnhjipaeggcpaaDoorW.PrintLast Go.Proofs.YtpnhjipaeggcpaaDoorW.PrintMore
attribute [local go_sem] max2_int min2_int max_two min_two max_three min_three max_four min_four
def write_opened.l0 : Nat → ByteArray → List (S41) → Int → Int → Option (ByteArray)
 | 0, _, _, _, _ => none
 | k + 1, x3, x10, x11, x12 => if x12 < x11 then (if 0 ≤ x12 then (if x12 < (x10.length : Int) then (if 1 + ((rd_T41 x10 x12).f0).size ≤ 9223372036854775807 then (if ((⟨#[32]⟩ : ByteArray) ++ ((rd_T41 x10 x12).f0)).size + 2 ≤ 9223372036854775807 then ((refs_Value.f ((rd_T41 x10 x12).f1)).bind fun t469 => (if (((⟨#[32]⟩ : ByteArray) ++ ((rd_T41 x10 x12).f0)) ++ (⟨#[61, 34]⟩ : ByteArray)).size + t469.size ≤ 9223372036854775807 then (if ((((⟨#[32]⟩ : ByteArray) ++ ((rd_T41 x10 x12).f0)) ++ (⟨#[61, 34]⟩ : ByteArray)) ++ t469).size + 1 ≤ 9223372036854775807 then (if x3.size + (((((⟨#[32]⟩ : ByteArray) ++ ((rd_T41 x10 x12).f0)) ++ (⟨#[61, 34]⟩ : ByteArray)) ++ t469) ++ (⟨#[34]⟩ : ByteArray)).size ≤ 9223372036854775807 then (write_opened.l0 k (x3 ++ (((((⟨#[32]⟩ : ByteArray) ++ ((rd_T41 x10 x12).f0)) ++ (⟨#[61, 34]⟩ : ByteArray)) ++ t469) ++ (⟨#[34]⟩ : ByteArray))) x10 x11 (wrap64 (x12 + 1))) else (none)) else (none)) else (none))) else (none)) else (none)) else (none)) else (none)) else (if x3.size + 1 ≤ 9223372036854775807 then (some (x3 ++ (⟨#[62]⟩ : ByteArray))) else (none))
def write_opened.f (k : Nat) (a0_0 : Int) (a0_1 : Int) (a0_2 : ByteArray) (a0_3 : ByteArray) (l0_4 : List (S41)) : Option (ByteArray) := if 1 + a0_2.size ≤ 9223372036854775807 then (write_opened.l0 k ((⟨#[60]⟩ : ByteArray) ++ a0_2) l0_4 (l0_4.length : Int) 0) else (none)
def write_opened.T5 : Bool × List (List Nat × List Nat) := (true, [([], []), ([], []), ([1], [1]), ([2], [2]), ([3], [3]), ([], []), ([5], [5]), ([6], [6]), ([4, 7], [4, 7]), ([8], [8]), ([0, 9], [0, 9]), ([10, 7, 0, 1, 2, 3, 4, 5, 6, 7, 8, 9, 10], [0, 10])])
def write_opened.B5 : List Nat := [0, 0, 2, 6, 14, 0, 32, 96, 254, 510, 1023, 2047]
theorem write_opened.tab5 : rtab .any (opsOf Tryd.f39 5) = write_opened.T5 := by kernel_rfl
theorem write_opened.bits5 : waitsOk write_opened.T5.2 write_opened.B5 = true := by kernel_rfl
set_option maxHeartbeats 8000000 in
set_option maxRecDepth 100000 in
theorem write_opened.calls (k : Nat) (a0_0 : Int) (a0_1 : Int) (a0_2 : ByteArray) (a0_3 : ByteArray) (A0_4 : Option Addr) (c0_4 : Nat) (l0_4 : List (S41)) (r : ByteArray) (w : World) (hr0_4 : Kd.C k41 w A0_4 l0_4.length l0_4) (hc0_4 : l0_4.length ≤ c0_4) (h : write_opened.f k a0_0 a0_1 a0_2 a0_3 l0_4 = some r) :
  Calls Tryd.prog 39 #[.agg #[.int .i64 a0_0, .int .i64 a0_1, .string a0_2, .string a0_3, .slice A0_4 l0_4.length c0_4]] w fun e w' => e = .returned (.string r) ∧ Below w.heap.size w w' := by
 have hu35 := Tryd.underlying35
 have hu41 := Tryd.underlying41
 have HR0_4 := Aside0.mk hr0_4
 have HC0_4 := Aside0.mk hc0_4
 clear hr0_4 hc0_4
 have HB := Aside0.mk (Below.refl w.heap.size w)
 have H : (if 1 + a0_2.size ≤ 9223372036854775807 then (write_opened.l0 k ((⟨#[60]⟩ : ByteArray) ++ a0_2) l0_4 (l0_4.length : Int) 0) else (none)) = some r := h
 clear h
 by_cases c2 : 1 + a0_2.size ≤ 9223372036854775807
 rotate_left
 ·rw [if_neg c2] at H
  exact absurd H (by simp)
 rw [if_pos c2] at H
 have c2b0 := eq_true c2
 have c2b1 : decide (1 + a0_2.size ≤ 9223372036854775807) = true := decide_eq_true c2
 try have c2b2 : (9223372036854775807 < 1 + a0_2.size) = False := eq_false (Nat.not_lt.2 c2)
 have H' := Aside0.mk H
 clear H
 go_enter Tryd.func39, Tryd.ntmps39
 go_wp2_with (first | ((with_reducible refine gate_dst (N := 1) rfl ?_); refine box_event ?hg (N := 1) ?hd (cs := #[.int .i64 a0_0, .int .i64 a0_1, .string a0_2, .string a0_3, .slice A0_4 l0_4.length c0_4]) (t := 35) ?hr ?_; (case hd => rfl); (case hg => rfl); (case hr => first | (go_simp; done) | (go_simp; rfl)); intro gb466 hg w3 hbox hb; have n0_ := Aside0.mk (below_step y14_ hb); have n1_ := Aside0.mk (hbox); have n2_ := Aside0.mk ((by rw [hg]; exact (below_size y14_) : w.heap.size ≤ gb466)); have n3_ := Aside0.mk ((by rw [hg]; exact (below_size y14_) : w.heap.size ≤ gb466)); clear HB; have HB := n0_; have BK466 := n1_; have GW466 := n2_; have GE466 := n3_; clear n0_ n1_ n2_ n3_; clear hb hbox hg; have hcz4_0 : w3.cell? ⟨gb466, 0, none⟩ = some (.int .i64 a0_0) := (blk_cell BK466.out 0).trans rfl; have hcz4_1 : w3.cell? ⟨gb466, 1, none⟩ = some (.int .i64 a0_1) := (blk_cell BK466.out 1).trans rfl; have hcz4_2 : w3.cell? ⟨gb466, 2, none⟩ = some (.string a0_2) := (blk_cell BK466.out 2).trans rfl; have hcz4_3 : w3.cell? ⟨gb466, 3, none⟩ = some (.string a0_3) := (blk_cell BK466.out 3).trans rfl; have hcz4_4 : w3.cell? ⟨gb466, 4, none⟩ = some (.slice A0_4 l0_4.length c0_4) := (blk_cell BK466.out 4).trans rfl; have hfz4_0 := blk_frozen BK466.out 0; have hfz4_1 := blk_frozen BK466.out 1; have hfz4_2 := blk_frozen BK466.out 2; have hfz4_3 := blk_frozen BK466.out 3; have hfz4_4 := blk_frozen BK466.out 4))
 go_loopg [3, 12] k (fun kq v3 v12 w' => ∃ (x3_1 : ByteArray) (x12_1 : Int), v3 = .string x3_1 ∧ v12 = .int .i64 x12_1 ∧ Aside0 (write_opened.l0 kq x3_1 l0_4 (l0_4.length : Int) x12_1 = some r) ∧ Aside0 (kq ≤ k) ∧ Aside0 (w'.heap[gb466]? = some (.cells #[.int .i64 a0_0, .int .i64 a0_1, .string a0_2, .string a0_3, (.slice A0_4 l0_4.length c0_4)] 35 (0, 0))) ∧ Aside0 (Below w.heap.size w w'))
 case atStart => exact ⟨((⟨#[60]⟩ : ByteArray) ++ a0_2), (0), y5_, y5_, H', ⟨Nat.le_refl _⟩, ⟨by (with_reducible repeat (first | refine blk_drewN ?_ _ | refine blk_drew ?_ | refine blk_alloc ?_ _)); exact BK466.out⟩, ⟨(y19_ GE466.out)⟩⟩
 case round =>
  clear H'
  try clear c2
  try clear c2b0
  try clear c2b1
  try clear c2b2
  try clear p2
  try clear c3
  try clear hcz4_0
  try clear hcz4_1
  try clear hcz4_2
  try clear hcz4_3
  try clear hcz4_4
  try clear hfz4_0
  try clear hfz4_1
  try clear hfz4_2
  try clear hfz4_3
  try clear hfz4_4
  obtain ⟨x3_1, x12_1, rfl, rfl, HA, HK1, BK466, HB⟩ := hrel
  cases gk with
  | zero => exact absurd HA.out (by simp [write_opened.l0])
  | succ k1 =>
   have H := HA.out
   clear HA
   simp only [write_opened.l0] at H
   by_cases c5 : x12_1 < (l0_4.length : Int)
   ·rw [if_pos c5] at H
    have c5b0 : decide (x12_1 < (l0_4.length : Int)) = true := decide_eq_true c5
    clear c5
    by_cases c6 : 0 ≤ x12_1
    rotate_left
    ·rw [if_neg c6] at H
     exact absurd H (by simp)
    rw [if_pos c6] at H
    have c6b0 : decide (0 ≤ x12_1) = true := decide_eq_true c6
    clear c6
    by_cases c7 : x12_1 < (l0_4.length : Int)
    rotate_left
    ·rw [if_neg c7] at H
     exact absurd H (by simp)
    rw [if_pos c7] at H
    have c7b0 : decide (x12_1 < (l0_4.length : Int)) = true := decide_eq_true c7
    clear c7
    by_cases c8 : 1 + ((rd_T41 l0_4 x12_1).f0).size ≤ 9223372036854775807
    rotate_left
    ·rw [if_neg c8] at H
     exact absurd H (by simp)
    rw [if_pos c8] at H
    have c8b0 := eq_true c8
    have c8b1 : decide (1 + ((rd_T41 l0_4 x12_1).f0).size ≤ 9223372036854775807) = true := decide_eq_true c8
    try have c8b2 : (9223372036854775807 < 1 + ((rd_T41 l0_4 x12_1).f0).size) = False := eq_false (Nat.not_lt.2 c8)
    by_cases c9 : ((⟨#[32]⟩ : ByteArray) ++ ((rd_T41 l0_4 x12_1).f0)).size + 2 ≤ 9223372036854775807
    rotate_left
    ·rw [if_neg c9] at H
     exact absurd H (by simp)
    rw [if_pos c9] at H
    have c9b0 := eq_true c9
    have c9b1 : decide (((⟨#[32]⟩ : ByteArray) ++ ((rd_T41 l0_4 x12_1).f0)).size + 2 ≤ 9223372036854775807) = true := decide_eq_true c9
    try have c9b2 : (9223372036854775807 < ((⟨#[32]⟩ : ByteArray) ++ ((rd_T41 l0_4 x12_1).f0)).size + 2) = False := eq_false (Nat.not_lt.2 c9)
    try (have c9p_ := c9b2; simp only [ByteArray.size_append, lit_size, List.length_cons, List.length_nil, Nat.reduceAdd, Nat.zero_add] at c9p_)
    replace H := Option.bind_eq_some_iff.mp H
    obtain ⟨t469, A100, H⟩ := H
    have A10 := Aside0.mk A100
    clear A100
    by_cases c11 : (((⟨#[32]⟩ : ByteArray) ++ ((rd_T41 l0_4 x12_1).f0)) ++ (⟨#[61, 34]⟩ : ByteArray)).size + t469.size ≤ 9223372036854775807
    rotate_left
    ·rw [if_neg c11] at H
     exact absurd H (by simp)
    rw [if_pos c11] at H
    have c11b0 := eq_true c11
    have c11b1 : decide ((((⟨#[32]⟩ : ByteArray) ++ ((rd_T41 l0_4 x12_1).f0)) ++ (⟨#[61, 34]⟩ : ByteArray)).size + t469.size ≤ 9223372036854775807) = true := decide_eq_true c11
    try have c11b2 : (9223372036854775807 < (((⟨#[32]⟩ : ByteArray) ++ ((rd_T41 l0_4 x12_1).f0)) ++ (⟨#[61, 34]⟩ : ByteArray)).size + t469.size) = False := eq_false (Nat.not_lt.2 c11)
    try (have c11p_ := c11b2; simp only [ByteArray.size_append, lit_size, List.length_cons, List.length_nil, Nat.reduceAdd, Nat.zero_add] at c11p_)
    by_cases c12 : ((((⟨#[32]⟩ : ByteArray) ++ ((rd_T41 l0_4 x12_1).f0)) ++ (⟨#[61, 34]⟩ : ByteArray)) ++ t469).size + 1 ≤ 9223372036854775807
    rotate_left
    ·rw [if_neg c12] at H
     exact absurd H (by simp)
    rw [if_pos c12] at H
    have c12b0 := eq_true c12
    have c12b1 : decide (((((⟨#[32]⟩ : ByteArray) ++ ((rd_T41 l0_4 x12_1).f0)) ++ (⟨#[61, 34]⟩ : ByteArray)) ++ t469).size + 1 ≤ 9223372036854775807) = true := decide_eq_true c12
    try have c12b2 : (9223372036854775807 < ((((⟨#[32]⟩ : ByteArray) ++ ((rd_T41 l0_4 x12_1).f0)) ++ (⟨#[61, 34]⟩ : ByteArray)) ++ t469).size + 1) = False := eq_false (Nat.not_lt.2 c12)
    try (have c12p_ := c12b2; simp only [ByteArray.size_append, lit_size, List.length_cons, List.length_nil, Nat.reduceAdd, Nat.zero_add] at c12p_)
    by_cases c13 : x3_1.size + (((((⟨#[32]⟩ : ByteArray) ++ ((rd_T41 l0_4 x12_1).f0)) ++ (⟨#[61, 34]⟩ : ByteArray)) ++ t469) ++ (⟨#[34]⟩ : ByteArray)).size ≤ 9223372036854775807
    rotate_left
    ·rw [if_neg c13] at H
     exact absurd H (by simp)
    rw [if_pos c13] at H
    have c13b0 := eq_true c13
    have c13b1 : decide (x3_1.size + (((((⟨#[32]⟩ : ByteArray) ++ ((rd_T41 l0_4 x12_1).f0)) ++ (⟨#[61, 34]⟩ : ByteArray)) ++ t469) ++ (⟨#[34]⟩ : ByteArray)).size ≤ 9223372036854775807) = true := decide_eq_true c13
    try have c13b2 : (9223372036854775807 < x3_1.size + (((((⟨#[32]⟩ : ByteArray) ++ ((rd_T41 l0_4 x12_1).f0)) ++ (⟨#[61, 34]⟩ : ByteArray)) ++ t469) ++ (⟨#[34]⟩ : ByteArray)).size) = False := eq_false (Nat.not_lt.2 c13)
    try (have c13p_ := c13b2; simp only [ByteArray.size_append, lit_size, List.length_cons, List.length_nil, Nat.reduceAdd, Nat.zero_add] at c13p_)
    have H' := Aside0.mk H
    clear H
    have p467 : 0 ≤ (x12_1 : Int) := of_decide_eq_true y2_
    have q467 : x12_1 < (l0_4.length : Int) := of_decide_eq_true y2_
    obtain ⟨ad467, e467, hx467_0, hx467_1⟩ := at_T41 HR0_4.out x12_1 p467 q467
    cases e467
    replace hx467_0 := (HB.out.cell (World.block_lt_of_cell? w _ hx467_0)).trans hx467_0
    replace hx467_1 := (HB.out.cell (World.block_lt_of_cell? w _ hx467_1)).trans hx467_1
    replace p467 := eq_true p467
    replace q467 := eq_true q467
    try go_wp2_with (first | ((with_reducible refine gate_dst (N := 5) rfl ?_); refine box_event ?hg (N := 5) ?hd (cs := #[.string (⟨#[]⟩ : ByteArray), .string (⟨#[]⟩ : ByteArray)]) (t := 41) ?hr ?_; (case hd => rfl); (case hg => rfl); (case hr => first | (go_simp; done) | (go_simp; rfl)); intro gb468 hg w14 hbox hb; have n0_ := Aside0.mk (blk_below (g := gb466) (o := .cells #[.int .i64 a0_0, .int .i64 a0_1, .string a0_2, .string a0_3, .slice (some ad467) l0_4.length c0_4] 35 (0, 0)) (y12_ BK466.out) hb); have n1_ := Aside0.mk (below_step (y19_ GE466.out) hb); have n2_ := Aside0.mk (hbox); have n3_ := Aside0.mk ((by rw [hg]; exact (below_size (y19_ GE466.out)) : w.heap.size ≤ gb468)); have n4_ := Aside0.mk ((by rw [hg]; exact (below_size (y19_ GE466.out)) : w.heap.size ≤ gb468)); have n5_ := Aside0.mk ((by rw [hg]; exact Nat.ne_of_lt (blk_lt (g := gb466) (o := .cells #[.int .i64 a0_0, .int .i64 a0_1, .string a0_2, .string a0_3, .slice (some ad467) l0_4.length c0_4] 35 (0, 0)) (y12_ BK466.out)) : gb466 ≠ gb468)); have n6_ := Aside0.mk ((by rw [hg]; exact Nat.ne_of_gt (blk_lt (g := gb466) (o := .cells #[.int .i64 a0_0, .int .i64 a0_1, .string a0_2, .string a0_3, .slice (some ad467) l0_4.length c0_4] 35 (0, 0)) (y12_ BK466.out)) : gb468 ≠ gb466)); clear BK466; clear HB; have BK466 := n0_; have HB := n1_; have BK468 := n2_; have GW468 := n3_; have GE468 := n4_; have NB466_468 := n5_; have NB468_466 := n6_; clear n0_ n1_ n2_ n3_ n4_ n5_ n6_; clear hb hbox hg; have hnb15 := NB468_466.out; have hnc15 := NB466_468.out; have hcz16_0 : w14.cell? ⟨gb468, 0, none⟩ = some (.string (⟨#[]⟩ : ByteArray)) := (blk_cell BK468.out 0).trans rfl; have hcz16_1 : w14.cell? ⟨gb468, 1, none⟩ = some (.string (⟨#[]⟩ : ByteArray)) := (blk_cell BK468.out 1).trans rfl; have hfz16_0 := blk_frozen BK468.out 0; have hfz16_1 := blk_frozen BK468.out 1))
    have n0_ : Aside0 (((w14.setCell ⟨gb468, 0, none⟩ (.string ((rd_T41 l0_4 x12_1).f0))).setCell ⟨gb468, 1, none⟩ (.string ((rd_T41 l0_4 x12_1).f1))).heap[gb466]? = some (.cells #[.int .i64 a0_0, .int .i64 a0_1, .string a0_2, .string a0_3, .slice (some ad467) l0_4.length c0_4] 35 (0, 0))) := ⟨by (with_reducible repeat (first | refine blk_drewN ?_ _ | refine blk_drew ?_ | refine blk_alloc ?_ _)); refine blk_far ?_ NB466_468.out _; (with_reducible repeat (first | refine blk_drewN ?_ _ | refine blk_drew ?_ | refine blk_alloc ?_ _)); refine blk_far ?_ NB466_468.out _; (with_reducible repeat (first | refine blk_drewN ?_ _ | refine blk_drew ?_ | refine blk_alloc ?_ _)); exact BK466.out⟩
    have n1_ : Aside0 (((w14.setCell ⟨gb468, 0, none⟩ (.string ((rd_T41 l0_4 x12_1).f0))).setCell ⟨gb468, 1, none⟩ (.string ((rd_T41 l0_4 x12_1).f1))).heap[gb468]? = some (.cells #[.string ((rd_T41 l0_4 x12_1).f0), .string ((rd_T41 l0_4 x12_1).f1)] 41 (0, 0))) := ⟨by (with_reducible repeat (first | refine blk_drewN ?_ _ | refine blk_drew ?_ | refine blk_alloc ?_ _)); refine blk_put (cs := #[.string ((rd_T41 l0_4 x12_1).f0), .string (⟨#[]⟩ : ByteArray)]) ?_ 1 _ rfl; (with_reducible repeat (first | refine blk_drewN ?_ _ | refine blk_drew ?_ | refine blk_alloc ?_ _)); refine blk_put (cs := #[.string (⟨#[]⟩ : ByteArray), .string (⟨#[]⟩ : ByteArray)]) ?_ 0 _ rfl; (with_reducible repeat (first | refine blk_drewN ?_ _ | refine blk_drew ?_ | refine blk_alloc ?_ _)); exact BK468.out⟩
    have n2_ : Aside0 (Below w.heap.size w ((w14.setCell ⟨gb468, 0, none⟩ (.string ((rd_T41 l0_4 x12_1).f0))).setCell ⟨gb468, 1, none⟩ (.string ((rd_T41 l0_4 x12_1).f1)))) := ⟨(y21_ GE466.out GE468.out)⟩
    (try clear BK466)
    (try clear BK468)
    (try clear HB)
    generalize ((w14.setCell ⟨gb468, 0, none⟩ (.string ((rd_T41 l0_4 x12_1).f0))).setCell ⟨gb468, 1, none⟩ (.string ((rd_T41 l0_4 x12_1).f1))) = w17 at n0_ n1_ n2_ ⊢
    have BK466 := n0_
    have BK468 := n1_
    have HB := n2_
    clear n0_ n1_ n2_
    have n0_ := Aside0.mk (blk_drew BK466.out)
    have n1_ := Aside0.mk (blk_drew BK468.out)
    have n2_ := Aside0.mk (below_drew1 HB.out)
    clear BK466
    clear BK468
    clear HB
    have BK466 := n0_
    have BK468 := n1_
    have HB := n2_
    clear n0_ n1_ n2_
    refine start_ (n := 12) (S := fun w' => w'.cell? ⟨gb468, 0, none⟩ = some (.string ((rd_T41 l0_4 x12_1).f0)) ∧ w'.cell? ⟨gb468, 1, none⟩ = some (.string ((rd_T41 l0_4 x12_1).f1))) (ds := []) #[false, false, false, false, false, false, false, false, false, false, false, false] (by kernel_rfl) rfl rfl ⟨(blk_cell BK468.out 0).trans rfl, (blk_cell BK468.out 1).trans rfl⟩ (fun hHeld => ?_); refine with_tabW write_opened.tab5 write_opened.bits5 (fun HT_ HW_ => ?_)
    generalize w17.drew = w18 at BK466 BK468 HB hHeld ⊢
    refine pure_ (i := 0) (N := some 16) (v := ?_) (a' := ?_) #[true, false, false, false, false, false, false, false, false, false, false, false] rfl rfl (any_of HT_.out (by kernel_rfl)) (fun _ _ _ h => h) (Or.inl ⟨by rfl, ?_⟩) ?_ ?_
    rotate_left
    ·intro w'
     go_simp
     with_reducible rfl
    rotate_left
    ·simp only [Act.put, List.setIfInBounds_toArray, List.set_cons_zero, List.set_cons_succ, i64_w, i32_w]
     rfl
    refine pure_ (i := 1) (N := some 17) (v := ?_) (a' := ?_) #[true, true, false, false, false, false, false, false, false, false, false, false] rfl rfl (any_of HT_.out (by kernel_rfl)) (fun _ _ _ h => h) (Or.inl ⟨by rfl, ?_⟩) ?_ ?_
    rotate_left
    ·intro w'
     go_simp
     with_reducible rfl
    rotate_left
    ·simp only [Act.put, List.setIfInBounds_toArray, List.set_cons_zero, List.set_cons_succ, i64_w, i32_w]
     rfl
    refine pure_ (i := 5) (N := some 21) (v := ?_) (a' := ?_) #[true, true, false, false, false, true, false, false, false, false, false, false] rfl rfl (any_of HT_.out (by kernel_rfl)) (fun _ _ _ h => h) (Or.inl ⟨by rfl, ?_⟩) ?_ ?_
    rotate_left
    ·intro w'
     go_simp
     with_reducible rfl
    rotate_left
    ·simp only [Act.put, List.setIfInBounds_toArray, List.set_cons_zero, List.set_cons_succ, i64_w, i32_w]
     rfl
    refine take_ (i := 2) (N := some 18) (v := ?_) (a' := ?_) #[true, true, true, false, false, true, false, false, false, false, false, false] rfl rfl (take_ofW HT_.out HW_.out (by kernel_rfl)) (fun _ _ _ h => h) (Or.inl ⟨by rfl, ?_⟩) hHeld ?_ ?_
    rotate_left
    ·rintro w' ⟨s0, s1⟩
     go_simp
     with_reducible rfl
    rotate_left
    ·simp only [Act.put, List.setIfInBounds_toArray, List.set_cons_zero, List.set_cons_succ, i64_w, i32_w]
     rfl
    refine pure_ (i := 3) (N := some 19) (v := ?_) (a' := ?_) #[true, true, true, true, false, true, false, false, false, false, false, false] rfl rfl (any_of HT_.out (by kernel_rfl)) (fun _ _ _ h => h) (Or.inl ⟨by rfl, ?_⟩) ?_ ?_
    rotate_left
    ·intro w'
     go_simp
     with_reducible rfl
    rotate_left
    ·simp only [Act.put, List.setIfInBounds_toArray, List.set_cons_zero, List.set_cons_succ, i64_w, i32_w]
     rfl
    refine pure_ (i := 4) (N := some 20) (v := ?_) (a' := ?_) #[true, true, true, true, true, true, false, false, false, false, false, false] rfl rfl (any_of HT_.out (by kernel_rfl)) (fun _ _ _ h => h) (Or.inl ⟨by rfl, ?_⟩) ?_ ?_
    rotate_left
    ·intro w'
     go_simp
     with_reducible rfl
    rotate_left
    ·simp only [Act.put, List.setIfInBounds_toArray, List.set_cons_zero, List.set_cons_succ, i64_w, i32_w]
     rfl
    refine take_ (i := 6) (N := some 22) (v := ?_) (a' := ?_) #[true, true, true, true, true, true, true, false, false, false, false, false] rfl rfl (take_ofW HT_.out HW_.out (by kernel_rfl)) (fun _ _ _ h => h) (Or.inl ⟨by rfl, ?_⟩) hHeld ?_ ?_
    rotate_left
    ·rintro w' ⟨s0, s1⟩
     go_simp
     with_reducible rfl
    rotate_left
    ·simp only [Act.put, List.setIfInBounds_toArray, List.set_cons_zero, List.set_cons_succ, i64_w, i32_w]
     rfl
    refine one_ (i := 7) (N := some 23) #[true, true, true, true, true, true, true, true, false, false, false, false] rfl rfl (one_of HT_.out (by kernel_rfl)) (by decide) (fun K hK => ?_)
    refine goes_ Tryd.func63 (by kernel_rfl) rfl #[.string ((rd_T41 l0_4 x12_1).f1)] (by rfl) rfl rfl y15_ ?_
    with_reducible refine (refs_Value.calls ((rd_T41 l0_4 x12_1).f1) t469 _ A10.out).mono ?_
    rintro e w19 ⟨rfl, hb⟩
    refine ⟨_, rfl, ?_⟩
    have n0_ := Aside0.mk (blk_below (g := gb466) (o := .cells #[.int .i64 a0_0, .int .i64 a0_1, .string a0_2, .string a0_3, .slice (some ad467) l0_4.length c0_4] 35 (0, 0)) (y12_ BK466.out) hb)
    have n1_ := Aside0.mk (blk_below (g := gb468) (o := .cells #[.string ((rd_T41 l0_4 x12_1).f0), .string ((rd_T41 l0_4 x12_1).f1)] 41 (0, 0)) (y12_ BK468.out) hb)
    have n2_ := Aside0.mk (below_step (y21_ GE466.out GE468.out) hb)
    clear BK466
    clear BK468
    clear HB
    have BK466 := n0_
    have BK468 := n1_
    have HB := n2_
    clear n0_ n1_ n2_
    (try clear hb)
    (try clear hb2)
    (try clear hk)
    (try clear hi)
    refine hK.out _ _ ⟨(blk_cell BK468.out 0).trans rfl, (blk_cell BK468.out 1).trans rfl⟩ (fun hHeld => ?_)
    clear hK K
    refine norm_ (a' := ?_) ?_ ?_
    rotate_left
    ·show Act.put _ (some 23) _ = _
     simp only [Act.put, List.setIfInBounds_toArray, List.set_cons_zero, List.set_cons_succ, i64_w, i32_w]
     rfl
    refine pure_ (i := 8) (N := some 24) (v := ?_) (a' := ?_) #[true, true, true, true, true, true, true, true, true, false, false, false] rfl rfl (any_of HT_.out (by kernel_rfl)) (fun _ _ _ h => h) (Or.inl ⟨by rfl, ?_⟩) ?_ ?_
    rotate_left
    ·intro w'
     go_simp
     with_reducible rfl
    rotate_left
    ·simp only [Act.put, List.setIfInBounds_toArray, List.set_cons_zero, List.set_cons_succ, i64_w, i32_w]
     rfl
    refine pure_ (i := 9) (N := some 25) (v := ?_) (a' := ?_) #[true, true, true, true, true, true, true, true, true, true, false, false] rfl rfl (any_of HT_.out (by kernel_rfl)) (fun _ _ _ h => h) (Or.inl ⟨by rfl, ?_⟩) ?_ ?_
    rotate_left
    ·intro w'
     go_simp
     with_reducible rfl
    rotate_left
    ·simp only [Act.put, List.setIfInBounds_toArray, List.set_cons_zero, List.set_cons_succ, i64_w, i32_w]
     rfl
    refine pure_ (i := 10) (N := some 26) (v := ?_) (a' := ?_) #[true, true, true, true, true, true, true, true, true, true, true, false] rfl rfl (any_of HT_.out (by kernel_rfl)) (fun _ _ _ h => h) (Or.inl ⟨by rfl, ?_⟩) ?_ ?_
    rotate_left
    ·intro w'
     go_simp
     with_reducible rfl
    rotate_left
    ·simp only [Act.put, List.setIfInBounds_toArray, List.set_cons_zero, List.set_cons_succ, i64_w, i32_w]
     rfl
    refine pure_ (i := 11) (N := some 3) (v := ?_) (a' := ?_) #[true, true, true, true, true, true, true, true, true, true, true, true] rfl rfl (any_of HT_.out (by kernel_rfl)) (fun _ _ _ h => h) (Or.inl ⟨by rfl, ?_⟩) ?_ ?_
    rotate_left
    ·intro w'
     go_simp
     with_reducible rfl
    rotate_left
    ·simp only [Act.put, List.setIfInBounds_toArray, List.set_cons_zero, List.set_cons_succ, i64_w, i32_w]
     rfl
    refine done_ (done_of HT_.out (by kernel_rfl)) ?_
    try go_wp2
    go_roundg k1
    case measure => have := HK1.out; omega
    case rel => exact ⟨(x3_1 ++ (((((⟨#[32]⟩ : ByteArray) ++ ((rd_T41 l0_4 x12_1).f0)) ++ (⟨#[61, 34]⟩ : ByteArray)) ++ t469) ++ (⟨#[34]⟩ : ByteArray))), (wrap64 (x12_1 + 1)), y5_, y5_, H', ⟨by have := HK1.out; omega⟩, ⟨by (with_reducible repeat (first | refine blk_drewN ?_ _ | refine blk_drew ?_ | refine blk_alloc ?_ _)); exact BK466.out⟩, ⟨(y21_ GE466.out GE468.out)⟩⟩
   ·rw [if_neg c5] at H
    have c5b0 : decide (x12_1 < (l0_4.length : Int)) = false := decide_eq_false c5
    clear c5
    by_cases c20 : x3_1.size + 1 ≤ 9223372036854775807
    rotate_left
    ·rw [if_neg c20] at H
     exact absurd H (by simp)
    rw [if_pos c20] at H
    have c20b0 := eq_true c20
    have c20b1 : decide (x3_1.size + 1 ≤ 9223372036854775807) = true := decide_eq_true c20
    try have c20b2 : (9223372036854775807 < x3_1.size + 1) = False := eq_false (Nat.not_lt.2 c20)
    obtain rfl := Option.some.inj H
    go_wp2
    go_ret
    exact ⟨y13_, (y19_ GE466.out)⟩
end Go.Proofs.YtpnhjipaeggcpaaDoor.X
end
section
namespace Go.Proofs.YtpnhjipaeggcpaaDoor.X
open Go.RowKit Go.Proofs.YtpnhjipaeggcpaaDoorW.PrintWords Go.Proofs.YtpnhjipaeggcpaaDoorW.PrintLast Go.Proofs.YtpnhjipaeggcpaaDoorW.PrintMore
attribute [local go_sem] max2_int min2_int max_two min_two max_three min_three max_four min_four
def refs_Text.f (a0 : ByteArray) : Option (ByteArray) := (refs_written.f a0 false).bind fun t470 => (some t470)
set_option maxHeartbeats 8000000 in
set_option maxRecDepth 100000 in
theorem refs_Text.calls (a0 : ByteArray) (r : ByteArray) (w : World) (h : refs_Text.f a0 = some r) :
  Calls Tryd.prog 38 #[.string a0] w fun e w' => e = .returned (.string r) ∧ Below w.heap.size w w' := by
 have HB := Aside0.mk (Below.refl w.heap.size w)
 have H : ((refs_written.f a0 false).bind fun t470 => (some t470)) = some r := h
 clear h
 replace H := Option.bind_eq_some_iff.mp H
 obtain ⟨t470, A20, H⟩ := H
 have A2 := Aside0.mk A20
 clear A20
 obtain rfl := Option.some.inj H
 go_enter Tryd.func38, Tryd.ntmps38
 go_wp2_with (first | ((with_reducible refine gate_callee (f := 62) rfl ?_); refine goesL_ (some 4) rfl rfl Tryd.func62 (by kernel_rfl) rfl #[.string a0, .bool false] rfl y15_ ?_; (with_reducible refine (refs_written.calls a0 false t470 _ A2.out).mono ?_); rintro e w3 ⟨rfl, hb⟩; refine ⟨_, rfl, ?_⟩; have n0_ := Aside0.mk (below_step y14_ hb); clear HB; have HB := n0_; clear n0_; (try clear hb); (try clear hb2); (try clear hk); (try clear hi)))
 go_ret
 exact ⟨y13_, y14_⟩
end Go.Proofs.YtpnhjipaeggcpaaDoor.X
end
